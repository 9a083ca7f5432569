import PyProof.Rows.All
import PyProof.AttrMissHeap
import PyProof.ExcBaseAll.Exception
import PyProof.ExcInit
import Wide.All
import OpenK.AllK
import Wide.FinOn
import PySem.Challenge.RW_no0225_01
set_option Elab.async false
set_option linter.all false
set_option maxRecDepth 100000
section
set_option tactic.hygienic false
open PySem
namespace Mine
section
variable {Q : Prop}
theorem el02 {p0 p1 : Prop} (h : p0 /\ p1) (k : p0 -> p1 -> Q) : Q := by
  obtain ⟨h0, h1⟩ := h
  exact k h0 h1
theorem el03 {p0 p1 p2 : Prop} (h : p0 /\ p1 /\ p2) (k : p0 -> p1 -> p2 -> Q) : Q := by
  obtain ⟨h0, h1, h2⟩ := h
  exact k h0 h1 h2
theorem el04 {p0 p1 p2 p3 : Prop} (h : p0 /\ p1 /\ p2 /\ p3) (k : p0 -> p1 -> p2 -> p3 -> Q) : Q := by
  obtain ⟨h0, h1, h2, h3⟩ := h
  exact k h0 h1 h2 h3
theorem el05 {p0 p1 p2 p3 p4 : Prop} (h : p0 /\ p1 /\ p2 /\ p3 /\ p4) (k : p0 -> p1 -> p2 -> p3 -> p4 -> Q) : Q := by
  obtain ⟨h0, h1, h2, h3, h4⟩ := h
  exact k h0 h1 h2 h3 h4
theorem el11 {α0 : Sort _} {p0 : α0 -> Prop} (h : ∃ x0, p0 x0) (k : ∀ x0, p0 x0 -> Q) : Q := by
  obtain ⟨x0, h0⟩ := h
  exact k x0 h0
theorem el12 {α0 : Sort _} {p0 p1 : α0 -> Prop} (h : ∃ x0, p0 x0 /\ p1 x0) (k : ∀ x0, p0 x0 -> p1 x0 -> Q) : Q := by
  obtain ⟨x0, h0, h1⟩ := h
  exact k x0 h0 h1
theorem el13 {α0 : Sort _} {p0 p1 p2 : α0 -> Prop} (h : ∃ x0, p0 x0 /\ p1 x0 /\ p2 x0) (k : ∀ x0, p0 x0 -> p1 x0 -> p2 x0 -> Q) : Q := by
  obtain ⟨x0, h0, h1, h2⟩ := h
  exact k x0 h0 h1 h2
theorem el14 {α0 : Sort _} {p0 p1 p2 p3 : α0 -> Prop} (h : ∃ x0, p0 x0 /\ p1 x0 /\ p2 x0 /\ p3 x0) (k : ∀ x0, p0 x0 -> p1 x0 -> p2 x0 -> p3 x0 -> Q) : Q := by
  obtain ⟨x0, h0, h1, h2, h3⟩ := h
  exact k x0 h0 h1 h2 h3
theorem el15 {α0 : Sort _} {p0 p1 p2 p3 p4 : α0 -> Prop} (h : ∃ x0, p0 x0 /\ p1 x0 /\ p2 x0 /\ p3 x0 /\ p4 x0) (k : ∀ x0, p0 x0 -> p1 x0 -> p2 x0 -> p3 x0 -> p4 x0 -> Q) : Q := by
  obtain ⟨x0, h0, h1, h2, h3, h4⟩ := h
  exact k x0 h0 h1 h2 h3 h4
theorem el21 {α0 : Sort _} {α1 : Sort _} {p0 : α0 -> α1 -> Prop} (h : ∃ x0 x1, p0 x0 x1) (k : ∀ x0 x1, p0 x0 x1 -> Q) : Q := by
  obtain ⟨x0, x1, h0⟩ := h
  exact k x0 x1 h0
theorem el22 {α0 : Sort _} {α1 : Sort _} {p0 p1 : α0 -> α1 -> Prop} (h : ∃ x0 x1, p0 x0 x1 /\ p1 x0 x1) (k : ∀ x0 x1, p0 x0 x1 -> p1 x0 x1 -> Q) : Q := by
  obtain ⟨x0, x1, h0, h1⟩ := h
  exact k x0 x1 h0 h1
theorem el23 {α0 : Sort _} {α1 : Sort _} {p0 p1 p2 : α0 -> α1 -> Prop} (h : ∃ x0 x1, p0 x0 x1 /\ p1 x0 x1 /\ p2 x0 x1) (k : ∀ x0 x1, p0 x0 x1 -> p1 x0 x1 -> p2 x0 x1 -> Q) : Q := by
  obtain ⟨x0, x1, h0, h1, h2⟩ := h
  exact k x0 x1 h0 h1 h2
theorem el24 {α0 : Sort _} {α1 : Sort _} {p0 p1 p2 p3 : α0 -> α1 -> Prop} (h : ∃ x0 x1, p0 x0 x1 /\ p1 x0 x1 /\ p2 x0 x1 /\ p3 x0 x1) (k : ∀ x0 x1, p0 x0 x1 -> p1 x0 x1 -> p2 x0 x1 -> p3 x0 x1 -> Q) : Q := by
  obtain ⟨x0, x1, h0, h1, h2, h3⟩ := h
  exact k x0 x1 h0 h1 h2 h3
theorem el25 {α0 : Sort _} {α1 : Sort _} {p0 p1 p2 p3 p4 : α0 -> α1 -> Prop} (h : ∃ x0 x1, p0 x0 x1 /\ p1 x0 x1 /\ p2 x0 x1 /\ p3 x0 x1 /\ p4 x0 x1) (k : ∀ x0 x1, p0 x0 x1 -> p1 x0 x1 -> p2 x0 x1 -> p3 x0 x1 -> p4 x0 x1 -> Q) : Q := by
  obtain ⟨x0, x1, h0, h1, h2, h3, h4⟩ := h
  exact k x0 x1 h0 h1 h2 h3 h4
theorem el26 {α0 : Sort _} {α1 : Sort _} {p0 p1 p2 p3 p4 p5 : α0 -> α1 -> Prop} (h : ∃ x0 x1, p0 x0 x1 /\ p1 x0 x1 /\ p2 x0 x1 /\ p3 x0 x1 /\ p4 x0 x1 /\ p5 x0 x1) (k : ∀ x0 x1, p0 x0 x1 -> p1 x0 x1 -> p2 x0 x1 -> p3 x0 x1 -> p4 x0 x1 -> p5 x0 x1 -> Q) : Q := by
  obtain ⟨x0, x1, h0, h1, h2, h3, h4, h5⟩ := h
  exact k x0 x1 h0 h1 h2 h3 h4 h5
theorem el31 {α0 : Sort _} {α1 : Sort _} {α2 : Sort _} {p0 : α0 -> α1 -> α2 -> Prop} (h : ∃ x0 x1 x2, p0 x0 x1 x2) (k : ∀ x0 x1 x2, p0 x0 x1 x2 -> Q) : Q := by
  obtain ⟨x0, x1, x2, h0⟩ := h
  exact k x0 x1 x2 h0
theorem el32 {α0 : Sort _} {α1 : Sort _} {α2 : Sort _} {p0 p1 : α0 -> α1 -> α2 -> Prop} (h : ∃ x0 x1 x2, p0 x0 x1 x2 /\ p1 x0 x1 x2) (k : ∀ x0 x1 x2, p0 x0 x1 x2 -> p1 x0 x1 x2 -> Q) : Q := by
  obtain ⟨x0, x1, x2, h0, h1⟩ := h
  exact k x0 x1 x2 h0 h1
theorem el33 {α0 : Sort _} {α1 : Sort _} {α2 : Sort _} {p0 p1 p2 : α0 -> α1 -> α2 -> Prop} (h : ∃ x0 x1 x2, p0 x0 x1 x2 /\ p1 x0 x1 x2 /\ p2 x0 x1 x2) (k : ∀ x0 x1 x2, p0 x0 x1 x2 -> p1 x0 x1 x2 -> p2 x0 x1 x2 -> Q) : Q := by
  obtain ⟨x0, x1, x2, h0, h1, h2⟩ := h
  exact k x0 x1 x2 h0 h1 h2
theorem el34 {α0 : Sort _} {α1 : Sort _} {α2 : Sort _} {p0 p1 p2 p3 : α0 -> α1 -> α2 -> Prop} (h : ∃ x0 x1 x2, p0 x0 x1 x2 /\ p1 x0 x1 x2 /\ p2 x0 x1 x2 /\ p3 x0 x1 x2) (k : ∀ x0 x1 x2, p0 x0 x1 x2 -> p1 x0 x1 x2 -> p2 x0 x1 x2 -> p3 x0 x1 x2 -> Q) : Q := by
  obtain ⟨x0, x1, x2, h0, h1, h2, h3⟩ := h
  exact k x0 x1 x2 h0 h1 h2 h3
theorem el35 {α0 : Sort _} {α1 : Sort _} {α2 : Sort _} {p0 p1 p2 p3 p4 : α0 -> α1 -> α2 -> Prop} (h : ∃ x0 x1 x2, p0 x0 x1 x2 /\ p1 x0 x1 x2 /\ p2 x0 x1 x2 /\ p3 x0 x1 x2 /\ p4 x0 x1 x2) (k : ∀ x0 x1 x2, p0 x0 x1 x2 -> p1 x0 x1 x2 -> p2 x0 x1 x2 -> p3 x0 x1 x2 -> p4 x0 x1 x2 -> Q) : Q := by
  obtain ⟨x0, x1, x2, h0, h1, h2, h3, h4⟩ := h
  exact k x0 x1 x2 h0 h1 h2 h3 h4
theorem el36 {α0 : Sort _} {α1 : Sort _} {α2 : Sort _} {p0 p1 p2 p3 p4 p5 : α0 -> α1 -> α2 -> Prop} (h : ∃ x0 x1 x2, p0 x0 x1 x2 /\ p1 x0 x1 x2 /\ p2 x0 x1 x2 /\ p3 x0 x1 x2 /\ p4 x0 x1 x2 /\ p5 x0 x1 x2) (k : ∀ x0 x1 x2, p0 x0 x1 x2 -> p1 x0 x1 x2 -> p2 x0 x1 x2 -> p3 x0 x1 x2 -> p4 x0 x1 x2 -> p5 x0 x1 x2 -> Q) : Q := by
  obtain ⟨x0, x1, x2, h0, h1, h2, h3, h4, h5⟩ := h
  exact k x0 x1 x2 h0 h1 h2 h3 h4 h5
theorem el41 {α0 : Sort _} {α1 : Sort _} {α2 : Sort _} {α3 : Sort _} {p0 : α0 -> α1 -> α2 -> α3 -> Prop} (h : ∃ x0 x1 x2 x3, p0 x0 x1 x2 x3) (k : ∀ x0 x1 x2 x3, p0 x0 x1 x2 x3 -> Q) : Q := by
  obtain ⟨x0, x1, x2, x3, h0⟩ := h
  exact k x0 x1 x2 x3 h0
theorem el43 {α0 : Sort _} {α1 : Sort _} {α2 : Sort _} {α3 : Sort _} {p0 p1 p2 : α0 -> α1 -> α2 -> α3 -> Prop} (h : ∃ x0 x1 x2 x3, p0 x0 x1 x2 x3 /\ p1 x0 x1 x2 x3 /\ p2 x0 x1 x2 x3) (k : ∀ x0 x1 x2 x3, p0 x0 x1 x2 x3 -> p1 x0 x1 x2 x3 -> p2 x0 x1 x2 x3 -> Q) : Q := by
  obtain ⟨x0, x1, x2, x3, h0, h1, h2⟩ := h
  exact k x0 x1 x2 x3 h0 h1 h2
theorem el44 {α0 : Sort _} {α1 : Sort _} {α2 : Sort _} {α3 : Sort _} {p0 p1 p2 p3 : α0 -> α1 -> α2 -> α3 -> Prop} (h : ∃ x0 x1 x2 x3, p0 x0 x1 x2 x3 /\ p1 x0 x1 x2 x3 /\ p2 x0 x1 x2 x3 /\ p3 x0 x1 x2 x3) (k : ∀ x0 x1 x2 x3, p0 x0 x1 x2 x3 -> p1 x0 x1 x2 x3 -> p2 x0 x1 x2 x3 -> p3 x0 x1 x2 x3 -> Q) : Q := by
  obtain ⟨x0, x1, x2, x3, h0, h1, h2, h3⟩ := h
  exact k x0 x1 x2 x3 h0 h1 h2 h3
theorem el45 {α0 : Sort _} {α1 : Sort _} {α2 : Sort _} {α3 : Sort _} {p0 p1 p2 p3 p4 : α0 -> α1 -> α2 -> α3 -> Prop} (h : ∃ x0 x1 x2 x3, p0 x0 x1 x2 x3 /\ p1 x0 x1 x2 x3 /\ p2 x0 x1 x2 x3 /\ p3 x0 x1 x2 x3 /\ p4 x0 x1 x2 x3) (k : ∀ x0 x1 x2 x3, p0 x0 x1 x2 x3 -> p1 x0 x1 x2 x3 -> p2 x0 x1 x2 x3 -> p3 x0 x1 x2 x3 -> p4 x0 x1 x2 x3 -> Q) : Q := by
  obtain ⟨x0, x1, x2, x3, h0, h1, h2, h3, h4⟩ := h
  exact k x0 x1 x2 x3 h0 h1 h2 h3 h4
theorem el46 {α0 : Sort _} {α1 : Sort _} {α2 : Sort _} {α3 : Sort _} {p0 p1 p2 p3 p4 p5 : α0 -> α1 -> α2 -> α3 -> Prop} (h : ∃ x0 x1 x2 x3, p0 x0 x1 x2 x3 /\ p1 x0 x1 x2 x3 /\ p2 x0 x1 x2 x3 /\ p3 x0 x1 x2 x3 /\ p4 x0 x1 x2 x3 /\ p5 x0 x1 x2 x3) (k : ∀ x0 x1 x2 x3, p0 x0 x1 x2 x3 -> p1 x0 x1 x2 x3 -> p2 x0 x1 x2 x3 -> p3 x0 x1 x2 x3 -> p4 x0 x1 x2 x3 -> p5 x0 x1 x2 x3 -> Q) : Q := by
  obtain ⟨x0, x1, x2, x3, h0, h1, h2, h3, h4, h5⟩ := h
  exact k x0 x1 x2 x3 h0 h1 h2 h3 h4 h5
theorem el52 {α0 : Sort _} {α1 : Sort _} {α2 : Sort _} {α3 : Sort _} {α4 : Sort _} {p0 p1 : α0 -> α1 -> α2 -> α3 -> α4 -> Prop} (h : ∃ x0 x1 x2 x3 x4, p0 x0 x1 x2 x3 x4 /\ p1 x0 x1 x2 x3 x4) (k : ∀ x0 x1 x2 x3 x4, p0 x0 x1 x2 x3 x4 -> p1 x0 x1 x2 x3 x4 -> Q) : Q := by
  obtain ⟨x0, x1, x2, x3, x4, h0, h1⟩ := h
  exact k x0 x1 x2 x3 x4 h0 h1
theorem el53 {α0 : Sort _} {α1 : Sort _} {α2 : Sort _} {α3 : Sort _} {α4 : Sort _} {p0 p1 p2 : α0 -> α1 -> α2 -> α3 -> α4 -> Prop} (h : ∃ x0 x1 x2 x3 x4, p0 x0 x1 x2 x3 x4 /\ p1 x0 x1 x2 x3 x4 /\ p2 x0 x1 x2 x3 x4) (k : ∀ x0 x1 x2 x3 x4, p0 x0 x1 x2 x3 x4 -> p1 x0 x1 x2 x3 x4 -> p2 x0 x1 x2 x3 x4 -> Q) : Q := by
  obtain ⟨x0, x1, x2, x3, x4, h0, h1, h2⟩ := h
  exact k x0 x1 x2 x3 x4 h0 h1 h2
theorem el55 {α0 : Sort _} {α1 : Sort _} {α2 : Sort _} {α3 : Sort _} {α4 : Sort _} {p0 p1 p2 p3 p4 : α0 -> α1 -> α2 -> α3 -> α4 -> Prop} (h : ∃ x0 x1 x2 x3 x4, p0 x0 x1 x2 x3 x4 /\ p1 x0 x1 x2 x3 x4 /\ p2 x0 x1 x2 x3 x4 /\ p3 x0 x1 x2 x3 x4 /\ p4 x0 x1 x2 x3 x4) (k : ∀ x0 x1 x2 x3 x4, p0 x0 x1 x2 x3 x4 -> p1 x0 x1 x2 x3 x4 -> p2 x0 x1 x2 x3 x4 -> p3 x0 x1 x2 x3 x4 -> p4 x0 x1 x2 x3 x4 -> Q) : Q := by
  obtain ⟨x0, x1, x2, x3, x4, h0, h1, h2, h3, h4⟩ := h
  exact k x0 x1 x2 x3 x4 h0 h1 h2 h3 h4
theorem el56 {α0 : Sort _} {α1 : Sort _} {α2 : Sort _} {α3 : Sort _} {α4 : Sort _} {p0 p1 p2 p3 p4 p5 : α0 -> α1 -> α2 -> α3 -> α4 -> Prop} (h : ∃ x0 x1 x2 x3 x4, p0 x0 x1 x2 x3 x4 /\ p1 x0 x1 x2 x3 x4 /\ p2 x0 x1 x2 x3 x4 /\ p3 x0 x1 x2 x3 x4 /\ p4 x0 x1 x2 x3 x4 /\ p5 x0 x1 x2 x3 x4) (k : ∀ x0 x1 x2 x3 x4, p0 x0 x1 x2 x3 x4 -> p1 x0 x1 x2 x3 x4 -> p2 x0 x1 x2 x3 x4 -> p3 x0 x1 x2 x3 x4 -> p4 x0 x1 x2 x3 x4 -> p5 x0 x1 x2 x3 x4 -> Q) : Q := by
  obtain ⟨x0, x1, x2, x3, x4, h0, h1, h2, h3, h4, h5⟩ := h
  exact k x0 x1 x2 x3 x4 h0 h1 h2 h3 h4 h5
theorem el57 {α0 : Sort _} {α1 : Sort _} {α2 : Sort _} {α3 : Sort _} {α4 : Sort _} {p0 p1 p2 p3 p4 p5 p6 : α0 -> α1 -> α2 -> α3 -> α4 -> Prop} (h : ∃ x0 x1 x2 x3 x4, p0 x0 x1 x2 x3 x4 /\ p1 x0 x1 x2 x3 x4 /\ p2 x0 x1 x2 x3 x4 /\ p3 x0 x1 x2 x3 x4 /\ p4 x0 x1 x2 x3 x4 /\ p5 x0 x1 x2 x3 x4 /\ p6 x0 x1 x2 x3 x4) (k : ∀ x0 x1 x2 x3 x4, p0 x0 x1 x2 x3 x4 -> p1 x0 x1 x2 x3 x4 -> p2 x0 x1 x2 x3 x4 -> p3 x0 x1 x2 x3 x4 -> p4 x0 x1 x2 x3 x4 -> p5 x0 x1 x2 x3 x4 -> p6 x0 x1 x2 x3 x4 -> Q) : Q := by
  obtain ⟨x0, x1, x2, x3, x4, h0, h1, h2, h3, h4, h5, h6⟩ := h
  exact k x0 x1 x2 x3 x4 h0 h1 h2 h3 h4 h5 h6
theorem el62 {α0 : Sort _} {α1 : Sort _} {α2 : Sort _} {α3 : Sort _} {α4 : Sort _} {α5 : Sort _} {p0 p1 : α0 -> α1 -> α2 -> α3 -> α4 -> α5 -> Prop} (h : ∃ x0 x1 x2 x3 x4 x5, p0 x0 x1 x2 x3 x4 x5 /\ p1 x0 x1 x2 x3 x4 x5) (k : ∀ x0 x1 x2 x3 x4 x5, p0 x0 x1 x2 x3 x4 x5 -> p1 x0 x1 x2 x3 x4 x5 -> Q) : Q := by
  obtain ⟨x0, x1, x2, x3, x4, x5, h0, h1⟩ := h
  exact k x0 x1 x2 x3 x4 x5 h0 h1
theorem el65 {α0 : Sort _} {α1 : Sort _} {α2 : Sort _} {α3 : Sort _} {α4 : Sort _} {α5 : Sort _} {p0 p1 p2 p3 p4 : α0 -> α1 -> α2 -> α3 -> α4 -> α5 -> Prop} (h : ∃ x0 x1 x2 x3 x4 x5, p0 x0 x1 x2 x3 x4 x5 /\ p1 x0 x1 x2 x3 x4 x5 /\ p2 x0 x1 x2 x3 x4 x5 /\ p3 x0 x1 x2 x3 x4 x5 /\ p4 x0 x1 x2 x3 x4 x5) (k : ∀ x0 x1 x2 x3 x4 x5, p0 x0 x1 x2 x3 x4 x5 -> p1 x0 x1 x2 x3 x4 x5 -> p2 x0 x1 x2 x3 x4 x5 -> p3 x0 x1 x2 x3 x4 x5 -> p4 x0 x1 x2 x3 x4 x5 -> Q) : Q := by
  obtain ⟨x0, x1, x2, x3, x4, x5, h0, h1, h2, h3, h4⟩ := h
  exact k x0 x1 x2 x3 x4 x5 h0 h1 h2 h3 h4
theorem el66 {α0 : Sort _} {α1 : Sort _} {α2 : Sort _} {α3 : Sort _} {α4 : Sort _} {α5 : Sort _} {p0 p1 p2 p3 p4 p5 : α0 -> α1 -> α2 -> α3 -> α4 -> α5 -> Prop} (h : ∃ x0 x1 x2 x3 x4 x5, p0 x0 x1 x2 x3 x4 x5 /\ p1 x0 x1 x2 x3 x4 x5 /\ p2 x0 x1 x2 x3 x4 x5 /\ p3 x0 x1 x2 x3 x4 x5 /\ p4 x0 x1 x2 x3 x4 x5 /\ p5 x0 x1 x2 x3 x4 x5) (k : ∀ x0 x1 x2 x3 x4 x5, p0 x0 x1 x2 x3 x4 x5 -> p1 x0 x1 x2 x3 x4 x5 -> p2 x0 x1 x2 x3 x4 x5 -> p3 x0 x1 x2 x3 x4 x5 -> p4 x0 x1 x2 x3 x4 x5 -> p5 x0 x1 x2 x3 x4 x5 -> Q) : Q := by
  obtain ⟨x0, x1, x2, x3, x4, x5, h0, h1, h2, h3, h4, h5⟩ := h
  exact k x0 x1 x2 x3 x4 x5 h0 h1 h2 h3 h4 h5
theorem el74 {α0 : Sort _} {α1 : Sort _} {α2 : Sort _} {α3 : Sort _} {α4 : Sort _} {α5 : Sort _} {α6 : Sort _} {p0 p1 p2 p3 : α0 -> α1 -> α2 -> α3 -> α4 -> α5 -> α6 -> Prop} (h : ∃ x0 x1 x2 x3 x4 x5 x6, p0 x0 x1 x2 x3 x4 x5 x6 /\ p1 x0 x1 x2 x3 x4 x5 x6 /\ p2 x0 x1 x2 x3 x4 x5 x6 /\ p3 x0 x1 x2 x3 x4 x5 x6) (k : ∀ x0 x1 x2 x3 x4 x5 x6, p0 x0 x1 x2 x3 x4 x5 x6 -> p1 x0 x1 x2 x3 x4 x5 x6 -> p2 x0 x1 x2 x3 x4 x5 x6 -> p3 x0 x1 x2 x3 x4 x5 x6 -> Q) : Q := by
  obtain ⟨x0, x1, x2, x3, x4, x5, x6, h0, h1, h2, h3⟩ := h
  exact k x0 x1 x2 x3 x4 x5 x6 h0 h1 h2 h3
theorem el76 {α0 : Sort _} {α1 : Sort _} {α2 : Sort _} {α3 : Sort _} {α4 : Sort _} {α5 : Sort _} {α6 : Sort _} {p0 p1 p2 p3 p4 p5 : α0 -> α1 -> α2 -> α3 -> α4 -> α5 -> α6 -> Prop} (h : ∃ x0 x1 x2 x3 x4 x5 x6, p0 x0 x1 x2 x3 x4 x5 x6 /\ p1 x0 x1 x2 x3 x4 x5 x6 /\ p2 x0 x1 x2 x3 x4 x5 x6 /\ p3 x0 x1 x2 x3 x4 x5 x6 /\ p4 x0 x1 x2 x3 x4 x5 x6 /\ p5 x0 x1 x2 x3 x4 x5 x6) (k : ∀ x0 x1 x2 x3 x4 x5 x6, p0 x0 x1 x2 x3 x4 x5 x6 -> p1 x0 x1 x2 x3 x4 x5 x6 -> p2 x0 x1 x2 x3 x4 x5 x6 -> p3 x0 x1 x2 x3 x4 x5 x6 -> p4 x0 x1 x2 x3 x4 x5 x6 -> p5 x0 x1 x2 x3 x4 x5 x6 -> Q) : Q := by
  obtain ⟨x0, x1, x2, x3, x4, x5, x6, h0, h1, h2, h3, h4, h5⟩ := h
  exact k x0 x1 x2 x3 x4 x5 x6 h0 h1 h2 h3 h4 h5
theorem el86 {α0 : Sort _} {α1 : Sort _} {α2 : Sort _} {α3 : Sort _} {α4 : Sort _} {α5 : Sort _} {α6 : Sort _} {α7 : Sort _} {p0 p1 p2 p3 p4 p5 : α0 -> α1 -> α2 -> α3 -> α4 -> α5 -> α6 -> α7 -> Prop} (h : ∃ x0 x1 x2 x3 x4 x5 x6 x7, p0 x0 x1 x2 x3 x4 x5 x6 x7 /\ p1 x0 x1 x2 x3 x4 x5 x6 x7 /\ p2 x0 x1 x2 x3 x4 x5 x6 x7 /\ p3 x0 x1 x2 x3 x4 x5 x6 x7 /\ p4 x0 x1 x2 x3 x4 x5 x6 x7 /\ p5 x0 x1 x2 x3 x4 x5 x6 x7) (k : ∀ x0 x1 x2 x3 x4 x5 x6 x7, p0 x0 x1 x2 x3 x4 x5 x6 x7 -> p1 x0 x1 x2 x3 x4 x5 x6 x7 -> p2 x0 x1 x2 x3 x4 x5 x6 x7 -> p3 x0 x1 x2 x3 x4 x5 x6 x7 -> p4 x0 x1 x2 x3 x4 x5 x6 x7 -> p5 x0 x1 x2 x3 x4 x5 x6 x7 -> Q) : Q := by
  obtain ⟨x0, x1, x2, x3, x4, x5, x6, x7, h0, h1, h2, h3, h4, h5⟩ := h
  exact k x0 x1 x2 x3 x4 x5 x6 x7 h0 h1 h2 h3 h4 h5
theorem el87 {α0 : Sort _} {α1 : Sort _} {α2 : Sort _} {α3 : Sort _} {α4 : Sort _} {α5 : Sort _} {α6 : Sort _} {α7 : Sort _} {p0 p1 p2 p3 p4 p5 p6 : α0 -> α1 -> α2 -> α3 -> α4 -> α5 -> α6 -> α7 -> Prop} (h : ∃ x0 x1 x2 x3 x4 x5 x6 x7, p0 x0 x1 x2 x3 x4 x5 x6 x7 /\ p1 x0 x1 x2 x3 x4 x5 x6 x7 /\ p2 x0 x1 x2 x3 x4 x5 x6 x7 /\ p3 x0 x1 x2 x3 x4 x5 x6 x7 /\ p4 x0 x1 x2 x3 x4 x5 x6 x7 /\ p5 x0 x1 x2 x3 x4 x5 x6 x7 /\ p6 x0 x1 x2 x3 x4 x5 x6 x7) (k : ∀ x0 x1 x2 x3 x4 x5 x6 x7, p0 x0 x1 x2 x3 x4 x5 x6 x7 -> p1 x0 x1 x2 x3 x4 x5 x6 x7 -> p2 x0 x1 x2 x3 x4 x5 x6 x7 -> p3 x0 x1 x2 x3 x4 x5 x6 x7 -> p4 x0 x1 x2 x3 x4 x5 x6 x7 -> p5 x0 x1 x2 x3 x4 x5 x6 x7 -> p6 x0 x1 x2 x3 x4 x5 x6 x7 -> Q) : Q := by
  obtain ⟨x0, x1, x2, x3, x4, x5, x6, x7, h0, h1, h2, h3, h4, h5, h6⟩ := h
  exact k x0 x1 x2 x3 x4 x5 x6 x7 h0 h1 h2 h3 h4 h5 h6
end
theorem om0 {a b : Nat} (h0 : (a + (b + 1)) <= 1000000) : a <= 16777216 := Nat.le_of_lt (Nat.lt_of_le_of_lt (Nat.le_trans (Nat.le_add_right a (b + 1)) h0) (by decide : 1000000 < 16777216))
theorem om1 {a b c : Nat} (h0 : (c + (b + 1)) <= 1000000) (h1 : a <= (c + 1)) : (a + b) <= 1000000 := Nat.le_trans (Nat.add_le_add_right h1 b) (Nat.le_trans (Nat.le_of_eq (Nat.add_right_comm c 1 b)) h0)
theorem om2 {a b c : Nat} (h0 : a <= (c + 1)) : (a + b) <= (c + (b + 1)) := Nat.le_trans (Nat.add_le_add_right h0 b) (Nat.le_of_eq (Nat.add_right_comm c 1 b))
theorem om3 {a b : Nat} (h0 : a = b) (h1 : b <= 1000000) : (0 + a) <= 1000000 := Nat.le_trans (Nat.le_of_eq ((Nat.zero_add a).trans h0)) h1
theorem om4 {a b c : Nat} (h0 : b = c) (h1 : c <= 1000000) (h2 : a <= b) : a <= 1000000 := Nat.le_trans (Nat.le_trans h2 (Nat.le_of_eq h0)) h1
theorem om5 {a : Nat} (h0 : a <= 900) : a < 1000 := Nat.lt_of_le_of_lt h0 (by decide : 900 < 1000)
theorem om6 {a b : Nat} (h0 : (a + (b + 1)) <= 400) : (a + 1) <= 900 := Nat.lt_of_le_of_lt (Nat.le_trans (Nat.le_add_right a (b + 1)) h0) (by decide : 400 < 900)
theorem om7 {a b : Nat} (h0 : b < 64) (h1 : b = a) : a <= 16777216 := Nat.le_of_lt (Nat.lt_trans (Nat.lt_of_le_of_lt (Nat.le_of_eq h1.symm) h0) (by decide : 64 < 16777216))
theorem om8 {a b c : Nat} (h0 : b < 64) (h1 : b = c) (h2 : a = c) : a < 64 := Eq.symm h2 ▸ Eq.ndrec (motive := fun {b} => b < 64 -> c < 64) (fun h0 => h0) (Eq.symm h1) h0
theorem om9 {a : Nat} (h0 : a <= 10) : (a + 1) <= 1000 := Nat.lt_of_le_of_lt h0 (by decide : 10 < 1000)
theorem om10 {a b : Nat} (h0 : (a + (b + 1)) <= 400) : (a + 1) < 1000 := Nat.lt_of_le_of_lt (Nat.add_le_add_right (Nat.le_trans (Nat.le_add_right a (b + 1)) h0) 1) (by decide)
theorem om11 {a : Nat} : a <= ((a + 1) + 1) := Nat.le_of_lt (Nat.le_succ (Nat.succ a))
theorem om12 {a : Int} (h0 : (0 : Int) <= a) : (0 : Int) <= (a + (1 : Int)) := Int.le_of_lt (Int.lt_of_le_of_lt h0 (Int.lt_add_of_pos_right a (by decide)))
theorem om13 {a : Int} (h0 : (-(100000 : Int)) < a) (h1 : a < (1000000 : Int)) : ((-(1099511627776 : Int)) < a) /\ (a < (1099511627776 : Int)) := ⟨(Int.lt_trans (by decide : (-1099511627776 : Int) < (-100000 : Int)) h0), (Int.lt_trans h1 (by decide : (1000000 : Int) < (1099511627776 : Int)))⟩
theorem om14 {a : Int} (h0 : (-(100000 : Int)) < a) (h1 : a < (1000000 : Int)) : ((-(1000000 : Int)) < a) /\ (a < (1000000 : Int)) := ⟨(Int.lt_trans (by decide : (-1000000 : Int) < (-100000 : Int)) h0), h1⟩
theorem om15 {a : Int} (h0 : (0 : Int) <= a) : (-(100000 : Int)) < a := Int.lt_of_lt_of_le (by decide : (-100000 : Int) < (0 : Int)) h0
theorem om16 {a : Int} (h0 : a < (500 : Int)) : a < (1000000 : Int) := Int.lt_trans h0 (by decide : (500 : Int) < (1000000 : Int))
theorem om17 : (-(100000 : Int)) < (1 : Int) := Int.NonNeg.mk (1 + Nat.succ 99998)
theorem om18 : (1 : Int) < (1000000 : Int) := Int.ofNat_nonneg 999998
theorem om19 {a : Int} (h0 : (0 : Int) < a) : (-(100000 : Int)) < a := Int.lt_trans (by decide : (-100000 : Int) < (0 : Int)) h0
theorem om20 {a : Int} (h0 : a < (1000 : Int)) : a < (1000000 : Int) := Int.lt_trans h0 (by decide : (1000 : Int) < (1000000 : Int))
theorem om21 {a : Int} {b : Nat} (h0 : (0 : Int) <= a) (h1 : a < (b : Int)) : (Int.toNat a) < b := (Int.toNat_lt h0).mpr h1
theorem om23 {a : Int} (h0 : a < (500 : Int)) : a <= (500 : Int) := Int.le_of_lt h0
theorem om24 : (0 : Int) <= (500 : Int) := Int.ofNat_nonneg 500
theorem om25 : (0 : Int) <= (4 : Int) := Int.ofNat_nonneg 4
theorem om26 {a : Int} (h0 : (a * a) <= (250000 : Int)) : ((a * a) / (4 : Int)) <= (250000 : Int) := Int.le_trans (Int.ediv_le_ediv (by decide) h0) (by decide)
theorem om27 : (-(100000 : Int)) < (5 : Int) := Int.NonNeg.mk (5 + Nat.succ 99998)
theorem om28 : (5 : Int) < (1000000 : Int) := Int.ofNat_nonneg 999994
theorem om29 {a : Int} (h0 : (0 : Int) <= (a * a)) : (-(100000 : Int)) < (a * a) := Int.lt_of_lt_of_le (by decide : (-100000 : Int) < (0 : Int)) h0
theorem om30 {a : Int} (h0 : (a * a) <= (250000 : Int)) : (a * a) < (1000000 : Int) := Int.lt_of_le_of_lt h0 (by decide : (250000 : Int) < (1000000 : Int))
theorem om31 : (-(100000 : Int)) < (4 : Int) := Int.NonNeg.mk (4 + Nat.succ 99998)
theorem om32 : (4 : Int) < (1000000 : Int) := Int.ofNat_nonneg 999995
theorem om33 {a : Int} (h0 : (0 : Int) <= a) : (-(100000 : Int)) < ((5 : Int) * a) := by omega
theorem om34 {a : Int} (h0 : a < (500 : Int)) : ((5 : Int) * a) < (1000000 : Int) := by omega
theorem om35 {a : Int} (h0 : a <= (250000 : Int)) : a < (1000000 : Int) := Int.lt_of_le_of_lt h0 (by decide : (250000 : Int) < (1000000 : Int))
theorem om36 {a b : Int} (h0 : (0 : Int) <= a) (h1 : (0 : Int) <= b) : (-(100000 : Int)) < (((5 : Int) * a) + b) := by omega
theorem om37 {a b : Int} (h0 : a < (500 : Int)) (h1 : b <= (250000 : Int)) : (((5 : Int) * a) + b) < (1000000 : Int) := Int.lt_of_lt_of_le (Int.add_lt_add_of_lt_of_le (Int.mul_lt_mul_of_pos_left h0 (by decide)) h1) (by decide)
theorem om38 : (-(100000 : Int)) < (3 : Int) := Int.NonNeg.mk (3 + Nat.succ 99998)
theorem om39 : (3 : Int) < (1000000 : Int) := Int.ofNat_nonneg 999996
theorem om40 {a b : Nat} (h0 : (0 + a) = b) : a = b := by omega
theorem om41 {a b c : Nat} (h0 : ((c + 1) + a) = b) : a < b := by omega
theorem om42 {a b c : Nat} (h0 : ((a + 1) + b) = c) : (a + (b + 1)) = c := (Nat.add_right_comm a b 1).trans h0
theorem om43 {a : Nat} (h0 : a < 100) : a < 4096 := Nat.lt_trans h0 (by decide : 100 < 4096)
theorem om44 {a : Int} : a <= (a + (1 : Int)) := Int.le_of_lt (Int.le_refl (a + 1))
theorem om45 {a : Nat} : a <= (a + 1) := Nat.le_succ a
theorem om46 {a : Nat} : a <= ((a + (0 + 1)) + 1) := Nat.le_of_lt (Nat.le_succ (Nat.succ a))
theorem om47 : (0 : Int) < (4 : Int) := Int.ofNat_nonneg 3
theorem om48 : (4 : Int) < (1000 : Int) := Int.ofNat_nonneg 995
theorem om49 {a : Int} (h0 : (a + (1 : Int)) < (500 : Int)) : (a + (1 : Int)) < (500 : Int) := h0
theorem om50 {a : Int} (h0 : (0 : Int) <= a) : ((10 : Int) * ((1 : Int) + a)) ≠ (0 : Int) := by omega
theorem om51 {a b : Int} (h0 : (0 : Int) <= b) (h1 : a = ((10 : Int) * ((1 : Int) + b))) : a ≠ (0 : Int) := by omega
theorem om52 : (-(1000000 : Int)) < (1 : Int) := Int.NonNeg.mk (1 + Nat.succ 999998)
theorem om53 {a : Int} (h0 : (0 : Int) <= a) : (-(1000000 : Int)) < a := Int.lt_of_lt_of_le (by decide : (-1000000 : Int) < (0 : Int)) h0
theorem om54 {a : Int} (h0 : a < (4 : Int)) : a < (1000000 : Int) := Int.lt_trans h0 (by decide : (4 : Int) < (1000000 : Int))
theorem om55 {a : Int} (h0 : (0 : Int) <= a) (h1 : a < (4 : Int)) : ((-(1000000 : Int)) < ((1 : Int) + a)) /\ (((1 : Int) + a) < (1000000 : Int)) := ⟨Int.lt_of_lt_of_le (by decide) (Int.add_le_add_left h0 1), Int.lt_trans (Int.add_lt_add_left h1 1) (by decide)⟩
theorem om56 : (0 : Int) < (6 : Int) := Int.ofNat_nonneg 5
theorem om57 : (6 : Int) < (1000 : Int) := Int.ofNat_nonneg 993
theorem om58 {a : Int} (h0 : (0 : Int) <= a) (h1 : a < (6 : Int)) : (a = (0 : Int)) \/ ((a = (1 : Int)) \/ ((a = (2 : Int)) \/ ((a = (3 : Int)) \/ ((a = (4 : Int)) \/ (a = (5 : Int)))))) := by obtain ⟨n, rfl⟩ := Int.eq_ofNat_of_zero_le h0; exact (by decide : ∀ n : Nat, n < 6 -> ((n : Int) = 0 \/ (n : Int) = 1 \/ (n : Int) = 2 \/ (n : Int) = 3 \/ (n : Int) = 4 \/ (n : Int) = 5)) n (Int.ofNat_lt.mp h1)
theorem om59 {a : Int} (h0 : (0 : Int) <= a) (h1 : a < (6 : Int)) : ((0 : Int) <= a) /\ (a < (1000000 : Int)) := ⟨h0, (Int.lt_trans h1 (by decide : (6 : Int) < (1000000 : Int)))⟩
theorem om60 : (0 : Int) < (9 : Int) := Int.ofNat_nonneg 8
theorem om61 : (9 : Int) < (1000 : Int) := Int.ofNat_nonneg 990
theorem om62 {a : Int} (h0 : (a + (2 : Int)) < (500 : Int)) : (a + (1 : Int)) < (500 : Int) := by omega
theorem om63 {a : Int} (h0 : (a + (2 : Int)) < (500 : Int)) : ((a + (1 : Int)) + (1 : Int)) < (500 : Int) := by omega
theorem om64 {a b : Int} (h0 : a <= ((b + (1 : Int)) + (1 : Int))) : a <= (b + (2 : Int)) := Int.le_trans h0 (Int.le_of_eq (Int.add_assoc _ _ _))
theorem om65 {a b : Int} (h0 : (a + (1 : Int)) <= b) : a <= b := Int.le_of_lt h0
theorem om66 {a b c : Nat} (h0 : (a + (b + 1)) <= c) : ((a + 1) + b) <= c := by omega
theorem om67 {a b c : Nat} (h0 : (a + (c + 1)) <= b) : a < b := Nat.le_trans (Nat.succ_le_succ (Nat.le_add_right a c)) h0
theorem om68 {a : Int} {b : Nat} {c : Int} (h0 : b < (Int.toNat c)) (h1 : a <= ((1 : Int) + ((2 : Int) * (b : Int)))) (h2 : c <= (17 : Int)) : (a + (2 : Int)) < (500 : Int) := Int.lt_of_le_of_lt (Int.add_le_add_right (Int.le_trans h1 (Int.add_le_add_left (Int.mul_le_mul_of_nonneg_left (Int.le_trans (Int.ofNat_le.mpr (Nat.le_trans (Nat.le_of_lt h0) (Int.toNat_le.mpr (h2 : c <= ((17 : Nat) : Int))))) (Int.le_refl 17)) (by decide)) 1)) 2) (by decide)
theorem om69 {a b : Nat} {c : Int} (h0 : b < (Int.toNat c)) (h1 : a = b) (h2 : c <= (17 : Int)) : a < 100 := Nat.lt_of_le_of_lt (Nat.le_of_eq h1) (Nat.lt_of_lt_of_le h0 (Nat.le_trans (Int.toNat_le.mpr (h2 : c <= ((17 : Nat) : Int))) (by decide)))
theorem om70 {a b : Nat} {c : Int} (h0 : b < (Int.toNat c)) (h1 : c <= (17 : Int)) (h2 : a <= b) : a < 100 := Nat.lt_of_le_of_lt h2 (Nat.lt_of_lt_of_le h0 (Nat.le_trans (Int.toNat_le.mpr (h1 : c <= ((17 : Nat) : Int))) (by decide)))
theorem om71 {a b c : Nat} (h0 : a = (c + 1)) (h1 : c = b) : a = (b + 1) := Eq.symm h0 ▸ h1 ▸ rfl
theorem om72 {a b c : Nat} (h0 : a <= (c + 1)) (h1 : c <= b) : a <= (b + 1) := Nat.le_trans h0 (Nat.succ_le_succ h1)
theorem om73 {a : Int} {b : Nat} {c : Int} (h0 : c <= ((1 : Int) + ((2 : Int) * (b : Int)))) (h1 : a <= (c + (2 : Int))) : a <= ((1 : Int) + ((2 : Int) * ((b : Int) + (1 : Int)))) := Int.le_trans h1 (Int.le_trans (Int.add_le_add_right h0 2) (Int.le_of_eq (by rw [Int.mul_add]; exact Int.add_assoc _ _ _)))
theorem om74 {a b : Int} (h0 : (0 : Int) <= b) (h1 : b <= a) : (0 : Int) <= a := Int.le_trans h0 h1
theorem om75 {a : Nat} : (Int.toNat ((a : Int) + (1 : Int))) = (a + 1) := Eq.refl (Int.toNat (↑a + 1))
theorem om76 {a : Nat} : (0 : Int) <= ((a : Int) + (1 : Int)) := Int.ofNat_nonneg (a + 1)
theorem om77 {a : Nat} (h0 : ((a : Int) + (1 : Int)) < (1000000 : Int)) : (a : Int) < (1000000 : Int) := Int.lt_trans (Int.lt_add_of_pos_right (a : Int) (by decide)) h0
theorem om78 {a : Nat} (h0 : a < 1000) : a < 4096 := Nat.lt_trans h0 (by decide : 1000 < 4096)
theorem om83 {a : Nat} (h0 : a <= 1000) : a <= 4096 := Nat.le_of_lt (Nat.lt_of_le_of_lt h0 (by decide : 1000 < 4096))
theorem om84 {a b c d : Nat} (h0 : b < c) (h1 : d <= 100) (h2 : c <= 100) (h3 : a <= (d + b)) : a < 1000 := Nat.lt_of_le_of_lt (Nat.le_trans h3 (Nat.add_le_add h1 (Nat.le_of_lt (Nat.lt_of_lt_of_le h0 h2)))) (by decide)
theorem om85 {a : Nat} (h0 : a <= 100) : a < 1000 := Nat.lt_of_le_of_lt h0 (by decide : 100 < 1000)
theorem om86 {a b c d : Nat} (h0 : a <= (d + 1)) (h1 : d <= (b + c)) : a <= (b + (c + 1)) := Nat.le_trans h0 (Nat.succ_le_succ h1)
theorem om87 {a b : Nat} (h0 : b < a) : a ≠ b := Nat.ne_of_gt h0
theorem om88 {a b : Nat} (h0 : b < a) : (a + 1) ≠ b := Nat.ne_of_gt (Nat.lt_trans h0 (Nat.lt_succ_self a))
theorem om89 {a : Nat} : a ≠ (a + 1) := Nat.ne_of_lt (Nat.le_refl (Nat.succ a))
theorem om90 : (0 : Int) < (17 : Int) := Int.ofNat_nonneg 16
theorem om91 : (17 : Int) < (1000 : Int) := Int.ofNat_nonneg 982
theorem om92 : ((0 : Int) + (1 : Int)) < (500 : Int) := Int.ofNat_nonneg 498
theorem om93 : ((0 : Int) + (1 : Int)) <= ((1 : Int) + ((2 : Int) * ((0 : Nat) : Int))) := Int.NonNeg.mk (1 - Nat.succ 0)
theorem om94 : (0 : Int) <= ((0 : Int) + (1 : Int)) := Int.ofNat_nonneg (0 + 1)
theorem om95 {a : Int} (h0 : a < (17 : Int)) : a <= (17 : Int) := Int.le_of_lt h0
theorem om96 {a : Int} (h0 : (0 : Int) <= a) (h1 : a < (17 : Int)) : ((-(1000000 : Int)) < a) /\ (a < (1000000 : Int)) := ⟨(Int.lt_of_lt_of_le (by decide : (-1000000 : Int) < (0 : Int)) h0), (Int.lt_trans h1 (by decide : (17 : Int) < (1000000 : Int)))⟩
theorem om97 {a b : Int} (h0 : b < (17 : Int)) (h1 : a <= ((1 : Int) + ((2 : Int) * (((Int.toNat b) : Nat) : Int)))) : (a + (1 : Int)) < (500 : Int) := Int.lt_of_le_of_lt (Int.add_le_add_right (Int.le_trans h1 (Int.add_le_add_left (Int.mul_le_mul_of_nonneg_left (Int.le_trans (Int.ofNat_le.mpr (Int.toNat_le.mpr (Int.le_of_lt h0 : b <= ((17 : Nat) : Int)))) (Int.le_refl 17)) (by decide)) 1)) 1) (by decide)
theorem om98 {a : Nat} {b : Int} (h0 : b < (17 : Int)) (h1 : a = (Int.toNat b)) : a <= 16 := Nat.le_trans (Nat.le_of_eq h1) (Int.toNat_le.mpr (Int.le_of_lt_add_one h0 : b <= ((16 : Nat) : Int)))
theorem om99 {a : Nat} (h0 : a <= 16) : a <= 40 := Nat.le_of_lt (Nat.lt_of_le_of_lt h0 (by decide : 16 < 40))
theorem om100 {a b : Nat} {c : Int} (h0 : b = (Int.toNat c)) (h1 : b <= 16) (h2 : a <= (Int.toNat c)) : a <= 1000 := Nat.le_of_lt (Nat.lt_of_le_of_lt (Nat.le_trans (Nat.le_trans h2 (Nat.le_of_eq h0.symm)) h1) (by decide : 16 < 1000))
theorem om101 {a : Nat} (h0 : a <= 16) : a <= (16 + 0) := h0
theorem om102 {a b : Nat} {c : Int} (h0 : b = (Int.toNat c)) (h1 : b <= 16) (h2 : a <= (Int.toNat c)) : a <= 16 := Nat.le_trans (Nat.le_trans h2 (Nat.le_of_eq h0.symm)) h1
theorem om103 {a b : Nat} (h0 : a < b) : a ≠ b := Nat.ne_of_lt h0
theorem om104 : 16 <= 100 := Nat.le_add_left 16 84
theorem om105 {a : Nat} (h0 : a <= 16) : a <= 100 := Nat.le_of_lt (Nat.lt_of_le_of_lt h0 (by decide : 16 < 100))
theorem om106 {a : Nat} (h0 : a <= 16) : ((-(1000000 : Int)) < (a : Int)) /\ ((a : Int) < (1000000 : Int)) := ⟨Int.lt_of_lt_of_le (by decide) (Int.natCast_nonneg a), Int.lt_of_le_of_lt (Int.ofNat_le.mpr h0) (by decide)⟩
theorem om107 {a b : Nat} (h0 : a <= (16 + b)) (h1 : b <= 16) : a <= 40 := Nat.le_trans h0 (Nat.le_trans (Nat.add_le_add_left h1 16) (by decide))
theorem om108 {a : Nat} : ¬(a < 0) := Nat.not_lt_of_le (Nat.le_add_left 0 a)
theorem om109 {a b : Nat} (h0 : ¬(b < a)) : a <= b := Nat.le_of_not_lt h0
theorem om110 {a b : Nat} (h0 : (a - b) = 0) (h1 : ¬(a < b)) : a = b := Nat.le_antisymm (Nat.sub_eq_zero_iff_le.mp h0) (Nat.le_of_not_lt h1)
theorem om111 {a b : Nat} (h0 : ¬((a - b) = 0)) : 1 <= (a - b) := Nat.pos_of_ne_zero h0
theorem om112 {a b : Nat} {c d : Int} (h0 : (a < b) /\ ((c ≠ (0 : Int)) /\ (d = c))) : a < (b + 1) := Nat.lt_trans h0.1 (Nat.lt_succ_self b)
theorem om113 {a b : Nat} {c d : Int} (h0 : (a < (b + 1)) /\ ((c ≠ (0 : Int)) /\ (d = c))) (h1 : ¬(a = b)) : a < b := Nat.lt_of_le_of_ne (Nat.le_of_lt_succ h0.1) h1
theorem om114 {a b : Nat} (h0 : a < b) : a < (b + 1) := Nat.le_of_lt (Nat.lt_succ_of_le h0)
theorem om115 {a b : Nat} (h0 : ¬(a = b)) (h1 : a < (b + 1)) : a < b := Nat.lt_of_le_of_ne (Nat.le_of_lt_succ h1) h0
theorem om116 {a b c : Nat} (h0 : a < c) (h1 : b = c) : a < b := Eq.symm h1 ▸ h0
theorem om117 {a b c d : Nat} (h0 : a < c) (h1 : c < d) (h2 : b = d) : a < b := Nat.lt_of_lt_of_le (Nat.lt_trans h0 h1) (Nat.le_of_eq h2.symm)
theorem om118 {a b : Nat} (h0 : a = b) (h1 : a > b) : False := Nat.ne_of_lt h1 (id (Eq.symm h0))
theorem om119 {a b : Nat} (h0 : a < (b + 1)) (h1 : a ≠ b) : a < b := by omega
theorem om120 {a : Nat} (h0 : a <= 0) : a = 0 := Nat.le_antisymm h0 (Nat.le_add_left 0 a)
theorem om121 {a b : Nat} (h0 : ¬(a = (b + 1))) (h1 : a <= (b + 1)) : a <= b := Nat.le_of_lt_succ (Nat.lt_of_le_of_ne h1 h0)
theorem om122 {a b : Nat} (h0 : a < b) (h1 : b <= a) : False := Nat.lt_irrefl _ (Nat.lt_of_lt_of_le h0 h1)
theorem om123 {a b : Nat} (h0 : ¬(b = a)) (h1 : a <= b) : (a + 1) <= b := Nat.lt_of_le_of_ne h1 (Ne.symm h0)
theorem om124 {a b : Nat} (h0 : b ≠ a) (h1 : a <= b) : a < b := by omega
theorem om125 {a : Nat} : ¬(a < a) := Nat.lt_irrefl a
theorem om126 {a b : Nat} (h0 : ¬(a < b)) (h1 : a < (b + 1)) : a = b := Nat.le_antisymm (Nat.le_of_lt_succ h1) (Nat.le_of_not_lt h0)
theorem om127 {a b : Nat} (h0 : b < a) : (((a : Int) - (1 : Int)) - (b : Int)) = ((((a - 1) - b) : Nat) : Int) := by rw [Int.ofNat_sub (Nat.le_sub_one_of_lt h0), Int.ofNat_sub (Nat.le_trans (Nat.succ_le_succ (Nat.zero_le b)) h0)]; rfl
theorem om128 {a b : Nat} (h0 : (((a : Int) - (1 : Int)) - (b : Int)) = ((((a - 1) - b) : Nat) : Int)) : (((((a - 1) - b) : Nat) : Int) - (1 : Int)) = (((a : Int) - (1 : Int)) - (((b + 1) : Nat) : Int)) := by rw [<- h0]; exact Int.sub_sub _ _ _
theorem om129 {a b : Int} {c : Nat} (h0 : (c : Int) < (a - b)) : (0 : Int) < ((((Int.toNat (a - b)) : Nat) : Int) - (c : Int)) := Int.sub_pos_of_lt (Int.lt_of_lt_of_le h0 (Int.self_le_toNat _))
theorem om130 {a : Int} {b : Nat} : ((a + (b : Int)) + (1 : Int)) = (a + (((b + 1) : Nat) : Int)) := Int.add_assoc _ _ _
theorem om131 {a b : Int} {c : Nat} : (((((Int.toNat (a - b)) : Nat) : Int) - (c : Int)) - (1 : Int)) = ((((Int.toNat (a - b)) : Nat) : Int) - (((c + 1) : Nat) : Int)) := Int.sub_sub _ _ _
theorem om132 {a b c : Nat} (h0 : b = c) (h1 : c = a) : a <= b := h1 ▸ Eq.symm h0 ▸ Nat.le_refl c
theorem om133 {a b : Nat} (h0 : b = a) : (((a : Int) - (1 : Int)) - (b : Int)) = (-(1 : Int)) := by omega
theorem om134 {a b : Int} {c : Nat} (h0 : c = (Int.toNat (a - b))) : ((((Int.toNat (a - b)) : Nat) : Int) - (c : Int)) <= (0 : Int) := Int.le_of_eq (by rw [h0]; exact Int.sub_self _)
theorem om137 {a : Int} : (a + ((0 : Nat) : Int)) = a := by omega
theorem om138 {a : Nat} (h0 : a <= 4096) : a <= 16777216 := Nat.le_of_lt (Nat.lt_of_le_of_lt h0 (by decide : 4096 < 16777216))
theorem om139 {a b : Nat} (h0 : b < a) : (a - (b + 1)) < (a - b) := Nat.sub_lt_sub_left h0 (Nat.lt_succ_self b)
theorem om140 {a b : Nat} (h0 : ¬(a < b)) (h1 : a <= b) : a = b := Nat.le_antisymm h1 (Nat.le_of_not_lt h0)
theorem om141 {a : Nat} (h0 : (a + 2) < (a + 1)) : False := by omega
theorem om142 {a : Nat} (h0 : a <= 4096) : a <= 1000000 := Nat.le_of_lt (Nat.lt_of_le_of_lt h0 (by decide : 4096 < 1000000))
theorem om143 {a : Nat} : (((a : Int) - (1 : Int)) - ((0 : Nat) : Int)) = ((a : Int) - (1 : Int)) := Int.sub_zero _
theorem om144 {a b : Nat} (h0 : (a : Int) < (b : Int)) : a < b := Iff.mp Int.ofNat_lt h0
theorem om146 {a b : Nat} (h0 : b = a) (h1 : b <= 1000000) : a <= 16777216 := Nat.le_of_lt (Nat.lt_of_le_of_lt (Nat.le_trans (Nat.le_of_eq h0.symm) h1) (by decide : 1000000 < 16777216))
theorem om147 {a b c : Nat} (h0 : b < c) (h1 : c = 4096) (h2 : a <= (b + 1)) : a <= 1000000 := Nat.le_trans h2 (Nat.le_trans h0 (Nat.le_trans (Nat.le_of_eq h1) (by decide)))
theorem om149 {a b : Nat} (h0 : (a + (b + 2)) <= 400) : ((a + 1) + (b + 1)) <= 400 := Nat.le_trans (Nat.le_of_eq (Nat.add_right_comm a 1 (b + 1))) h0
theorem om150 {a b : Nat} (h0 : (a + (20 * (b + 2))) <= 1000) : ((a + 3) + (20 * (b + 1))) <= 1000 := Nat.le_trans (by rw [Nat.add_right_comm]; exact Nat.add_le_add_left (by decide : 3 <= 20) _) h0
theorem om151 {a b c : Nat} (h0 : (a + (c + 2)) <= 400) (h1 : b = 1000) : a < b := Nat.lt_of_lt_of_le (Nat.lt_of_le_of_lt (Nat.le_trans (Nat.le_add_right a (c + 2)) h0) (by decide : 400 < 1000)) (Nat.le_of_eq h1.symm)
theorem om152 {a b c : Nat} (h0 : a < (min b c)) : a < b := Nat.lt_of_lt_of_le h0 (Nat.min_le_left b c)
theorem om153 {a b : Nat} (h0 : b = 9900) (h1 : a <= 1000) : (a + 64) < b := Nat.lt_of_lt_of_le (Nat.lt_of_le_of_lt (Nat.add_le_add_right h1 64) (by decide : 1000 + 64 < 9900)) (Nat.le_of_eq h0.symm)
theorem om154 {a b : Nat} (h0 : b = 9900) (h1 : a <= 1000) : ((a + 1) + 64) < b := Nat.lt_of_lt_of_le (Nat.lt_of_le_of_lt (Nat.add_le_add_right (Nat.succ_le_succ h1) 64) (by decide : 1000 + 1 + 64 < 9900)) (Nat.le_of_eq h0.symm)
theorem om155 {a b : Nat} (h0 : b = 9900) (h1 : a <= 1000) : a < b := Nat.lt_of_lt_of_le (Nat.lt_of_le_of_lt h1 (by decide : 1000 < 9900)) (Nat.le_of_eq h0.symm)
theorem om156 {a : Int} (h0 : (0 : Int) < a) : a ≠ (0 : Int) := Int.ne_of_gt h0
theorem om159 {a b c : Nat} (h0 : (a + b) < c) (h1 : c = 4096) : (a + b) <= 16777216 := Nat.le_of_lt (Nat.lt_trans (Nat.lt_of_lt_of_le h0 (Nat.le_of_eq h1)) (by decide : 4096 < 16777216))
theorem om161 {a b : Nat} (h0 : (b - 1) < b) (h1 : b = a) : (-(a : Int)) <= (-(1 : Int)) := Int.neg_le_neg (Int.ofNat_le.mpr (h1 ▸ Nat.lt_of_le_of_lt (Nat.zero_le _) h0))
theorem om162 {a b : Nat} (h0 : b = a) : (Int.toNat ((-(1 : Int)) + (a : Int))) = (b - 1) := by subst h0; cases b with | zero => rfl | succ n => exact congrArg Int.toNat ((Int.add_comm (-1 : Int) _).trans (Int.add_neg_cancel_right (n : Int) 1))
theorem om164 {a : Int} {b : Nat} (h0 : (Int.toNat a) < b) : a < (b : Int) := Int.lt_of_le_of_lt (Int.self_le_toNat a) (Int.ofNat_lt.mpr h0)
theorem om165 {a : Nat} (h0 : a <= 1000) : a <= 16777216 := Nat.le_of_lt (Nat.lt_of_le_of_lt h0 (by decide : 1000 < 16777216))
theorem om166 {a : Nat} (h0 : a <= 1000) : a <= 1000000 := Nat.le_of_lt (Nat.lt_of_le_of_lt h0 (by decide : 1000 < 1000000))
theorem om168 {a : Nat} : (max (0 : Int) (min ((-(1 : Int)) + (a : Int)) (a : Int))) = (((a - 1) : Nat) : Int) := by cases a with | zero => rfl | succ n => exact (congrArg (fun x => max 0 (min x ((n + 1 : Nat) : Int))) ((Int.add_comm (-1 : Int) _).trans (Int.add_neg_cancel_right (n : Int) 1))).trans ((congrArg (max 0) (Int.min_eq_left (Int.ofNat_le.mpr (Nat.le_succ n)))).trans (Int.max_eq_right (Int.natCast_nonneg n)))
theorem om169 {a : Int} (h0 : (0 : Int) <= a) : ¬(a < (0 : Int)) := Int.not_lt_of_ge h0
theorem om170 {a : Int} {b : Nat} : (max (0 : Int) (min a (b : Int))) = (((min (Int.toNat a) b) : Nat) : Int) := by cases a with | ofNat n => show max (0 : Int) (min (n : Int) b) = ((min n b : Nat) : Int); exact (Nat.le_total n b).elim (fun h => by rw [Int.min_eq_left (Int.ofNat_le.mpr h), Nat.min_eq_left h]; exact Int.max_eq_right (Int.natCast_nonneg _)) (fun h => by rw [Int.min_eq_right (Int.ofNat_le.mpr h), Nat.min_eq_right h]; exact Int.max_eq_right (Int.natCast_nonneg _)) | negSucc n => exact (Int.max_eq_left (Int.le_trans (Int.min_le_left _ _) (Int.le_of_lt (Int.negSucc_lt_zero n)))).trans (congrArg Int.ofNat (Nat.zero_min b).symm)
theorem om171 {a b : Nat} (h0 : a = b) (h1 : b <= 1000) : a <= 16777216 := Nat.le_of_lt (Nat.lt_of_le_of_lt (Nat.le_trans (Nat.le_of_eq h0) h1) (by decide : 1000 < 16777216))
theorem om172 {a : Int} {b : Nat} (h0 : b <= 1000) : (min (Int.toNat a) b) <= 1000000 := Nat.le_of_lt (Nat.lt_of_le_of_lt (Nat.le_trans (Nat.min_le_right (Int.toNat a) b) h0) (by decide : 1000 < 1000000))
theorem om173 {a : Nat} (h0 : a <= 1000000) : (a - 1) <= 1000000 := Nat.le_trans (Nat.sub_le a 1) h0
theorem om174 {a : Nat} (h0 : a < 20) : a < 30 := Nat.lt_trans h0 (by decide : 20 < 30)
theorem om175 {a b : Nat} (h0 : a < b) (h1 : b = 4096) : a <= 999999 := Nat.le_of_lt (Nat.lt_trans (Nat.lt_of_lt_of_le h0 (Nat.le_of_eq h1)) (by decide : 4096 < 999999))
theorem om176 {a : Int} (h0 : (-(1000000 : Int)) < a) (h1 : a < (1000000 : Int)) : ((-(1099511627776 : Int)) < a) /\ (a < (1099511627776 : Int)) := ⟨(Int.lt_trans (by decide : (-1099511627776 : Int) < (-1000000 : Int)) h0), (Int.lt_trans h1 (by decide : (1000000 : Int) < (1099511627776 : Int)))⟩
theorem om177 {a : Int} (h0 : (-(1000000 : Int)) < a) (h1 : a < (1000000 : Int)) : ((-(1000000 : Int)) < a) /\ (a < (1000000 : Int)) := ⟨h0, h1⟩
theorem om178 {a b : Nat} (h0 : b < b) : a <= b := by omega
theorem om179 {a b c : Nat} (h0 : b < c) (h1 : c <= a) : a ≠ b := Nat.ne_of_gt (Nat.lt_of_lt_of_le h0 h1)
theorem om180 {a : Nat} (h0 : a < 1000000) : (a : Int) < (1000000 : Int) := by omega
theorem om181 {a : Nat} (h0 : a < 1000) : a < 1000000 := Nat.lt_trans h0 (by decide : 1000 < 1000000)
theorem om182 {a : Nat} (h0 : a < 1000) : (a : Int) < (1000000 : Int) := Int.ofNat_lt.mpr (Nat.lt_of_le_of_lt (Nat.le_of_lt h0) (by decide))
theorem om183 {a : Nat} (h0 : a < 1000) : (a + 1) < 4096 := Nat.lt_of_le_of_lt (Nat.add_le_add_right (Nat.le_of_lt h0) 1) (by decide)
theorem om184 {a : Nat} : ¬((((a + 1) : Nat) : Int) = (0 : Int)) := by omega
theorem om185 {a : Nat} (h0 : (a + 1) < 1000) : (((a + 1) : Nat) : Int) < (1000000 : Int) := Int.ofNat_lt.mpr (Nat.lt_of_le_of_lt (Nat.le_of_lt h0) (by decide))
theorem om186 {a : Nat} : ((((a + 1) : Nat) : Int) - (1 : Int)) = (a : Int) := by omega
theorem om187 {a b : Nat} (h0 : a < b) (h1 : b <= 100) : (a : Int) < (1000000 : Int) := Int.ofNat_lt.mpr (Nat.lt_of_le_of_lt (Nat.le_of_lt (Nat.lt_of_lt_of_le h0 h1)) (by decide))
theorem om188 {a b : Nat} (h0 : a < b) (h1 : b <= 100) : ((a : Int) + (1 : Int)) < (1000000 : Int) := (Int.ofNat_lt.mpr (Nat.lt_of_le_of_lt (Nat.le_trans h0 h1) (by decide)) : ((a + 1 : Nat) : Int) < ((1000000 : Nat) : Int))
theorem om189 {a : Nat} (h0 : a <= 100) : (a : Int) < (1000000 : Int) := Int.ofNat_lt.mpr (Nat.lt_of_le_of_lt h0 (by decide))
theorem om190 {a b c : Nat} (h0 : (b : Int) < ((c : Int) - ((a : Int) + (1 : Int)))) : ((a + 1) + b) < c := by omega
theorem om191 {a b : Nat} : (((a : Int) + (1 : Int)) + (b : Int)) = ((((a + 1) + b) : Nat) : Int) := rfl
theorem om194 {a b : Nat} (h0 : a < b) : ((a + 1) + (Int.toNat ((b : Int) - ((a : Int) + (1 : Int))))) = b := (congrArg (a + 1 + ·) (Int.toNat_sub b (a + 1))).trans (Nat.add_sub_cancel' h0)
theorem om195 {a b c : Nat} (h0 : a < c) (h1 : c = b) : a < b := h1 ▸ h0
theorem om196 {a b : Nat} (h0 : b < 1000) (h1 : a = b) : a < 4096 := Nat.lt_trans (Nat.lt_of_le_of_lt (Nat.le_of_eq h1) h0) (by decide : 1000 < 4096)
theorem om198 {a : Nat} (h0 : (a = 1) \/ (a = 2)) : (a = 1) \/ ((a = 2) \/ (a = 3)) := h0.imp id Or.inl
theorem om199 {a b : Nat} (h0 : b < 1000) (h1 : a < b) : a < 1000000 := Nat.lt_trans (Nat.lt_trans h1 h0) (by decide : 1000 < 1000000)
theorem om200 {a b c : Nat} (h0 : b < 1000) (h1 : c < b) (h2 : a = c) : a < 1000 := Nat.lt_trans (Nat.lt_of_le_of_lt (Nat.le_of_eq h2) h1) h0
theorem om201 {a b c d : Nat} (h0 : b < 1000) (h1 : c < b) (h2 : d <= c) (h3 : a <= d) : a < 1000 := Nat.lt_trans (Nat.lt_of_le_of_lt (Nat.le_trans h3 h2) h1) h0
theorem om202 {a b : Nat} (h0 : a < b) : a ≠ (b + 1) := Nat.ne_of_lt (Nat.lt_trans h0 (Nat.lt_succ_self b))
theorem om203 {a b : Nat} (h0 : (a : Int) < ((b : Int) - (0 : Int))) : a < b := Iff.mp Int.ofNat_lt h0
theorem om204 {a b : Nat} (h0 : (b : Int) < ((a : Int) - (0 : Int))) : a = ((b + 1) + (a - (b + 1))) := by omega
theorem om205 {a b : Nat} (h0 : ¬(a = b)) : ¬((a : Int) = (b : Int)) := by omega
theorem om206 {a b : Nat} (h0 : b < a) : a = ((b + 1) + (a - (b + 1))) := by omega
theorem om207 {a b c : Nat} (h0 : a = ((b + 1) + c)) : (Int.toNat ((a : Int) - ((b : Int) + (1 : Int)))) = c := (Int.toNat_sub a (b + 1)).trans (by rw [h0, Nat.add_sub_cancel_left])
theorem om208 {a b : Nat} (h0 : b < (a + 1)) : ¬(a < b) := Nat.not_le_of_lt h0
theorem om209 {a b : Nat} : a < ((a + 1) + b) := Nat.le_add_right (Nat.succ a) b
theorem om212 {a b : Nat} (h0 : a <= 100) : ((a : Int) - ((b : Int) + (1 : Int))) <= (4096 : Int) := Int.le_trans (Int.sub_le_self _ (Int.natCast_nonneg (b + 1))) (Int.le_trans (Int.ofNat_le.mpr h0) (by decide))
theorem om214 {a b : Nat} (h0 : a < b) (h1 : b <= 100) : a < 1000000 := Nat.lt_trans (Nat.lt_of_lt_of_le h0 h1) (by decide : 100 < 1000000)
theorem om215 {a b : Nat} (h0 : b <= 100) (h1 : a <= b) : a <= 100 := Nat.le_trans h1 h0
theorem om216 {a b c : Nat} (h0 : b < c) (h1 : c <= 100) (h2 : a <= b) : a <= 100 := Nat.le_of_lt (Nat.lt_of_lt_of_le (Nat.lt_of_le_of_lt h2 h0) h1)
theorem om217 {a : Nat} (h0 : a <= 100) : a < 4096 := Nat.lt_of_le_of_lt h0 (by decide : 100 < 4096)
theorem om219 {a b : Nat} (h0 : a = b) (h1 : b <= 100) : a < 1000 := Nat.lt_of_le_of_lt (Nat.le_trans (Nat.le_of_eq h0) h1) (by decide : 100 < 1000)
theorem om220 {a b c d : Nat} (h0 : (a < b) /\ ((b < c) /\ (c < d))) : ((a : Int) < (b : Int)) /\ (((b : Int) < (c : Int)) /\ ((c : Int) < (d : Int))) := ⟨(Int.ofNat_lt.mpr h0.1), ⟨(Int.ofNat_lt.mpr h0.2.1), (Int.ofNat_lt.mpr h0.2.2)⟩⟩
theorem om221 {a b c d : Nat} (h0 : ¬((a < b) /\ ((b < c) /\ (c < d)))) : ¬(((a : Int) < (b : Int)) /\ (((b : Int) < (c : Int)) /\ ((c : Int) < (d : Int)))) := fun h => h0 ⟨Int.ofNat_lt.mp h.1, Int.ofNat_lt.mp h.2.1, Int.ofNat_lt.mp h.2.2⟩
theorem om222 {a : Int} {b : Nat} (h0 : (0 : Int) <= a) (h1 : ¬(a = (b : Int))) : (Int.toNat a) ≠ b := fun e => h1 (e ▸ (Int.toNat_of_nonneg h0).symm)
theorem om223 {a : Int} {b : Nat} (h0 : ¬((0 : Int) <= a)) : a ≠ (b : Int) := by omega
theorem om224 {a b : Nat} : ((a : Int) = (b : Int)) ↔ (a = b) := by omega
theorem om225 {a b c : Nat} (h0 : (b + c) <= 2000) (h1 : a <= b) : a < 4096 := Nat.lt_of_le_of_lt (Nat.le_trans (Nat.le_trans h1 (Nat.le_add_right b c)) h0) (by decide : 2000 < 4096)
theorem om226 {a b c d e : Nat} (h0 : (b + c) <= 2000) (h1 : d < e) (h2 : a <= ((b + 1) + d)) (h3 : e <= c) : a < 4096 := Nat.lt_of_le_of_lt (Nat.le_trans h2 (Nat.le_trans (Nat.le_of_eq (Nat.add_right_comm b 1 d)) (Nat.le_trans (Nat.add_le_add_left (Nat.lt_of_lt_of_le h1 h3) b) h0))) (by decide)
theorem om227 {a b c : Nat} : (((a + 1) + b) + c) <= ((a + (b + c)) + 2) := by omega
theorem om228 {a b c : Nat} (h0 : (b + c) <= 2000) (h1 : a <= c) : a < 4096 := Nat.lt_of_le_of_lt (Nat.le_trans (Nat.le_trans h1 (Nat.le_add_left c b)) h0) (by decide : 2000 < 4096)
theorem om229 {a b c : Nat} : ((a + 1) + (((b + 1) + 1) + c)) <= ((a + ((b + 1) + c)) + 2) := by omega
theorem om230 {a b : Nat} (h0 : b <= 2000) (h1 : a <= b) : a < 4096 := Nat.lt_of_le_of_lt (Nat.le_trans h1 h0) (by decide : 2000 < 4096)
theorem om231 {a b : Nat} (h0 : b <= 3000) (h1 : a <= b) : a < 4096 := Nat.lt_of_le_of_lt (Nat.le_trans h1 h0) (by decide : 3000 < 4096)
theorem om232 {a : Nat} (h0 : a <= 2000) : (a + 1) <= 3000 := Nat.lt_of_le_of_lt h0 (by decide : 2000 < 3000)
theorem om233 {a b : Nat} (h0 : b <= 2000) (h1 : a <= (b + 1)) : a < 4096 := Nat.lt_of_le_of_lt (Nat.le_trans h1 (Nat.succ_le_succ h0)) (by decide)
theorem om234 {a : Nat} (h0 : a <= 2000) : ((a + 1) + 1) <= 3000 := Nat.lt_of_le_of_lt (Nat.add_le_add_right h0 1) (by decide)
theorem om235 {a b : Nat} (h0 : (a + (3 * (b + 1))) <= 2000) : a <= 2000 := Nat.le_trans (Nat.le_add_right a (3 * (b + 1))) h0
theorem om236 {a b : Nat} (h0 : (a + (3 * (b + 1))) <= 2000) : ((a + 3) + (3 * b)) <= 2000 := Nat.le_trans (Nat.le_of_eq (Nat.add_right_comm a 3 (3 * b))) h0
theorem om237 {a b c d : Nat} (h0 : (a + (3 * b)) <= ((c + 3) + (3 * d))) : (a + (3 * b)) <= (c + (3 * (d + 1))) := Nat.le_trans h0 (Nat.le_of_eq (Nat.add_right_comm c 3 (3 * d)))
theorem om238 {a b : Nat} (h0 : b <= 4000) (h1 : a <= b) : a < 4096 := Nat.lt_of_le_of_lt (Nat.le_trans h1 h0) (by decide : 4000 < 4096)
theorem om239 {a b c : Nat} (h0 : a <= c) : (a + 1) <= ((b + 1) + c) := Nat.le_trans (Nat.succ_le_succ h0) (by rw [Nat.add_right_comm]; exact Nat.succ_le_succ (Nat.le_add_left c b))
theorem om240 {a b c d e : Nat} (h0 : ((b + (3 * c)) + d) <= 2000) (h1 : a = e) (h2 : e <= d) : a < 4096 := Nat.lt_of_le_of_lt (Nat.le_trans (Nat.le_trans (Nat.le_trans (Nat.le_of_eq h1) h2) (Nat.le_add_left d (b + (3 * c)))) h0) (by decide : 2000 < 4096)
theorem om241 {a b : Nat} (h0 : (b = 1) \/ ((b = 2) \/ (b = 3))) (h1 : a = b) : a ≠ 0 := fun e => by rw [<- h1, e] at h0; exact absurd h0 (by decide)
theorem om242 {a b : Nat} (h0 : (b = 1) \/ ((b = 2) \/ (b = 3))) (h1 : a = b) : (a = 1) \/ ((a = 2) \/ (a = 3)) := Eq.symm h1 ▸ h0
theorem om243 {a : Nat} (h0 : a <= 60) : a <= 100 := Nat.le_of_lt (Nat.lt_of_le_of_lt h0 (by decide : 60 < 100))
theorem om244 {a b : Nat} (h0 : a < b) (h1 : b <= 60) : a < 1000 := Nat.lt_trans (Nat.lt_of_lt_of_le h0 h1) (by decide : 60 < 1000)
theorem om245 {a b c : Nat} (h0 : ((a + (3 * c)) + b) <= 2000) : (a + b) <= 2000 := Nat.le_trans (Nat.add_le_add_right (Nat.le_add_right a _) b) h0
theorem om246 {a b c d e : Nat} (h0 : (a + c) <= ((d + e) + 2)) : ((a + (3 * b)) + c) <= (((d + (3 * b)) + e) + 10) := by rw [Nat.add_right_comm a, Nat.add_right_comm d]; exact Nat.le_trans (Nat.add_le_add_right h0 (3 * b)) (by rw [Nat.add_right_comm]; exact Nat.add_le_add_left (by decide) _)
theorem om247 {a b c : Nat} : ((a + (3 * (b + 1))) + c) <= (((a + (3 * b)) + c) + 10) := Nat.le_trans (Nat.le_of_eq (Nat.add_right_comm (a + 3 * b) 3 c)) (Nat.add_le_add_left (by decide) _)
theorem om248 {a b c d : Nat} (h0 : ((b + (3 * c)) + d) <= 1000) (h1 : a <= b) : a < 4096 := Nat.lt_of_le_of_lt (Nat.le_trans (Nat.le_trans (Nat.le_trans h1 (Nat.le_add_right b (3 * c))) (Nat.le_add_right (b + (3 * c)) d)) h0) (by decide : 1000 < 4096)
theorem om249 {a b c : Nat} (h0 : ((a + (3 * b)) + c) <= 1000) : ((a + 1) + (3 * b)) <= 2000 := by rw [Nat.add_right_comm]; exact Nat.le_trans (Nat.succ_le_succ (Nat.le_trans (Nat.le_add_right _ c) h0)) (by decide)
theorem om250 {a b c d e : Nat} (h0 : (a + (3 * b)) <= ((d + 1) + (3 * e))) : ((a + (3 * b)) + c) <= (((d + (3 * e)) + c) + 10) := Nat.le_trans (Nat.add_le_add_right h0 c) (by rw [Nat.add_right_comm d 1, Nat.add_right_comm _ 1 c]; exact Nat.add_le_add_left (by decide) _)
theorem om251 {a b : Nat} : a <= ((b + a) + 1) := Nat.le_of_lt (Nat.le_add_left (Nat.succ a) b)
theorem om252 {a b : Nat} (h0 : a < b) (h1 : b <= 60) : a < 1000000 := Nat.lt_trans (Nat.lt_of_lt_of_le h0 h1) (by decide : 60 < 1000000)
theorem om253 {a b c : Nat} (h0 : b < c) (h1 : a <= (10 * b)) (h2 : c <= 60) : a <= 1000 := by omega
theorem om254 {a b c : Nat} (h0 : b < c) (h1 : c <= 60) (h2 : a <= b) : a < 64 := Nat.lt_trans (Nat.lt_of_lt_of_le (Nat.lt_of_le_of_lt h2 h0) h1) (by decide : 60 < 64)
theorem om255 {a b c d e : Nat} (h0 : ((a + (3 * b)) + c) <= (10 * d)) (h1 : d < e) (h2 : e <= 60) : a <= 4000 := Nat.le_trans (Nat.le_trans (Nat.le_add_right a _) (Nat.le_trans (Nat.le_add_right _ c) h0)) (Nat.le_trans (Nat.mul_le_mul_left 10 (Nat.le_of_lt (Nat.lt_of_lt_of_le h1 h2))) (by decide))
theorem om256 {a b c : Nat} (h0 : b < c) (h1 : a <= (10 * b)) (h2 : c <= 60) : a <= 2000 := by omega
theorem om257 {a b c : Nat} : ((a + (3 * b)) + ((0 + 1) + c)) <= (((a + (3 * b)) + c) + 10) := Nat.le_trans (Nat.le_of_eq ((congrArg (a + 3 * b + ·) ((congrArg (· + c) (Nat.zero_add 1)).trans (Nat.add_comm 1 c))))) (Nat.add_le_add_left (by decide : 1 <= 10) (a + 3 * b + c))
theorem om258 {a b c : Nat} (h0 : b < c) (h1 : c <= 60) (h2 : a <= b) : a <= 100 := Nat.le_of_lt (Nat.lt_trans (Nat.lt_of_lt_of_le (Nat.lt_of_le_of_lt h2 h0) h1) (by decide : 60 < 100))
theorem om259 {a : Nat} (h0 : a <= 60) : (a : Int) < (1000000 : Int) := Int.ofNat_lt.mpr (Nat.lt_of_le_of_lt h0 (by decide))
theorem om260 {a b c : Nat} (h0 : c <= (10 * b)) (h1 : a <= (c + 10)) : a <= (10 * (b + 1)) := Nat.le_trans h1 (Nat.add_le_add_right h0 10)
theorem om261 {a b c d : Nat} (h0 : d <= (b + 1)) (h1 : a <= (d + c)) : a <= (b + (c + 1)) := Nat.le_trans h1 (Nat.le_trans (Nat.add_le_add_right h0 c) (Nat.le_of_eq (Nat.add_right_comm b 1 c)))
theorem om262 {a b c d : Nat} (h0 : a = (d + (c + 1))) (h1 : b <= (d + 1)) (h2 : a <= (b + c)) : a = (b + c) := Nat.le_antisymm h2 (by rw [h0]; exact Nat.le_trans (Nat.add_le_add_right h1 c) (Nat.le_of_eq (Nat.add_right_comm d 1 c)))
theorem om263 {a b : Nat} (h0 : a < b) (h1 : a = b) : False := Nat.ne_of_lt h0 h1
theorem om264 {a b : Nat} (h0 : b > a) (h1 : a > b) : a = b := Nat.le_antisymm (Nat.le_of_lt h0) (Nat.le_of_lt h1)
theorem om265 {a : Nat} (h0 : a <= 100) : a <= 4096 := Nat.le_of_lt (Nat.lt_of_le_of_lt h0 (by decide : 100 < 4096))
theorem om266 {a b : Nat} : ((a : Int) = (b : Int)) ↔ (b = a) := by omega
theorem om267 {a : Nat} : (min 40 a) <= 100 := Nat.le_of_lt (Nat.lt_of_le_of_lt (Nat.min_le_left 40 a) (by decide : 40 < 100))
theorem om268 {a : Nat} (h0 : a <= 40) : a <= 100 := Nat.le_of_lt (Nat.lt_of_le_of_lt h0 (by decide : 40 < 100))
theorem om269 {a b : Nat} (h0 : b <= 40) (h1 : a <= b) : a <= 4096 := Nat.le_of_lt (Nat.lt_of_le_of_lt (Nat.le_trans h1 h0) (by decide : 40 < 4096))
theorem om270 {a : Nat} {b : Int} (h0 : (a : Int) = b) (h1 : ¬((0 : Int) <= b)) : False := Eq.ndrec (motive := fun {b} => ¬0 <= b -> False) (fun h1 => h1 (Int.NonNeg.mk (a + 0))) h0 h1
theorem om271 {a b : Nat} (h0 : (a : Int) = (b : Int)) : a = b := by omega
theorem om272 {a : Int} (h0 : (0 : Int) <= a) : a = (((Int.toNat a) : Nat) : Int) := Eq.symm (Int.toNat_of_nonneg h0)
theorem om273 {a b : Nat} (h0 : ¬(a < b)) (h1 : ¬(a = b)) : ¬(a < (b + 1)) := fun h => h0 (Nat.lt_of_le_of_ne (Nat.le_of_lt_succ h) h1)
theorem om274 {a b c : Nat} (h0 : b < c) (h1 : c <= 100) (h2 : a <= b) : a < 4096 := Nat.lt_trans (Nat.lt_of_lt_of_le (Nat.lt_of_le_of_lt h2 h0) h1) (by decide : 100 < 4096)
theorem om275 {a b : Nat} : (min a b) <= b := Nat.min_le_right a b
theorem om276 {a b c : Nat} (h0 : b <= 100) (h1 : a <= c) (h2 : c <= b) : a <= 100 := Nat.le_trans (Nat.le_trans h1 h2) h0
theorem om277 {a : Nat} (h0 : a <= 100) : (a + (0 + 1)) < 4096 := Nat.lt_of_le_of_lt (Nat.succ_le_succ h0) (by decide)
theorem om278 {a b : Nat} (h0 : a < b) : (a : Int) < (b : Int) := Int.ofNat_lt.mpr h0
theorem om279 {a b : Nat} (h0 : b <= 60) (h1 : a <= b) : a < 64 := Nat.lt_of_le_of_lt (Nat.le_trans h1 h0) (by decide : 60 < 64)
theorem om280 {a b : Nat} (h0 : b <= 60) (h1 : a <= b) : a <= 100 := Nat.le_of_lt (Nat.lt_of_le_of_lt (Nat.le_trans h1 h0) (by decide : 60 < 100))
theorem om281 {a b c : Nat} (h0 : (c : Int) = (b : Int)) (h1 : c = a) : a = b := h1.symm.trans (Int.ofNat.inj h0)
theorem om282 {a : Nat} {b : Int} (h0 : ¬((0 : Int) <= b)) : ¬((a : Int) = b) := fun e => h0 (e ▸ Int.natCast_nonneg a)
theorem om283 {a : Nat} (h0 : a <= 40) : a <= 60 := Nat.le_of_lt (Nat.lt_of_le_of_lt h0 (by decide : 40 < 60))
theorem on7 {a b : Nat} (h0 : ¬ b < a) : a <= b := Nat.le_of_not_lt h0
theorem on15 {a : Nat} : -1000000 < (a : Int) := Int.lt_of_lt_of_le (by decide) (Int.natCast_nonneg a)
theorem on16 {a : Nat} : -1000000 < (((a + 1) : Nat) : Int) := on15
theorem on17 {a : Nat} : -1000000 < (a : Int) + 1 := on16
theorem on21 {a : Nat} : a ≠ a + 1 := Nat.ne_of_lt (Nat.lt_succ_self a)
theorem on26 {a b : Nat} (h0 : a = b) : a <= b := Nat.le_of_eq h0
theorem on27 {a : Nat} : a <= a := Nat.le_refl _
theorem no_so {α : Type} {a : α} {P : Prop} (h : none = some a) : P := nomatch h
theorem some_no {α : Type} {a : α} {P : Prop} (h : some a = none) : P := nomatch h
theorem nil_no {α : Type} {a : α} {l : List α} {P : Prop} (h : [] = a :: l) : P := nomatch h
theorem cons_no {α : Type} {a : α} {l : List α} {P : Prop} (h : a :: l = []) : P := nomatch h
theorem some2 {α β : Type} {a c : α} {b d : β} {P : Prop} (h : some (a, b) = some (c, d)) (k : a = c -> b = d -> P) : P := k (Prod.mk.inj (Option.some.inj h)).1 (Prod.mk.inj (Option.some.inj h)).2
theorem cpf {G : Prop} (h : (G -> False) -> False) : G := Classical.byContradiction h
noncomputable section
set_option genSizeOf false
inductive V where
  | none | bool (b : Bool) | int (i : Int) | str (w : Nat) | tup (vs : List V) | lst (n : Nat) | dct (n : Nat) | flow (n : Nat) | rng (lo hi : Int) | scr (xs : List Int)
inductive AO where
  | list (vs : List V)
  | dict (es : List (Int × V))
  | attrs (ds : List Nat)
noncomputable abbrev Sto := List AO
noncomputable abbrev Ls := List (Option V)
inductive Bo where | add | sub | mul | fdiv | mod
inductive Co where | eq | ne | lt | isNone | isNot | isin | notin
set_option genInjectivity false in
inductive CE where
  | none | bool (b : Bool) | int (i : Int) | str (w : Nat)
  | var (i : Nat) | cv
  | tup (es : List CE) | lst (es : List CE) | dict0
  | idx (o i : CE) | slHi (o hi : CE) | attr (o : CE) (k : Nat)
  | bin (op : Bo) (a b : CE)
  | cmp (op : Co) (a b : CE)
  | chain (a b c d : CE)
  | and (es : List CE) | or (es : List CE) | not (e : CE)
  | ite (t a b : CE)
  | call (f : Nat) (args : List CE)
  | len (e : CE) | range1 (e : CE) | range2 (a b : CE) | sorted (e : CE) | mkdict (e : CE) | mklist (e : CE) | newflow
  | app (o x : CE) | pop (o : CE) | get2 (o k d : CE)
  | comp (elt it : CE) (conds : List CE) (rev : Bool)
set_option genInjectivity false in
inductive CS where
  | expr (e : CE)
  | assign (i : Nat) (e : CE)
  | setIdx (o i e : CE)
  | unpack3 (i j k : Nat) (e : CE)
  | aug (i : Nat) (op : Bo) (e : CE)
  | ite (t : CE) (a b : List CS)
  | forr (i : Nat) (it : CE) (body : List CS)
  | whil (t : CE) (body : List CS)
  | ret (e : CE) | retNone | raise | cont
  | tryf (body handler : List CS)
noncomputable def words : List Str := ["if", "elseif", "else", "endif", "do", "continue"]
noncomputable def funNames : List Str := ["open_arm", "note_label", "note_arm", "note_ends", "flow_of", "_law_draw", "_law_rows", "_law_ahead", "_law_arms", "_law_ends"]
noncomputable def attrNames : List Str := ["labels", "next_arm", "block_end", "do_end", "ending"]
structure CEnv where
  names : List (Str × NameKind)
  cvar : Option Str := .none
inductive Ref where | slot (i : Nat) | cvar | glob
noncomputable def isVar : NameKind -> Bool
  | .local => true | .cell => true | _ => false
noncomputable def resolve (c : CEnv) (x : Str) : Ref :=
  if c.cvar == some x then .cvar else
  match c.names.findIdx? (fun y => y.1 == x) with
  | some i => match c.names[i]? with
    | some (_, k) => if isVar k then .slot i else .glob
    | _ => .glob
  | _ => .glob
noncomputable def isGlob (c : CEnv) (f x : Str) : Bool := f == x && c.cvar == none && c.names.lookup x == some .globalImplicit
noncomputable def bop : Operator -> Option Bo
  | .Add => some .add | .Sub => some .sub | .Mult => some .mul | .FloorDiv => some .fdiv | .Mod => some .mod | _ => none
noncomputable def idxOf? (l : List Str) (x : Str) : Option Nat := l.findIdx? (· == x)
noncomputable def baseOk : Expr -> Bool
  | .Name .. => true | .Subscript .. => true | .Attribute .. => true | _ => false
noncomputable def isNoneE : Expr -> Bool
  | .Constant .none _ _ => true | _ => false
noncomputable def isLt : CmpOp -> Bool
  | .Lt => true | _ => false
noncomputable def allM {α β : Type} (f : α -> Option β) : List α -> Option (List β)
  | [] => some []
  | x :: r => match f x with
    | some y => (match allM f r with | some ys => some (y :: ys) | none => none)
    | none => none
noncomputable def compNames (c : CEnv) (scope : Scope) : List (Str × NameKind) := c.names.map fun y => if scope.names.lookup y.1 == some .free then y else (y.1, .globalExplicit)
noncomputable def compInfo (c : CEnv) (g : Comprehension) (scope : Scope) : Option (Str × CEnv) := match g.target with
  | .Name x _ => if c.cvar == none && g.is_async == 0 && scope.kind == .function && scope.names.lookup x == some .local
      && scope.names.all (fun y => (y.2 == .local && scope.names.lookup y.1 == some .local) || (y.2 == .free && scope.names.lookup y.1 == some .free && c.names.lookup y.1 == some .cell))
      then some (x, ⟨compNames c scope, some x⟩) else none
  | _ => none
noncomputable def iterOf (c : CEnv) (e : Expr) : Expr × Bool := match e with
  | .Call (.Name f _) [e'] [] _ => if isGlob c f "reversed" then (e', true) else (e, false)
  | e => (e, false)
noncomputable abbrev Rec := CEnv -> Expr -> Option CE
noncomputable def constR : Const -> Option CE
  | .none => some .none
  | .int i => some (.int i)
  | .bool b => some (.bool b)
  | .str x => (idxOf? words x).map .str
  | _ => none
noncomputable def nameR (c : CEnv) (x : Str) : Option CE := if x == "__debug__" then none else match resolve c x with
  | .slot i => some (.var i)
  | .cvar => some .cv
  | .glob => none
noncomputable def negR : Expr -> Option CE
  | .Constant k _ _ => (match k with | .int i => some (.int (-i)) | _ => none)
  | _ => none
noncomputable def cmp1R (f : Rec) (c : CEnv) (a b : Expr) (op : CmpOp) : Option CE := match op with
  | .Eq => do return .cmp .eq (<- f c a) (<- f c b)
  | .NotEq => do return .cmp .ne (<- f c a) (<- f c b)
  | .Lt => do return .cmp .lt (<- f c a) (<- f c b)
  | .In => do return .cmp .isin (<- f c a) (<- f c b)
  | .NotIn => do return .cmp .notin (<- f c a) (<- f c b)
  | .Is => if isNoneE b then (do return .cmp .isNone (<- f c a) .none) else none
  | .IsNot => if isNoneE b then (do return .cmp .isNot (<- f c a) .none) else none
  | _ => none
noncomputable def cmpR (f : Rec) (c : CEnv) (a : Expr) (ops : List CmpOp) (bs : List Expr) : Option CE := match bs with
  | [b] => (match ops with
    | [op] => cmp1R f c a b op
    | _ => none)
  | [b, d, e] => (match ops with
    | [x, y, z] => if isLt x && (isLt y && isLt z) then (do return .chain (<- f c a) (<- f c b) (<- f c d) (<- f c e)) else none
    | _ => none)
  | _ => none
noncomputable def methR (f : Rec) (c : CEnv) (o : Expr) (m : Str) (args : List Expr) : Option CE := match args with
  | [] => if m == "pop" then (f c o).map .pop else none
  | [x] => if m == "append" then (do return .app (<- f c o) (<- f c x)) else none
  | [k, d] => if m == "get" then (do return .get2 (<- f c o) (<- f c k) (<- f c d)) else none
  | _ => none
noncomputable def bltR (f : Rec) (c : CEnv) (g : Str) (args : List Expr) : Option CE := match args with
  | [] => if isGlob c g "Flow" then some .newflow else none
  | [x] =>
    if isGlob c g "len" then (f c x).map .len
    else if isGlob c g "range" then (f c x).map .range1
    else if isGlob c g "dict" then (f c x).map .mkdict
    else if isGlob c g "list" then (f c x).map .mklist
    else none
  | [x, y] => if isGlob c g "range" then (do return .range2 (<- f c x) (<- f c y)) else none
  | _ => none
noncomputable def callR (f : Rec) (c : CEnv) (g : Str) (args : List Expr) : Option CE := match idxOf? funNames g with
  | some i => if isGlob c g g then (allM (f c) args).map (.call i) else none
  | none => bltR f c g args
noncomputable def isTrueC : Expr -> Bool
  | .Constant k _ _ => (match k with | .bool b => b | _ => false)
  | _ => false
noncomputable def isRev (k : Keyword) : Bool := (match k.arg with | some n => n == "reverse" | none => false) && isTrueC k.value
noncomputable def sortR (f : Rec) (c : CEnv) (g : Str) (args : List Expr) (k : Keyword) : Option CE := match args with
  | [x] => if isRev k && isGlob c g "sorted" then (f c x).map .sorted else none
  | _ => none
noncomputable def isNameE : Expr -> Bool
  | .Name .. => true
  | _ => false
noncomputable def sliceR (f : Rec) (c : CEnv) (o : Expr) (l u st : Option Expr) : Option CE := if isNameE o then (match l with
  | none => (match st with
    | none => (match u with
      | some u => (do return .slHi (<- f c o) (<- f c u))
      | none => none)
    | _ => none)
  | _ => none) else none
noncomputable def compR (f : Rec) (c : CEnv) (elt : Expr) (gs : List Comprehension) (scope : Scope) : Option CE := match gs with
  | [g] => (match compInfo c g scope with
    | some (_, ci) => (do return .comp (<- f ci elt) (<- f c (iterOf c g.iter).1) (<- allM (f ci) g.ifs) (iterOf c g.iter).2)
    | none => none)
  | _ => none
noncomputable def stepE (f : Rec) (c : CEnv) : Expr -> Option CE
  | .Constant k _ _ => constR k
  | .Name x _ => nameR c x
  | .BoolOp op es _ => (match op with
    | .And => (allM (f c) es).map .and
    | .Or => (allM (f c) es).map .or)
  | .BinOp a op b _ => do return .bin (<- bop op) (<- f c a) (<- f c b)
  | .UnaryOp op e _ => (match op with
    | .Not => (f c e).map .not
    | .USub => negR e
    | _ => none)
  | .IfExp t a b _ => do return .ite (<- f c t) (<- f c a) (<- f c b)
  | .Dict ks vs _ => (match ks with
    | [] => (match vs with | [] => some .dict0 | _ => none)
    | _ => none)
  | .List es _ => if es.length <= 1000 then (allM (f c) es).map .lst else none
  | .Tuple es _ _ => if es.length <= 1000 then (allM (f c) es).map .tup else none
  | .ListComp elt gs scope _ => compR f c elt gs scope
  | .Compare a ops bs _ => cmpR f c a ops bs
  | .Call fe args ks pos => (match fe with
    | .Attribute o m apos => (match ks with
      | [] => if baseOk o && apos.endLine == pos.line then methR f c o m args else none
      | _ => none)
    | .Name g _ => (match ks with
      | [] => callR f c g args
      | [k] => sortR f c g args k
      | _ => none)
    | _ => none)
  | .Attribute o m _ => if isNameE o then (do return .attr (<- f c o) (<- idxOf? attrNames m)) else none
  | .Subscript o i _ => (match i with
    | .Slice l u st _ => sliceR f c o l u st
    | i => do return .idx (<- f c o) (<- f c i))
  | _ => none
noncomputable def cmpE : Nat -> CEnv -> Expr -> Option CE
  | 0, _, _ => none
  | n + 1, c, e => stepE (cmpE n) c e
noncomputable def slotOf? (c : CEnv) (x : Str) : Option Nat := match resolve c x with | .slot i => some i | _ => none
noncomputable def isCallX : Expr -> Bool
  | .Call .. => true
  | _ => false
noncomputable def isConst : Expr -> Bool
  | .Constant k _ _ => (match k with | .str _ => true | _ => false)
  | _ => false
noncomputable def slotE? (c : CEnv) : Expr -> Option Nat
  | .Name x _ => slotOf? c x
  | _ => none
noncomputable def asgR (f : Expr -> Option CE) (c : CEnv) (t e : Expr) : Option CS := match t with
  | .Name x _ => do return .assign (<- slotOf? c x) (<- f e)
  | .Subscript o i _ => do return .setIdx (<- f o) (<- f i) (<- f e)
  | .Tuple ts _ _ => (match ts with
    | [a, b, d] => if isCallX e then (do return .unpack3 (<- slotE? c a) (<- slotE? c b) (<- slotE? c d) (<- f e)) else none
    | _ => none)
  | _ => none
noncomputable def augR : Operator -> Option Bo
  | .Add => some .add
  | .Sub => some .sub
  | _ => none
noncomputable def excN (c : CEnv) : Option Expr -> Bool
  | none => false
  | some e => (match e with | .Name x _ => isGlob c x "CheckFault" | _ => false)
noncomputable def raiseR (c : CEnv) : Expr -> Option CS
  | .Call fe args ks _ => (match ks with
    | [] => (match args with
      | [x] => if excN c (some fe) && isConst x then some .raise else none
      | _ => none)
    | _ => none)
  | _ => none
noncomputable def tryR (g : Stmt -> Option CS) (c : CEnv) (body : List Stmt) (hs : List ExceptHandler) : Option CS := match hs with
  | [.ExceptHandler t n h _] => if n.isNone && excN c t then (do return .tryf (<- allM g body) (<- allM g h)) else none
  | _ => none
noncomputable def stepS (f : Expr -> Option CE) (g : Stmt -> Option CS) (c : CEnv) : Stmt -> Option CS
  | .Expr e _ => if isCallX e then (f e).map .expr else none
  | .Assign ts e _ => (match ts with
    | [t] => asgR f c t e
    | _ => none)
  | .AugAssign t op e _ => do return .aug (<- slotE? c t) (<- augR op) (<- f e)
  | .If t a b _ => do return .ite (<- f t) (<- allM g a) (<- allM g b)
  | .For t it body els _ => (match els with
    | [] => do return .forr (<- slotE? c t) (<- f it) (<- allM g body)
    | _ => none)
  | .While t body els _ => (match els with
    | [] => do return .whil (<- f t) (<- allM g body)
    | _ => none)
  | .Return e _ => (match e with
    | some e => (f e).map .ret
    | none => some .retNone)
  | .Raise e ca _ => (match ca with
    | none => (match e with
      | some e => raiseR c e
      | none => none)
    | _ => none)
  | .Continue _ => some .cont
  | .Try body hs els fin _ => (match els with
    | [] => (match fin with
      | [] => tryR g c body hs
      | _ => none)
    | _ => none)
  | _ => none
noncomputable def cmpS : Nat -> CEnv -> Stmt -> Option CS
  | 0, _, _ => none
  | n + 1, c, s => stepS (cmpE n c) (cmpS n c) c s
structure Fn where
  params : List Nat
  nslots : Nat
  body : List CS
noncomputable def cmpFn : Stmt -> Option Fn
  | .FunctionDef _ args body _ _ _ scope _ _ _ => do
    let c : CEnv := ⟨scope.names, none⟩
    let ps <- args.args.mapM fun a => slotOf? c a.arg
    return ⟨ps, scope.names.length, <- allM (cmpS 40 c) body⟩
  | _ => none
noncomputable def findDef (x : Str) : List Stmt -> Option Stmt
  | [] => none
  | s@(.FunctionDef n ..) :: r => if n == x then some s else findDef x r
  | _ :: r => findDef x r
noncomputable def fnOf? (x : Str) : Option Fn := (findDef x PySem.Challenge.pw_no0225_01.main.body).bind cmpFn
inductive Res where | ok (v : V) (σ : Sto) | exc
inductive Out where | next (ls : Ls) (σ : Sto) | cont (ls : Ls) (σ : Sto) | ret (v : V) (σ : Sto) | exc
noncomputable def small (i : Int) : Bool := decide (-1099511627776 < i /\ i < 1099511627776)
noncomputable def tiny (i : Int) : Bool := decide (-1000000 < i /\ i < 1000000)
noncomputable def LIM : Nat := 4096
noncomputable def getL (σ : Sto) (n : Nat) : Option (List V) := match σ[n]? with | some (.list vs) => some vs | _ => none
noncomputable def getD (σ : Sto) (n : Nat) : Option (List (Int × V)) := match σ[n]? with | some (.dict es) => some es | _ => none
noncomputable def lookI (es : List (Int × V)) (k : Int) : Option V := match es with
  | [] => none
  | (k', v) :: r => if k' = k then some v else lookI r k
noncomputable def putI (es : List (Int × V)) (k : Int) (v : V) : List (Int × V) := match es with
  | [] => [(k, v)]
  | (k', v') :: r => if k' = k then (k', v) :: r else (k', v') :: putI r k v
noncomputable def truth (v : V) (σ : Sto) : Option Bool := match v with
  | .bool b => some b
  | .int i => some (decide (i ≠ 0))
  | .lst n => (getL σ n).map fun vs => !vs.isEmpty
  | _ => none
noncomputable def intsOf : List V -> Option (List Int)
  | [] => some []
  | .int i :: r => (intsOf r).map (i :: ·)
  | _ => none
noncomputable def itemsOf (v : V) (σ : Sto) : Option (List V) := match v with
  | .lst n => getL σ n
  | .rng lo hi => some ((List.range (hi - lo).toNat).map fun (i : Nat) => V.int (lo + (i : Int)))
  | _ => none
noncomputable def isLst : V -> Bool
  | .lst _ => true | _ => false
noncomputable def atL (vs : List V) (k : Int) : Option V := if 0 <= k /\ k < 1000000 then vs[k.toNat]? else if k = -1 then vs.getLast? else none
noncomputable def idxV (o i : V) (σ : Sto) : Option V := match i with
  | .int k => (match o with
    | .lst n => (getL σ n).bind fun vs => atL vs k
    | .tup vs => if 0 <= k /\ k < 1000000 then vs[k.toNat]? else none
    | .dct n => (getD σ n).bind fun es => lookI es k
    | _ => none)
  | _ => none
noncomputable def eqS (a b : V) : Option Bool := match a with
  | .int i => (match b with
    | .int j => some (decide (i = j))
    | .str _ => some false
    | _ => none)
  | .str i => (match b with
    | .str j => some (decide (i = j))
    | .int _ => some false
    | _ => none)
  | _ => none
noncomputable def eqLI (σ : Sto) (n m : Nat) : Option Bool := do
  let a <- (<- getL σ n) |> intsOf
  let b <- (<- getL σ m) |> intsOf
  return decide (a = b)
noncomputable def eqD (σ : Sto) (a b : V) : Option Bool := match a with
  | .int i => (match b with
    | .int j => some (decide (i = j))
    | _ => none)
  | .lst n => (match b with
    | .lst m => eqLI σ n m
    | _ => none)
  | _ => none
noncomputable def eqDicts (σ : Sto) (a b : List (Int × V)) : Option Bool :=
  if a.length ≠ b.length then some false else go a
where
  go : List (Int × V) -> Option Bool
    | [] => some true
    | (k, v) :: r => match lookI b k with
      | none => some false
      | some w => match eqD σ v w, go r with
        | some e, some q => some (e && q)
        | _, _ => none
noncomputable def eqV (σ : Sto) (a b : V) : Option Bool := match a with
  | .lst n => (match b with
    | .lst m => eqLI σ n m
    | _ => none)
  | .dct n => (match b with
    | .dct m => (getD σ n).bind fun x => (getD σ m).bind fun y => eqDicts σ x y
    | _ => none)
  | a => eqS a b
noncomputable def inTup (x : V) : List V -> Option Bool
  | [] => some false
  | y :: r => match eqS y x, inTup x r with | some e, some q => some (e || q) | _, _ => none
noncomputable def inV (σ : Sto) (x c : V) : Option Bool := match c with
  | .tup vs => inTup x vs
  | .dct n => (match x with
    | .int k => (getD σ n).map fun es => (lookI es k).isSome
    | _ => none)
  | _ => none
noncomputable def isNoneV : V -> Bool
  | .none => true
  | _ => false
noncomputable def ltV (a b : V) : Option Bool := match a with
  | .int i => (match b with
    | .int j => some (decide (i < j))
    | _ => none)
  | _ => none
noncomputable def cmpV (op : Co) (a b : V) (σ : Sto) : Option Bool := match op with
  | .eq => eqV σ a b
  | .ne => (eqV σ a b).map (!·)
  | .lt => ltV a b
  | .isNone => some (isNoneV a)
  | .isNot => some (!isNoneV a)
  | .isin => inV σ a b
  | .notin => (inV σ a b).map (!·)
noncomputable def arith (op : Bo) (i j : Int) : Option Int := match op with
  | .add => if small i && small j then some (i + j) else none
  | .sub => if small i && small j then some (i - j) else none
  | .mul => if tiny i && tiny j then some (i * j) else none
  | .fdiv => if small i && decide (0 < j) && small j then some (i.fdiv j) else none
  | .mod => if decide (0 < j) && small j then some (i.fmod j) else none
noncomputable def catL (σ : Sto) (n m : Nat) : Option (V × Sto) := (getL σ n).bind fun vs => (getL σ m).bind fun us => if vs.length + us.length < LIM then some (.lst σ.length, σ ++ [.list (vs ++ us)]) else none
noncomputable def binV (op : Bo) (a b : V) (σ : Sto) : Option (V × Sto) := match a with
  | .int i => (match b with
    | .int j => (arith op i j).map fun k => (.int k, σ)
    | _ => none)
  | .lst n => (match b with
    | .lst m => (match op with
      | .add => catL σ n m
      | _ => none)
    | _ => none)
  | _ => none
noncomputable def setV (o i v : V) (σ : Sto) : Option Sto := match o, i with
  | .lst n, .int k => do
    let vs <- getL σ n
    if 0 <= k /\ k < vs.length /\ k < 1000000 then some (σ.set n (.list (vs.set k.toNat v))) else none
  | .dct n, .int k => do
    let es <- getD σ n
    if es.length < LIM then some (σ.set n (.dict (putI es k v))) else none
  | _, _ => none
noncomputable def sortDown : List Int -> List Int
  | [] => []
  | x :: r => ins x (sortDown r)
where
  ins (x : Int) : List Int -> List Int
    | [] => [x]
    | y :: r => if x < y then y :: ins x r else x :: y :: r
noncomputable def intO : V -> Option Int
  | .int k => some k
  | _ => none
noncomputable def pairL : List V -> Option (Int × V)
  | [a, b] => (intO a).bind fun k => (intO b).map fun u => (k, .int u)
  | _ => none
noncomputable def pairV : V -> Option (Int × V)
  | .tup vs => pairL vs
  | _ => none
noncomputable def pairsOfV : List V -> Option (List (Int × V))
  | [] => some []
  | v :: r => (pairV v).bind fun p => (pairsOfV r).map (p :: ·)
noncomputable def evs (f : CE -> Sto -> Option (V × Sto)) : List CE -> Sto -> Option (List V × Sto)
  | [], σ => some ([], σ)
  | e :: r, σ => match f e σ with
    | some (v, σ) => (match evs f r σ with | some (vs, σ) => some (v :: vs, σ) | none => none)
    | none => none
noncomputable def allT (f : CE -> Sto -> Option (Bool × Sto)) : List CE -> Sto -> Option (Bool × Sto)
  | [], σ => some (true, σ)
  | e :: r, σ => match f e σ with
    | some (true, σ) => allT f r σ
    | some (false, σ) => some (false, σ)
    | none => none
noncomputable def anyT (f : CE -> Sto -> Option (Bool × Sto)) : List CE -> Sto -> Option (Bool × Sto)
  | [], σ => some (false, σ)
  | e :: r, σ => match f e σ with
    | some (true, σ) => some (true, σ)
    | some (false, σ) => anyT f r σ
    | none => none
noncomputable def andV (f : CE -> Sto -> Option (V × Sto)) : List CE -> Sto -> Option (V × Sto)
  | [], _ => none
  | [e], σ => f e σ
  | e :: r, σ => match f e σ with
    | some (.bool true, σ) => andV f r σ
    | some (.bool false, σ) => some (.bool false, σ)
    | _ => none
noncomputable def compGo (chk : Sto -> Bool) (conds : V -> Sto -> Option (Bool × Sto)) (elt : V -> Sto -> Option (V × Sto)) : List V -> List V -> Sto -> Option (List V × Sto)
  | [], acc, σ => if chk σ then some (acc, σ) else none
  | x :: r, acc, σ => if chk σ then (match conds x σ with
    | some (true, σ) => (match elt x σ with
      | some (v, σ) => if acc.length < LIM then compGo chk conds elt r (acc ++ [v]) σ else none
      | none => none)
    | some (false, σ) => compGo chk conds elt r acc σ
    | none => none) else none
noncomputable def chkItems (w : V) (items : List V) (τ : Sto) : Bool := @decide (itemsOf w τ = some items) (Classical.propDecidable _)
theorem chk_iff {w : V} {items : List V} {τ : Sto} : chkItems w items τ = true ↔ itemsOf w τ = some items := @decide_eq_true_iff _ (Classical.propDecidable _)
noncomputable abbrev Calls := Nat -> List V -> Sto -> Option Res
mutual
noncomputable def ev (C : Calls) : Nat -> CE -> Ls -> Option V -> Sto -> Option (V × Sto)
  | 0, _, _, _, _ => none
  | n + 1, e, ls, cv, σ => match e with
    | .none => some (.none, σ)
    | .bool b => some (.bool b, σ)
    | .int i => some (.int i, σ)
    | .str w => some (.str w, σ)
    | .var i => match ls[i]? with | some (some v) => some (v, σ) | _ => none
    | .cv => match cv with | some v => some (v, σ) | none => none
    | .tup es => match evs (fun e σ => ev C n e ls cv σ) es σ with | some (vs, σ) => some (.tup vs, σ) | none => none
    | .lst es => match evs (fun e σ => ev C n e ls cv σ) es σ with | some (vs, σ) => some (.lst σ.length, σ ++ [.list vs]) | none => none
    | .dict0 => some (.dct σ.length, σ ++ [.dict []])
    | .idx o i => match ev C n o ls cv σ with
      | some (vo, σ) => (match ev C n i ls cv σ with | some (vi, σ) => (idxV vo vi σ).map (·, σ) | none => none)
      | none => none
    | .slHi o hi => match ev C n o ls cv σ with
      | some (vo, σ) => (match ev C n hi ls cv σ with
        | some (.int k, σ) => (match vo with
          | .scr xs => if 0 <= k /\ k < 1000000 then some (.lst σ.length, σ ++ [.list ((xs.take k.toNat).map .int)]) else none
          | .lst m => (match getL σ m with
            | some vs => if k = -1 then some (.lst σ.length, σ ++ [.list vs.dropLast]) else none
            | none => none)
          | _ => none)
        | _ => none)
      | none => none
    | .attr o k => match ev C n o ls cv σ with
      | some (.flow m, σ) => (match σ[m]? with | some (.attrs ds) => (ds[k]?).map (.dct ·, σ) | _ => none)
      | _ => none
    | .bin op a b => match ev C n a ls cv σ with
      | some (va, σ) => (match ev C n b ls cv σ with | some (vb, σ) => binV op va vb σ | none => none)
      | none => none
    | .cmp op a b => match ev C n a ls cv σ with
      | some (va, σ) => (match ev C n b ls cv σ with | some (vb, σ) => (cmpV op va vb σ).map (.bool ·, σ) | none => none)
      | none => none
    | .and es => andV (fun e σ => ev C n e ls cv σ) es σ
    | .not e => match ev C n e ls cv σ with | some (v, σ) => (truth v σ).map (.bool !·, σ) | none => none
    | .ite t a b => match tst C n t ls cv σ with
      | some (true, σ) => ev C n a ls cv σ
      | some (false, σ) => ev C n b ls cv σ
      | none => none
    | .call f args => match evs (fun e σ => ev C n e ls cv σ) args σ with
      | some (vs, σ) => (match C f vs σ with | some (.ok v σ) => some (v, σ) | _ => none)
      | none => none
    | .len e => match ev C n e ls cv σ with
      | some (.lst m, σ) => (getL σ m).map fun vs => (.int vs.length, σ)
      | some (.dct m, σ) => (getD σ m).map fun es => (.int es.length, σ)
      | _ => none
    | .range1 e => match ev C n e ls cv σ with | some (.int k, σ) => if tiny k then some (.rng 0 k, σ) else none | _ => none
    | .range2 a b => match ev C n a ls cv σ with
      | some (.int i, σ) => (match ev C n b ls cv σ with | some (.int j, σ) => if tiny i && tiny j then some (.rng i j, σ) else none | _ => none)
      | _ => none
    | .sorted e => match ev C n e ls cv σ with
      | some (.dct m, σ) => (match getD σ m with | some es => if es.length < 64 then some (.lst σ.length, σ ++ [.list ((sortDown (es.map (·.1))).map .int)]) else none | none => none)
      | _ => none
    | .mkdict e => match ev C n e ls cv σ with
      | some (.lst m, σ) => (match (getL σ m).bind pairsOfV with
        | some ps => some (.dct σ.length, σ ++ [.dict (ps.foldl (fun d p => putI d p.1 p.2) [])])
        | none => none)
      | _ => none
    | .mklist e => match ev C n e ls cv σ with
      | some (.lst m, σ) => (getL σ m).map fun vs => (.lst σ.length, σ ++ [.list vs])
      | _ => none
    | .newflow => some (.flow (σ.length + 5), σ ++ [.dict [], .dict [], .dict [], .dict [], .dict [],
        .attrs [σ.length, σ.length + 1, σ.length + 2, σ.length + 3, σ.length + 4]])
    | .app o x => match ev C n o ls cv σ with
      | some (.lst m, σ) => if (getL σ m).isSome then (match ev C n x ls cv σ with
        | some (v, σ) => (match getL σ m with
          | some vs => if vs.length < LIM then some (.none, σ.set m (.list (vs ++ [v]))) else none
          | none => none)
        | none => none) else none
      | _ => none
    | .pop o => match ev C n o ls cv σ with
      | some (.lst m, σ) => (match getL σ m with
        | some vs => (match vs.getLast? with | some v => some (v, σ.set m (.list vs.dropLast)) | none => none)
        | none => none)
      | _ => none
    | .get2 o k d => match ev C n o ls cv σ with
      | some (.dct m, σ) => if (getD σ m).isSome then (match ev C n k ls cv σ with
        | some (.int i, σ) => (match ev C n d ls cv σ with
          | some (w, σ) => (getD σ m).map fun es => ((lookI es i).getD w, σ)
          | none => none)
        | _ => none) else none
      | _ => none
    | .comp elt it conds rev => match ev C n it ls cv σ with
      | some (w, σ) => if rev && !isLst w then none else (match itemsOf w σ with
        | some items => (match compGo (chkItems w items)
            (fun x τ => allT (fun e τ => tst C n e ls (some x) τ) conds τ) (fun x τ => ev C n elt ls (some x) τ) (if rev then items.reverse else items) [] σ with
          | some (acc, σ) => some (.lst σ.length, σ ++ [.list acc])
          | none => none)
        | none => none)
      | none => none
    | _ => none
noncomputable def tst (C : Calls) : Nat -> CE -> Ls -> Option V -> Sto -> Option (Bool × Sto)
  | 0, _, _, _, _ => none
  | n + 1, e, ls, cv, σ => match e with
    | .and es => allT (fun e σ => tst C n e ls cv σ) es σ
    | .or es => anyT (fun e σ => tst C n e ls cv σ) es σ
    | .not e => match tst C n e ls cv σ with | some (b, σ) => some (!b, σ) | none => none
    | .chain a b c d => match ev C n a ls cv σ with
      | some (.int i, σ) => (match ev C n b ls cv σ with
        | some (.int j, σ) => if i < j then (match ev C n c ls cv σ with
          | some (.int k, σ) => if j < k then (match ev C n d ls cv σ with
            | some (.int l, σ) => some (decide (k < l), σ)
            | _ => none) else some (false, σ)
          | _ => none) else some (false, σ)
        | _ => none)
      | _ => none
    | .ite _ _ _ => none
    | e => match ev C n e ls cv σ with | some (v, σ) => (truth v σ).map (·, σ) | none => none
end
noncomputable def forGo (chk : Sto -> Bool) (step : V -> Ls -> Sto -> Option Out) : List V -> Ls -> Sto -> Option Out
  | [], ls, σ => if chk σ then some (.next ls σ) else none
  | x :: r, ls, σ => if chk σ then (match step x ls σ with
    | some (.next ls σ) => forGo chk step r ls σ
    | some (.cont ls σ) => forGo chk step r ls σ
    | o => o) else none
noncomputable def whileGo (test : Ls -> Sto -> Option (Bool × Sto)) (step : Ls -> Sto -> Option Out) : Nat -> Ls -> Sto -> Option Out
  | 0, _, _ => none
  | k + 1, ls, σ => match test ls σ with
    | some (true, σ) => (match step ls σ with
      | some (.next ls σ) => whileGo test step k ls σ
      | some (.cont ls σ) => whileGo test step k ls σ
      | o => o)
    | some (false, σ) => some (.next ls σ)
    | none => none
noncomputable def exs (f : CS -> Ls -> Sto -> Option Out) : List CS -> Ls -> Sto -> Option Out
  | [], ls, σ => some (.next ls σ)
  | s :: r, ls, σ => match f s ls σ with
    | some (.next ls σ) => exs f r ls σ
    | o => o
noncomputable def evR (C : Calls) (n : Nat) (e : CE) (ls : Ls) (σ : Sto) : Option Res := match e with
  | .call f args => (match evs (fun e σ => ev C n e ls none σ) args σ with
    | some (vs, σ) => C f vs σ
    | none => none)
  | e => (match ev C n e ls none σ with | some (v, σ) => some (.ok v σ) | none => none)
noncomputable def pureE : CE -> Bool
  | .none => true
  | .var _ => true
  | .idx o i => pureE o && pureE i
  | .chain a b c d => pureE a && pureE b && pureE c && pureE d
  | _ => false
mutual
noncomputable def pureS : CS -> Bool
  | .ite t a b => pureE t && pureSs a && pureSs b
  | .forr _ (.var _) body => pureSs body
  | .ret e => pureE e
  | _ => false
noncomputable def pureSs : List CS -> Bool
  | [] => true
  | s :: r => pureS s && pureSs r
end
noncomputable def tryA : List CS -> Option (Nat × Nat × List CE)
  | [s] => (match s with
    | .assign i e => (match e with
      | .call f args => some (i, f, args)
      | _ => none)
    | _ => none)
  | _ => none
noncomputable def tryB : List CS -> Option Nat
  | [s] => (match s with
    | .ret e => (match e with
      | .not e => (match e with
        | .var j => some j
        | _ => none)
      | _ => none)
    | _ => none)
  | _ => none
noncomputable def boolAt (ls : Ls) (j : Nat) : Option Bool := match ls[j]? with
  | some (some (.bool b)) => some b
  | _ => none
noncomputable def tryRun (ls : Ls) (i j : Nat) : Option Res -> Option Out
  | some (.ok v σ) => some (.next (ls.set i (some v)) σ)
  | some .exc => (boolAt ls j).map fun b => .ret (.bool !b) []
  | none => none
noncomputable def ex (C : Calls) : Nat -> CS -> Ls -> Sto -> Option Out
  | 0, _, _, _ => none
  | n + 1, s, ls, σ => match s with
    | .expr e => (match evR C n e ls σ with | some (.ok _ σ) => some (.next ls σ) | some .exc => some .exc | none => none)
    | .assign i e => (match evR C n e ls σ with | some (.ok v σ) => some (.next (ls.set i (some v)) σ) | some .exc => some .exc | none => none)
    | .setIdx o i e => (match ev C n e ls none σ with
      | some (v, σ) => (match ev C n o ls none σ with
        | some (vo, σ) => (match ev C n i ls none σ with
          | some (vi, σ) => (setV vo vi v σ).map (.next ls ·)
          | none => none)
        | none => none)
      | none => none)
    | .unpack3 i j k e => (match ev C n e ls none σ with
      | some (.tup [a, b, c], σ) => some (.next (((ls.set i (some a)).set j (some b)).set k (some c)) σ)
      | _ => none)
    | .aug i op e => (match ls[i]? with
      | some (some (.int a)) => (match ev C n e ls none σ with
        | some (.int b, σ) => (match binV op (.int a) (.int b) σ with | some (v, σ) => some (.next (ls.set i (some v)) σ) | none => none)
        | _ => none)
      | _ => none)
    | .ite t a b => (match tst C n t ls none σ with
      | some (true, σ) => exs (ex C n) a ls σ
      | some (false, σ) => exs (ex C n) b ls σ
      | none => none)
    | .forr i it body => (match ev C n it ls none σ with
      | some (.dct m, σ) => if pureSs body then (match getD σ m with
        | some es => forGo (fun _ => true) (fun x ls σ => exs (ex C n) body (ls.set i (some x)) σ) (es.map fun p => .int p.1) ls σ
        | none => none) else none
      | some (w, σ) => (match itemsOf w σ with
        | some items => forGo (chkItems w items) (fun x ls σ => exs (ex C n) body (ls.set i (some x)) σ) items ls σ
        | none => none)
      | none => none)
    | .whil t body => whileGo (fun ls σ => tst C n t ls none σ) (fun ls σ => exs (ex C n) body ls σ) 64 ls σ
    | .ret e => (match ev C n e ls none σ with | some (v, σ) => some (.ret v σ) | none => none)
    | .retNone => some (.ret .none σ)
    | .raise => some .exc
    | .cont => some (.cont ls σ)
    | .tryf a b => (match tryA a with
      | some (i, f, args) => (match tryB b with
        | some j => tryRun ls i j (evR C n (.call f args) ls σ)
        | none => none)
      | none => none)
noncomputable def initLs (F : Fn) (args : List V) : Ls := (F.params.zip args).foldl (fun ls p => ls.set p.1 (some p.2)) (List.replicate F.nslots none)
noncomputable def runFn (C : Calls) (F : Fn) (args : List V) (σ : Sto) : Option Res :=
  if args.length = F.params.length then (match exs (ex C 40) F.body (initLs F args) σ with
    | some (.next _ σ) => some (.ok .none σ)
    | some (.ret v σ) => some (.ok v σ)
    | some .exc => some .exc
    | _ => none) else none
noncomputable def fns (f : Nat) : Option Fn := (funNames[f]?).bind fnOf?
noncomputable def run : Nat -> Calls
  | 0, _, _, _ => none
  | l + 1, f, args, σ => match fns f with | some F => runFn (run l) F args σ | none => none
noncomputable def lawFn : Option Fn := fnOf? "law"
noncomputable def runLaw (xs : List Int) : Option Res := match lawFn with | some F => runFn (run 5) F [.scr xs] [] | none => none
end
end Mine
end
section
set_option tactic.hygienic false
open PySem
namespace Mine.Eqn
theorem getL_of {σ : Sto} {n : Nat} {vs : List V} (h : σ[n]? = some (.list vs)) : getL σ n = some vs := by unfold getL; rw [h]
theorem getD_of {σ : Sto} {n : Nat} {es : List (Int × V)} (h : σ[n]? = some (.dict es)) : getD σ n = some es := by unfold getD; rw [h]
section
variable {C : Calls} {n : Nat} {ls : Ls} {cv : Option V} {σ : Sto}
theorem ev_none : ev C (n + 1) .none ls cv σ = some (.none, σ) := rfl
theorem ev_bool {b} : ev C (n + 1) (.bool b) ls cv σ = some (.bool b, σ) := rfl
theorem ev_int {i} : ev C (n + 1) (.int i) ls cv σ = some (.int i, σ) := rfl
theorem ev_str {i} : ev C (n + 1) (.str i) ls cv σ = some (.str i, σ) := rfl
theorem ev_var {i} : ev C (n + 1) (.var i) ls cv σ = match ls[i]? with | some (some v) => some (v, σ) | _ => none := rfl
theorem ev_cv : ev C (n + 1) .cv ls cv σ = match cv with | some v => some (v, σ) | none => none := rfl
theorem ev_tup {es} : ev C (n + 1) (.tup es) ls cv σ = match evs (fun e σ => ev C n e ls cv σ) es σ with | some (vs, σ) => some (.tup vs, σ) | none => none := rfl
theorem ev_lst {es} : ev C (n + 1) (.lst es) ls cv σ = match evs (fun e σ => ev C n e ls cv σ) es σ with | some (vs, σ) => some (.lst σ.length, σ ++ [.list vs]) | none => none := rfl
theorem ev_dict0 : ev C (n + 1) .dict0 ls cv σ = some (.dct σ.length, σ ++ [.dict []]) := rfl
theorem ev_idx {o i} : ev C (n + 1) (.idx o i) ls cv σ = match ev C n o ls cv σ with
      | some (vo, σ) => (match ev C n i ls cv σ with | some (vi, σ) => (idxV vo vi σ).map (·, σ) | none => none)
      | none => none := rfl
theorem ev_attr {o k} : ev C (n + 1) (.attr o k) ls cv σ = match ev C n o ls cv σ with
      | some (.flow m, σ) => (match σ[m]? with | some (.attrs ds) => (ds[k]?).map (.dct ·, σ) | _ => none)
      | _ => none := rfl
theorem ev_bin {op a b} : ev C (n + 1) (.bin op a b) ls cv σ = match ev C n a ls cv σ with
      | some (va, σ) => (match ev C n b ls cv σ with | some (vb, σ) => binV op va vb σ | none => none)
      | none => none := rfl
theorem ev_cmp {op a b} : ev C (n + 1) (.cmp op a b) ls cv σ = match ev C n a ls cv σ with
      | some (va, σ) => (match ev C n b ls cv σ with | some (vb, σ) => (cmpV op va vb σ).map (.bool ·, σ) | none => none)
      | none => none := rfl
theorem ev_and {es} : ev C (n + 1) (.and es) ls cv σ = andV (fun e σ => ev C n e ls cv σ) es σ := rfl
theorem ev_not {e} : ev C (n + 1) (.not e) ls cv σ = match ev C n e ls cv σ with | some (v, σ) => (truth v σ).map (.bool !·, σ) | none => none := rfl
theorem ev_ite {t a b} : ev C (n + 1) (.ite t a b) ls cv σ = match tst C n t ls cv σ with
      | some (true, σ) => ev C n a ls cv σ
      | some (false, σ) => ev C n b ls cv σ
      | none => none := rfl
theorem ev_call {f args} : ev C (n + 1) (.call f args) ls cv σ = match evs (fun e σ => ev C n e ls cv σ) args σ with
      | some (vs, σ) => (match C f vs σ with | some (.ok v σ) => some (v, σ) | _ => none)
      | none => none := rfl
theorem ev_len {e} : ev C (n + 1) (.len e) ls cv σ = match ev C n e ls cv σ with
      | some (.lst m, σ) => (getL σ m).map fun vs => (.int vs.length, σ)
      | some (.dct m, σ) => (getD σ m).map fun es => (.int es.length, σ)
      | _ => none := rfl
theorem ev_range1 {e} : ev C (n + 1) (.range1 e) ls cv σ = match ev C n e ls cv σ with | some (.int k, σ) => if tiny k then some (.rng 0 k, σ) else none | _ => none := rfl
theorem ev_range2 {a b} : ev C (n + 1) (.range2 a b) ls cv σ = match ev C n a ls cv σ with
      | some (.int i, σ) => (match ev C n b ls cv σ with | some (.int j, σ) => if tiny i && tiny j then some (.rng i j, σ) else none | _ => none)
      | _ => none := rfl
theorem ev_newflow : ev C (n + 1) .newflow ls cv σ = some (.flow (σ.length + 5), σ ++ [.dict [], .dict [], .dict [], .dict [], .dict [],
        .attrs [σ.length, σ.length + 1, σ.length + 2, σ.length + 3, σ.length + 4]]) := rfl
theorem ev_app {o x} : ev C (n + 1) (.app o x) ls cv σ = match ev C n o ls cv σ with
      | some (.lst m, σ) => if (getL σ m).isSome then (match ev C n x ls cv σ with
        | some (v, σ) => (match getL σ m with
          | some vs => if vs.length < LIM then some (.none, σ.set m (.list (vs ++ [v]))) else none
          | none => none)
        | none => none) else none
      | _ => none := rfl
theorem ev_pop {o} : ev C (n + 1) (.pop o) ls cv σ = match ev C n o ls cv σ with
      | some (.lst m, σ) => (match getL σ m with
        | some vs => (match vs.getLast? with | some v => some (v, σ.set m (.list vs.dropLast)) | none => none)
        | none => none)
      | _ => none := rfl
theorem tst_and {es} : tst C (n + 1) (.and es) ls cv σ = allT (fun e σ => tst C n e ls cv σ) es σ := rfl
theorem tst_or {es} : tst C (n + 1) (.or es) ls cv σ = anyT (fun e σ => tst C n e ls cv σ) es σ := rfl
theorem tst_not {e} : tst C (n + 1) (.not e) ls cv σ = match tst C n e ls cv σ with | some (b, σ) => some (!b, σ) | none => none := rfl
theorem tst_var {i} : tst C (n + 1) (.var i) ls cv σ = match ev C n (.var i) ls cv σ with | some (v, σ) => (truth v σ).map (·, σ) | none => none := rfl
theorem tst_idx {o i} : tst C (n + 1) (.idx o i) ls cv σ = match ev C n (.idx o i) ls cv σ with | some (v, σ) => (truth v σ).map (·, σ) | none => none := rfl
theorem tst_cmp {op a b} : tst C (n + 1) (.cmp op a b) ls cv σ = match ev C n (.cmp op a b) ls cv σ with | some (v, σ) => (truth v σ).map (·, σ) | none => none := rfl
theorem ex_expr {e} : ex C (n + 1) (.expr e) ls σ = match evR C n e ls σ with | some (.ok _ σ) => some (.next ls σ) | some .exc => some .exc | none => none := rfl
theorem ex_assign {i e} : ex C (n + 1) (.assign i e) ls σ = match evR C n e ls σ with | some (.ok v σ) => some (.next (ls.set i (some v)) σ) | some .exc => some .exc | none => none := rfl
theorem ex_setIdx {o i e} : ex C (n + 1) (.setIdx o i e) ls σ = match ev C n e ls none σ with
      | some (v, σ) => (match ev C n o ls none σ with
        | some (vo, σ) => (match ev C n i ls none σ with
          | some (vi, σ) => (setV vo vi v σ).map (.next ls ·)
          | none => none)
        | none => none)
      | none => none := rfl
theorem ex_ite {t a b} : ex C (n + 1) (.ite t a b) ls σ = match tst C n t ls none σ with
      | some (true, σ) => exs (ex C n) a ls σ
      | some (false, σ) => exs (ex C n) b ls σ
      | none => none := rfl
theorem ex_ret {e} : ex C (n + 1) (.ret e) ls σ = match ev C n e ls none σ with | some (v, σ) => some (.ret v σ) | none => none := rfl
theorem ex_retNone : ex C (n + 1) .retNone ls σ = some (.ret .none σ) := rfl
theorem ex_raise : ex C (n + 1) .raise ls σ = some .exc := rfl
theorem ex_cont : ex C (n + 1) .cont ls σ = some (.cont ls σ) := rfl
theorem exs_nil {f} : exs f [] ls σ = some (.next ls σ) := rfl
theorem exs_cons {f s r} : exs f (s :: r) ls σ = match f s ls σ with | some (.next ls σ) => exs f r ls σ | o => o := rfl
theorem evR_call {f args} : evR C n (.call f args) ls σ = match evs (fun e σ => ev C n e ls none σ) args σ with
    | some (vs, σ) => C f vs σ
    | none => none := rfl
end
theorem ev_comp {C : Calls} {n : Nat} {ls : Ls} {cv : Option V} {σ : Sto} {elt it : CE} {conds : List CE} {rev : Bool} : ev C (n + 1) (.comp elt it conds rev) ls cv σ = match ev C n it ls cv σ with
      | some (w, σ) => if rev && !isLst w then none else (match itemsOf w σ with
        | some items => (match compGo (chkItems w items)
            (fun x τ => allT (fun e τ => tst C n e ls (some x) τ) conds τ) (fun x τ => ev C n elt ls (some x) τ) (if rev then items.reverse else items) [] σ with
          | some (acc, σ) => some (.lst σ.length, σ ++ [.list acc])
          | none => none)
        | none => none)
      | none => none := rfl
theorem ex_forr {C : Calls} {n : Nat} {ls : Ls} {σ : Sto} {i : Nat} {it : CE} {body : List CS} : ex C (n + 1) (.forr i it body) ls σ = match ev C n it ls none σ with
      | some (.dct m, σ) => if pureSs body then (match getD σ m with
        | some es => forGo (fun _ => true) (fun x ls σ => exs (ex C n) body (ls.set i (some x)) σ) (es.map fun p => .int p.1) ls σ
        | none => none) else none
      | some (w, σ) => (match itemsOf w σ with
        | some items => forGo (chkItems w items) (fun x ls σ => exs (ex C n) body (ls.set i (some x)) σ) items ls σ
        | none => none)
      | none => none := rfl
section
variable {C : Calls} {n : Nat} {ls : Ls} {cv : Option V} {σ : Sto}
theorem ev_slHi {o hi : CE} : ev C (n + 1) (.slHi o hi) ls cv σ = match ev C n o ls cv σ with
      | some (vo, σ) => (match ev C n hi ls cv σ with
        | some (.int k, σ) => (match vo with
          | .scr xs => if 0 <= k /\ k < 1000000 then some (.lst σ.length, σ ++ [.list ((xs.take k.toNat).map .int)]) else none
          | .lst m => (match getL σ m with
            | some vs => if k = -1 then some (.lst σ.length, σ ++ [.list vs.dropLast]) else none
            | none => none)
          | _ => none)
        | _ => none)
      | none => none := rfl
theorem ev_mklist {e : CE} : ev C (n + 1) (.mklist e) ls cv σ = match ev C n e ls cv σ with
      | some (.lst m, σ) => (getL σ m).map fun vs => (.lst σ.length, σ ++ [.list vs])
      | _ => none := rfl
theorem ev_zero {e} : ev C 0 e ls cv σ = none := rfl
theorem tst_zero' {e} : tst C 0 e ls cv σ = none := rfl
theorem ex_zero {s} : ex C 0 s ls σ = none := rfl
theorem ev_or {es} : ev C (n + 1) (.or es) ls cv σ = none := rfl
theorem ev_chain {a b c d} : ev C (n + 1) (.chain a b c d) ls cv σ = none := rfl
theorem ev_sorted' {e} : ev C (n + 1) (.sorted e) ls cv σ = match ev C n e ls cv σ with
      | some (.dct m, σ) => (match getD σ m with | some es => if es.length < 64 then some (.lst σ.length, σ ++ [.list ((sortDown (es.map (·.1))).map .int)]) else none | none => none)
      | _ => none := rfl
theorem ev_mkdict' {e} : ev C (n + 1) (.mkdict e) ls cv σ = match ev C n e ls cv σ with
      | some (.lst m, σ) => (match (getL σ m).bind pairsOfV with
        | some ps => some (.dct σ.length, σ ++ [.dict (ps.foldl (fun d p => putI d p.1 p.2) [])])
        | none => none)
      | _ => none := rfl
theorem ev_get2' {o k d} : ev C (n + 1) (.get2 o k d) ls cv σ = match ev C n o ls cv σ with
      | some (.dct m, σ) => if (getD σ m).isSome then (match ev C n k ls cv σ with
        | some (.int i, σ) => (match ev C n d ls cv σ with
          | some (w, σ) => (getD σ m).map fun es => ((lookI es i).getD w, σ)
          | none => none)
        | _ => none) else none
      | _ => none := rfl
theorem tst_chain' {a b c d} : tst C (n + 1) (.chain a b c d) ls cv σ = match ev C n a ls cv σ with
      | some (.int i, σ) => (match ev C n b ls cv σ with
        | some (.int j, σ) => if i < j then (match ev C n c ls cv σ with
          | some (.int k, σ) => if j < k then (match ev C n d ls cv σ with
            | some (.int l, σ) => some (decide (k < l), σ)
            | _ => none) else some (false, σ)
          | _ => none) else some (false, σ)
        | _ => none)
      | _ => none := rfl
theorem tst_ite {t a b} : tst C (n + 1) (.ite t a b) ls cv σ = none := rfl
theorem ex_unpack3 {i j k e} : ex C (n + 1) (.unpack3 i j k e) ls σ = match ev C n e ls none σ with
      | some (.tup [a, b, c], σ) => some (.next (((ls.set i (some a)).set j (some b)).set k (some c)) σ)
      | _ => none := rfl
theorem ex_aug {i op e} : ex C (n + 1) (.aug i op e) ls σ = match ls[i]? with
      | some (some (.int a)) => (match ev C n e ls none σ with
        | some (.int b, σ) => (match binV op (.int a) (.int b) σ with | some (v, σ) => some (.next (ls.set i (some v)) σ) | none => none)
        | _ => none)
      | _ => none := rfl
theorem ex_whil {t : CE} {body : List CS} : ex C (n + 1) (.whil t body) ls σ = whileGo (fun ls σ => tst C n t ls none σ) (fun ls σ => exs (ex C n) body ls σ) 64 ls σ := rfl
theorem ex_tryf {i f args j} : ex C (n + 1) (.tryf [.assign i (.call f args)] [.ret (.not (.var j))]) ls σ = tryRun ls i j (evR C n (.call f args) ls σ) := rfl
end
section
theorem truth_1 {b σ} : truth (.bool b) σ = some b := rfl
theorem truth_2 {i σ} : truth (.int i) σ = some (decide (i ≠ 0)) := rfl
theorem truth_3 {n σ} : truth (.lst n) σ = (getL σ n).map fun vs => !vs.isEmpty := rfl
theorem itemsOf_1 {n σ} : itemsOf (.lst n) σ = getL σ n := rfl
theorem itemsOf_2 {lo hi σ} : itemsOf (.rng lo hi) σ = some ((List.range (hi - lo).toNat).map fun (i : Nat) => V.int (lo + (i : Int))) := rfl
theorem idxV_1 {n k σ} : idxV (.lst n) (.int k) σ = (getL σ n).bind fun vs => atL vs k := rfl
theorem idxV_2 {vs k σ} : idxV (.tup vs) (.int k) σ = if 0 <= k /\ k < 1000000 then vs[k.toNat]? else none := rfl
theorem idxV_3 {n k σ} : idxV (.dct n) (.int k) σ = (getD σ n).bind fun es => lookI es k := rfl
theorem eqS_1 {i j} : eqS (.int i) (.int j) = some (decide (i = j)) := rfl
theorem eqS_2 {i j} : eqS (.int i) (.str j) = some false := rfl
theorem eqS_3 {i j} : eqS (.str i) (.str j) = some (decide (i = j)) := rfl
theorem eqS_4 {i j} : eqS (.str i) (.int j) = some false := rfl
theorem eqD_1 {i j σ} : eqD σ (.int i) (.int j) = some (decide (i = j)) := rfl
theorem eqD_2 {n m σ} : eqD σ (.lst n) (.lst m) = eqLI σ n m := rfl
theorem eqV_1 {n m σ} : eqV σ (.lst n) (.lst m) = eqLI σ n m := rfl
theorem eqV_2 {n m σ} : eqV σ (.dct n) (.dct m) = (getD σ n).bind fun x => (getD σ m).bind fun y => eqDicts σ x y := rfl
theorem eqV_3 {i b σ} : eqV σ (.int i) b = eqS (.int i) b := rfl
theorem eqV_4 {i b σ} : eqV σ (.str i) b = eqS (.str i) b := rfl
theorem inV_1 {x vs σ} : inV σ x (.tup vs) = inTup x vs := rfl
theorem inV_2 {k n σ} : inV σ (.int k) (.dct n) = (getD σ n).map fun es => (lookI es k).isSome := rfl
theorem binV_1 {op i j σ} : binV op (.int i) (.int j) σ = (arith op i j).map fun k => (.int k, σ) := rfl
theorem binV_2 {n m σ} : binV .add (.lst n) (.lst m) σ = catL σ n m := rfl
theorem setV_1 {n k v σ} : setV (.lst n) (.int k) v σ = (do
    let vs <- getL σ n
    if 0 <= k /\ k < vs.length /\ k < 1000000 then some (σ.set n (.list (vs.set k.toNat v))) else none) := rfl
theorem setV_2 {n k v σ} : setV (.dct n) (.int k) v σ = (do
    let es <- getD σ n
    if es.length < LIM then some (σ.set n (.dict (putI es k v))) else none) := rfl
theorem compGo_1 {chk conds elt acc σ} : compGo chk conds elt [] acc σ = if chk σ then some (acc, σ) else none := rfl
theorem compGo_2 {chk conds elt x r acc σ} : compGo chk conds elt (x :: r) acc σ = if chk σ then (match conds x σ with
    | some (true, σ) => (match elt x σ with
      | some (v, σ) => if acc.length < LIM then compGo chk conds elt r (acc ++ [v]) σ else none
      | none => none)
    | some (false, σ) => compGo chk conds elt r acc σ
    | none => none) else none := rfl
theorem forGo_1 {chk step ls σ} : forGo chk step [] ls σ = if chk σ then some (.next ls σ) else none := rfl
theorem forGo_2 {chk step x r ls σ} : forGo chk step (x :: r) ls σ = if chk σ then (match step x ls σ with
    | some (.next ls σ) => forGo chk step r ls σ
    | some (.cont ls σ) => forGo chk step r ls σ
    | o => o) else none := rfl
theorem whileGo_1 {test step ls σ} : whileGo test step 0 ls σ = none := rfl
theorem whileGo_2 {test step k ls σ} : whileGo test step (k + 1) ls σ = match test ls σ with
    | some (true, σ) => (match step ls σ with
      | some (.next ls σ) => whileGo test step k ls σ
      | some (.cont ls σ) => whileGo test step k ls σ
      | o => o)
    | some (false, σ) => some (.next ls σ)
    | none => none := rfl
theorem evs_1 {f σ} : evs f [] σ = some ([], σ) := rfl
theorem evs_2 {f e r σ} : evs f (e :: r) σ = match f e σ with
    | some (v, σ) => (match evs f r σ with | some (vs, σ) => some (v :: vs, σ) | none => none)
    | none => none := rfl
theorem allT_1 {f σ} : allT f [] σ = some (true, σ) := rfl
theorem allT_2 {f e r σ} : allT f (e :: r) σ = match f e σ with
    | some (true, σ) => allT f r σ
    | some (false, σ) => some (false, σ)
    | none => none := rfl
theorem anyT_1 {f σ} : anyT f [] σ = some (false, σ) := rfl
theorem anyT_2 {f e r σ} : anyT f (e :: r) σ = match f e σ with
    | some (true, σ) => some (true, σ)
    | some (false, σ) => anyT f r σ
    | none => none := rfl
theorem allM_1 {α β} {f : α -> Option β} : allM f [] = some [] := rfl
theorem allM_2 {α β} {f : α -> Option β} {x r} : allM f (x :: r) = match f x with
    | some y => (match allM f r with | some ys => some (y :: ys) | none => none)
    | none => none := rfl
theorem andV_1 {f σ} : andV f [] σ = none := rfl
theorem andV_2 {f e σ} : andV f [e] σ = f e σ := rfl
theorem andV_3 {f e a r σ} : andV f (e :: a :: r) σ = match f e σ with
    | some (.bool true, σ) => andV f (a :: r) σ
    | some (.bool false, σ) => some (.bool false, σ)
    | _ => none := rfl
theorem lookI_1 {k} : lookI [] k = none := rfl
theorem lookI_2 {a v r k} : lookI ((a, v) :: r) k = if a = k then some v else lookI r k := rfl
theorem putI_1 {k v} : putI [] k v = [(k, v)] := rfl
theorem putI_2 {a b r k v} : putI ((a, b) :: r) k v = if a = k then (a, v) :: r else (a, b) :: putI r k v := rfl
theorem run_1 {f args σ} : run 0 f args σ = none := rfl
theorem run_2 {l f args σ} : run (l + 1) f args σ = match fns f with | some F => runFn (run l) F args σ | none => none := rfl
theorem intsOf_1  : intsOf [] = some [] := rfl
theorem intsOf_2 {i r} : intsOf (.int i :: r) = (intsOf r).map (i :: ·) := rfl
theorem evR_1 {C n i ls σ} : evR C n (.var i) ls σ = match ev C n (.var i) ls none σ with | some (v, σ) => some (.ok v σ) | none => none := rfl
theorem evR_2 {C n i ls σ} : evR C n (.int i) ls σ = match ev C n (.int i) ls none σ with | some (v, σ) => some (.ok v σ) | none => none := rfl
theorem evR_3 {C n o i ls σ} : evR C n (.idx o i) ls σ = match ev C n (.idx o i) ls none σ with | some (v, σ) => some (.ok v σ) | none => none := rfl
theorem evR_4 {C n op a b ls σ} : evR C n (.bin op a b) ls σ = match ev C n (.bin op a b) ls none σ with | some (v, σ) => some (.ok v σ) | none => none := rfl
theorem evR_5 {C n o x ls σ} : evR C n (.app o x) ls σ = match ev C n (.app o x) ls none σ with | some (v, σ) => some (.ok v σ) | none => none := rfl
theorem evR_6 {C n e ls σ} : evR C n (.len e) ls σ = match ev C n (.len e) ls none σ with | some (v, σ) => some (.ok v σ) | none => none := rfl
theorem evR_7 {C n as ls σ} : evR C n (CE.tup as) ls σ = match ev C n (CE.tup as) ls none σ with | some (v, σ) => some (.ok v σ) | none => none := rfl
end
theorem eqGo_2 {σ b k v r} : eqDicts.go σ b ((k, v) :: r) = match lookI b k with
      | none => some false
      | some w => match eqD σ v w, eqDicts.go σ b r with
        | some e, some q => some (e && q)
        | _, _ => none := rfl
theorem pairs_1 : pairsOfV [] = some [] := rfl
theorem pairs_2 {a b r} : pairsOfV (.tup [.int a, .int b] :: r) = (pairsOfV r).map ((a, .int b) :: ·) := rfl
end Mine.Eqn
end
section
set_option tactic.hygienic false
open PySem Mine.Eqn
namespace Mine.PL
noncomputable section
noncomputable def B_openArm : List CS :=
    [.ite (.not (.var 0)) [.ret (.int (-1))] [], .ret (.idx (.idx (.var 0) (.int (-1))) (.int (-1)))]
noncomputable def F_openArm : Fn := ⟨[0], 1, B_openArm⟩
noncomputable def B_noteLabel : List CS :=
    [.ite (.cmp (.eq) (.var 1) (.int 0)) [.retNone] [], .ite (.cmp (.isin) (.var 1) (.attr (.var 0) 0)) [.raise] [], .setIdx (.attr (.var 0) 0) (.var 1)
    (.var 2)]
noncomputable def F_noteLabel : Fn := ⟨[0, 1, 2], 4, B_noteLabel⟩
noncomputable def B_noteArm : List CS :=
    [.ite (.not (.var 1)) [.raise] [], .assign 5 (.idx (.var 1) (.int (-1))), .assign 6 (.idx (.var 5) (.int (-1))), .ite (.cmp (.eq) (.idx (.idx (.idx
    (.var 4) (.var 6)) (.int 1)) (.int 0)) (.str 2)) [.ite (.cmp (.ne) (.var 2) (.str 3)) [.raise] []] [.setIdx (.attr (.var 0) 1) (.var 6) (.var 3)],
    .ite (.cmp (.eq) (.var 2) (.str 3)) [.forr 7 (.var 5) [.setIdx (.attr (.var 0) 2) (.var 7) (.var 3)], .expr (.pop (.var 1))] [.expr (.app (.var 5)
    (.var 3))]]
noncomputable def F_noteArm : Fn := ⟨[0, 1, 2, 3, 4], 9, B_noteArm⟩
noncomputable def B_noteEnds : List CS :=
    [.whil (.and [.var 1, .cmp (.ne) (.var 3) (.int 0), .cmp (.eq) (.idx (.idx (.var 1) (.int (-1))) (.int 0)) (.var 3)]) [.unpack3 5 6 7 (.pop (.var 1)),
    .ite (.cmp (.ne) (.var 7) (.call 0 [.var 2])) [.raise] [], .setIdx (.attr (.var 0) 3) (.var 6) (.var 4), .ite (.cmp (.notin) (.var 4) (.attr (.var 0)
    4)) [.setIdx (.attr (.var 0) 4) (.var 4) (.lst [])] [], .expr (.app (.idx (.attr (.var 0) 4) (.var 4)) (.var 6))]]
noncomputable def F_noteEnds : Fn := ⟨[0, 1, 2, 3, 4], 10, B_noteEnds⟩
noncomputable def B_flowOf : List CS :=
    [.assign 1 (.newflow), .assign 2 (.lst []), .assign 3 (.lst []), .forr 4 (.range1 (.len (.var 0))) [.assign 5 (.idx (.idx (.var 0) (.var 4)) (.int
    0)), .assign 6 (.idx (.idx (.var 0) (.var 4)) (.int 1)), .expr (.call 1 [.var 1, .var 5, .var 4]), .ite (.cmp (.eq) (.idx (.var 6) (.int 0)) (.str 0))
    [.expr (.app (.var 2) (.lst [.var 4]))] [.ite (.cmp (.isin) (.idx (.var 6) (.int 0)) (.tup [.str 1, .str 2, .str 3])) [.expr (.call 2 [.var 1, .var 2,
    .idx (.var 6) (.int 0), .var 4, .var 0])] [.ite (.cmp (.eq) (.idx (.var 6) (.int 0)) (.str 4)) [.expr (.app (.var 3) (.tup [.idx (.var 6) (.int 1),
    .var 4, .call 0 [.var 2]])), .cont] []]], .expr (.call 3 [.var 1, .var 3, .var 2, .var 5, .var 4])], .ite (.var 2) [.raise] [], .ite (.var 3) [.raise]
    [], .ret (.var 1)]
noncomputable def F_flowOf : Fn := ⟨[0], 15, B_flowOf⟩
noncomputable def B_lawDraw : List CS :=
    [.assign 2 (.idx (.var 0) (.int 1)), .setIdx (.var 0) (.int 1) (.bin (.add) (.var 2) (.int 1)), .ite (.cmp (.lt) (.var 2) (.len (.idx (.var 0) (.int
    0)))) [.ret (.bin (.mod) (.idx (.idx (.var 0) (.int 0)) (.var 2)) (.var 1))] [], .ret (.bin (.mod) (.bin (.add) (.bin (.add) (.bin (.mul) (.int 5)
    (.var 2)) (.bin (.fdiv) (.bin (.mul) (.var 2) (.var 2)) (.int 4))) (.int 3)) (.var 1))]
noncomputable def F_lawDraw : Fn := ⟨[0, 1], 4, B_lawDraw⟩
noncomputable def B_lawRows : List CS :=
    [.assign 1 (.lst []), .assign 2 (.lst []), .forr 3 (.range1 (.call 5 [.var 0, .int 17])) [.assign 4 (.call 5 [.var 0, .int 9]), .assign 5 (.int 0),
    .ite (.cmp (.eq) (.var 4) (.int 1)) [.assign 6 (.tup [.str 0, .none]), .expr (.app (.var 2) (.str 0))] [.ite (.cmp (.eq) (.var 4) (.int 2)) [.assign 6
    (.tup [.str 1, .none])] [.ite (.cmp (.eq) (.var 4) (.int 3)) [.assign 6 (.tup [.str 2])] [.ite (.and [.cmp (.isin) (.var 4) (.tup [.int 4, .int 8]),
    .var 2]) [.assign 7 (.pop (.var 2)), .assign 6 (.ite (.cmp (.eq) (.var 7) (.str 0)) (.tup [.str 3]) (.tup [.str 5])), .assign 5 (.ite (.cmp (.eq)
    (.var 7) (.str 0)) (.int 0) (.var 7))] [.ite (.cmp (.eq) (.var 4) (.int 5)) [.assign 5 (.int 0), .assign 6 (.tup [.str 4, .bin (.mul) (.int 10) (.bin
    (.add) (.int 1) (.call 5 [.var 0, .int 4])), .none, .none, .none, .none]), .expr (.app (.var 2) (.idx (.var 6) (.int 1)))] [.assign 6 (.tup [.str 5]),
    .assign 5 (.idx (.lst [.int 0, .int 0, .int 10, .int 20, .int 30, .int 40]) (.call 5 [.var 0, .int 6]))]]]]], .expr (.app (.var 1) (.tup [.var 5, .var
    6, .var 3]))], .ite (.cmp (.ne) (.call 5 [.var 0, .int 4]) (.int 3)) [.assign 8 (.comp (.ite (.cmp (.eq) (.cv) (.str 0)) (.str 3) (.cv)) (.var 2) []
    true), .forr 3 (.range1 (.len (.var 8))) [.ite (.cmp (.eq) (.idx (.var 8) (.var 3)) (.str 3)) [.expr (.app (.var 1) (.tup [.int 0, .tup [.str 3], .int
    0]))] [.ite (.or [.cmp (.eq) (.bin (.add) (.var 3) (.int 1)) (.len (.var 8)), .cmp (.ne) (.idx (.var 8) (.bin (.add) (.var 3) (.int 1))) (.idx (.var
    8) (.var 3))]) [.expr (.app (.var 1) (.tup [.idx (.var 8) (.var 3), .tup [.str 5], .int 0]))] []]]] [], .ret (.var 1)]
noncomputable def F_lawRows : Fn := ⟨[0], 13, B_lawRows⟩
noncomputable def B_lawAhead : List CS :=
    [.assign 2 (.int 0), .assign 3 (.lst []), .forr 4 (.range2 (.bin (.add) (.var 1) (.int 1)) (.len (.var 0))) [.assign 5 (.idx (.idx (.idx (.var 0)
    (.var 4)) (.int 1)) (.int 0)), .ite (.cmp (.eq) (.var 5) (.str 0)) [.aug 2 (.add) (.int 1)] [.ite (.cmp (.eq) (.var 5) (.str 3)) [.ite (.cmp (.eq)
    (.var 2) (.int 0)) [.ret (.bin (.add) (.var 3) (.lst [.var 4]))] [], .aug 2 (.sub) (.int 1)] [.ite (.and [.cmp (.isin) (.var 5) (.tup [.str 1, .str
    2]), .cmp (.eq) (.var 2) (.int 0)]) [.expr (.app (.var 3) (.var 4))] []]]], .ret (.none)]
noncomputable def F_lawAhead : Fn := ⟨[0, 1], 8, B_lawAhead⟩
noncomputable def B_lawArms : List CS :=
    [.assign 1 (.lst []), .assign 2 (.lst []), .forr 3 (.range1 (.len (.var 0))) [.assign 4 (.idx (.idx (.idx (.var 0) (.var 3)) (.int 1)) (.int 0)), .ite
    (.cmp (.isin) (.var 4) (.tup [.str 1, .str 2, .str 3])) [.ite (.or [.not (.var 1), .and [.cmp (.ne) (.var 4) (.str 3), .cmp (.eq) (.idx (.idx (.idx
    (.var 0) (.idx (.var 1) (.int (-1)))) (.int 1)) (.int 0)) (.str 2)]]) [.ret (.none)] [], .assign 1 (.slHi (.var 1) (.int (-1)))] [], .expr (.app (.var
    2) (.mklist (.var 1))), .ite (.cmp (.isin) (.var 4) (.tup [.str 0, .str 1, .str 2])) [.assign 1 (.bin (.add) (.var 1) (.lst [.var 3]))] []], .ret
    (.ite (.not (.var 1)) (.var 2) (.none))]
noncomputable def F_lawArms : Fn := ⟨[0], 8, B_lawArms⟩
noncomputable def B_lawEnds : List CS :=
    [.assign 2 (.dict0), .forr 3 (.range1 (.len (.var 0))) [.ite (.cmp (.eq) (.idx (.idx (.idx (.var 0) (.var 3)) (.int 1)) (.int 0)) (.str 4)) [.assign 4
    (.comp (.cv) (.range2 (.bin (.add) (.var 3) (.int 1)) (.len (.var 0))) [.cmp (.eq) (.idx (.idx (.var 0) (.cv)) (.int 0)) (.idx (.idx (.idx (.var 0)
    (.var 3)) (.int 1)) (.int 1))] false), .ite (.or [.not (.var 4), .cmp (.eq) (.idx (.idx (.idx (.var 0) (.idx (.var 4) (.int 0))) (.int 1)) (.int 0))
    (.str 4)]) [.ret (.none)] [], .setIdx (.var 2) (.var 3) (.idx (.var 4) (.int 0)), .ite (.cmp (.ne) (.idx (.var 1) (.idx (.var 4) (.int 0))) (.idx
    (.var 1) (.var 3))) [.ret (.none)] []] []], .forr 5 (.var 2) [.forr 6 (.var 2) [.ite (.chain (.var 5) (.var 6) (.idx (.var 2) (.var 5)) (.idx (.var 2)
    (.var 6))) [.ret (.none)] []]], .ret (.var 2)]
noncomputable def F_lawEnds : Fn := ⟨[0, 1], 9, B_lawEnds⟩
noncomputable def B_law : List CS :=
    [.assign 1 (.lst [.slHi (.var 0) (.int 40), .int 0]), .assign 2 (.call 6 [.var 1]), .assign 3 (.comp (.idx (.cv) (.int 0)) (.var 2) [.idx (.cv) (.int
    0)] false), .assign 4 (.call 8 [.var 2]), .assign 5 (.ite (.cmp (.isNone) (.var 4) (.none)) (.none) (.call 9 [.var 2, .var 4])), .assign 6 (.and [.cmp
    (.isNot) (.var 5) (.none), .cmp (.eq) (.len (.var 3)) (.len (.mkdict (.comp (.tup [.cv, .int 0]) (.var 3) [] false)))]), .tryf [.assign 7 (.call 4
    [.var 2])] [.ret (.not (.var 6))], .ite (.or [.not (.var 6), .cmp (.ne) (.attr (.var 7) 3) (.var 5)]) [.ret (.bool false)] [], .ite (.cmp (.ne) (.attr
    (.var 7) 0) (.mkdict (.comp (.tup [.idx (.idx (.var 2) (.cv)) (.int 0), .cv]) (.range1 (.len (.var 2))) [.idx (.idx (.var 2) (.cv)) (.int 0)] false)))
    [.ret (.bool false)] [], .assign 9 (.dict0), .assign 10 (.dict0), .forr 8 (.range1 (.len (.var 2))) [.ite (.cmp (.isin) (.idx (.idx (.idx (.var 2)
    (.var 8)) (.int 1)) (.int 0)) (.tup [.str 0, .str 1, .str 2])) [.assign 11 (.call 7 [.var 2, .var 8]), .setIdx (.var 10) (.var 8) (.idx (.var 11)
    (.int (-1))), .ite (.cmp (.ne) (.idx (.idx (.idx (.var 2) (.var 8)) (.int 1)) (.int 0)) (.str 2)) [.setIdx (.var 9) (.var 8) (.idx (.var 11) (.int
    0))] []] []], .ite (.or [.cmp (.ne) (.attr (.var 7) 1) (.var 9), .cmp (.ne) (.attr (.var 7) 2) (.var 10)]) [.ret (.bool false)] [], .assign 12
    (.dict0), .forr 8 (.sorted (.var 5)) [.setIdx (.var 12) (.idx (.var 5) (.var 8)) (.bin (.add) (.get2 (.var 12) (.idx (.var 5) (.var 8)) (.lst []))
    (.lst [.var 8]))], .ret (.cmp (.eq) (.attr (.var 7) 4) (.var 12))]
noncomputable def F_law : Fn := ⟨[0], 23, B_law⟩
theorem fns_openArm : fns 0 = some F_openArm := by rfl
theorem fns_noteLabel : fns 1 = some F_noteLabel := by rfl
theorem fns_noteArm : fns 2 = some F_noteArm := by rfl
theorem fns_noteEnds : fns 3 = some F_noteEnds := by rfl
theorem fns_flowOf : fns 4 = some F_flowOf := by rfl
theorem fns_lawDraw : fns 5 = some F_lawDraw := by rfl
theorem fns_lawRows : fns 6 = some F_lawRows := by rfl
theorem fns_lawAhead : fns 7 = some F_lawAhead := by rfl
theorem fns_lawArms : fns 8 = some F_lawArms := by rfl
theorem fns_lawEnds : fns 9 = some F_lawEnds := by rfl
theorem lawFn_eq : lawFn = some F_law := by rfl
end
end Mine.PL
end
section
set_option tactic.hygienic false
open PySem Mine.Eqn
namespace Mine.PL
theorem noteLabel_spec {C : Calls} {σ : Sto} {f d0 d1 d2 d3 d4 : Nat} {l a : Int} {es : List (Int × V)} (hf : σ[f]? = some (.attrs [d0, d1, d2, d3, d4])) (hd : σ[d0]? = some (.dict es)) (hz : es.length < LIM) :
    runFn C F_noteLabel [.flow f, .int l, .int a] σ = if l = 0 then some (.ok .none σ) else if (lookI es l).isSome then some .exc else some (.ok .none (σ.set d0 (.dict (putI es l (.int a))))) := by
  have hd' := getD_of hd
  refine cpf fun rq => ?_
  by_cases h0 : l = 0
  · subst h0
    refine rq ?_
    simp [runFn, F_noteLabel, B_noteLabel, initLs, exs_cons, ex_ite, ex_retNone, ev_cmp, ev_var, ev_int, tst_cmp, cmpV, Eqn.eqV_3, Eqn.eqS_1, Eqn.truth_1]
  · by_cases h1 : (lookI es l).isSome = true
    · refine rq ?_
      simp [runFn, F_noteLabel, B_noteLabel, initLs, exs_nil, exs_cons, ex_ite, ex_raise, ev_cmp, ev_var, ev_int, ev_attr, tst_cmp, cmpV, Eqn.eqV_3, Eqn.eqS_1, Eqn.truth_1, h0, hf, Eqn.inV_2, hd', h1]
    · refine rq ?_
      simp [runFn, F_noteLabel, B_noteLabel, initLs, exs_nil, exs_cons, ex_ite, ex_setIdx, ev_cmp, ev_var, ev_int, ev_attr, tst_cmp, cmpV, Eqn.eqV_3, Eqn.eqS_1, Eqn.truth_1, h0, hf, Eqn.inV_2, hd', h1, Eqn.setV_2, hz]
end Mine.PL
end
section
set_option tactic.hygienic false
open PySem Mine.Eqn
namespace Mine.PL
noncomputable section
theorem lt_of_get {σ : Sto} {n : Nat} {o : AO} (h : σ[n]? = some o) : n < σ.length := (List.getElem?_eq_some_iff.mp h).1
theorem get_app {σ τ : Sto} {n : Nat} {o : AO} (h : σ[n]? = some o) : (σ ++ τ)[n]? = some o := by (refine Eq.trans (List.getElem?_append_left (lt_of_get h) ..) ?_); exact h
theorem get_new {σ : Sto} {o : AO} : (σ ++ [o])[σ.length]? = some o := by simp
theorem get_set_ne {σ : Sto} {n m : Nat} {o : AO} (h : m ≠ n) : (σ.set m o)[n]? = σ[n]? := List.getElem?_set_ne h
theorem get_set_eq {σ : Sto} {m : Nat} {o o' : AO} (h : σ[m]? = some o') : (σ.set m o)[m]? = some o := List.getElem?_set_self (lt_of_get h)
structure Pool (P Q : Nat) (xs : List Int) (at_ : Int) (σ : Sto) : Prop where
  p : σ[P]? = some (.list [.lst Q, .int at_])
  q : σ[Q]? = some (.list (xs.map .int))
  ne : P ≠ Q
  lo : 0 <= at_
  hi : at_ < 500
  len : xs.length <= 100
theorem Pool.next {P Q : Nat} {xs : List Int} {a : Int} {σ : Sto} (h : Pool P Q xs a σ) (ha : a + 1 < 500) : Pool P Q xs (a + 1) (σ.set P (.list [.lst Q, .int (a + 1)])) :=
  ⟨get_set_eq h.p, by (refine Eq.trans (get_set_ne h.ne ..) ?_); exact h.q, h.ne, by have := h.lo; (exact om12 this), ha, h.len⟩
theorem lawDraw_spec {C : Calls} {P Q : Nat} {xs : List Int} {a m : Int} {σ : Sto} (h : Pool P Q xs a σ) (h0 : 0 < m) (h1 : m < 1000) :
    ∃ r, 0 <= r /\ r < m /\ runFn C F_lawDraw [.lst P, .int m] σ = some (.ok (.int r) (σ.set P (.list [.lst Q, .int (a + 1)]))) := by
  have hp := getL_of h.p
  have hq : getL (σ.set P (.list [.lst Q, .int (a + 1)])) Q = some (xs.map .int) := getL_of (by (refine Eq.trans (get_set_ne h.ne ..) ?_); exact h.q)
  have hp' : getL (σ.set P (.list [.lst Q, .int (a + 1)])) P = some [.lst Q, .int (a + 1)] := getL_of (get_set_eq h.p)
  have ha := h.lo
  have ha2 := h.hi
  have hl := h.len
  have sm : ∀ i : Int, -100000 < i -> i < 1000000 -> small i = true := fun i h1 h2 => by simp [small]; (exact om13 h1 h2)
  have ti : ∀ i : Int, -100000 < i -> i < 1000000 -> tiny i = true := fun i h1 h2 => by simp [tiny]; (exact om14 h1 h2)
  have s1 := sm a (by (exact om15 ha)) (by (exact om16 ha2))
  have s2 := sm 1 (by (exact om17)) (by (exact om18))
  have s3 := sm m (by (exact om19 h0)) (by (exact om20 h1))
  have t1 := ti a (by (exact om15 ha)) (by (exact om16 ha2))
  by_cases hlt : a < xs.length
  · have hx : xs[a.toNat]? = some xs[a.toNat] := List.getElem?_eq_getElem (by (exact om21 ha hlt))
    refine ⟨xs[a.toNat].fmod m, Int.fmod_nonneg_of_pos _ h0, Int.fmod_lt_of_pos _ h0, ?_⟩
    simp [runFn, F_lawDraw, B_lawDraw, initLs, exs_cons, ex_assign, ex_setIdx, ex_ite, ex_ret, Eqn.evR_3, ev_idx, ev_var, ev_int, ev_bin, ev_len, ev_cmp, tst_cmp, Eqn.idxV_1, atL, hp, hp', hq, Eqn.binV_1, arith, s1, s2, s3, h0, Eqn.setV_1, cmpV, ltV, Eqn.truth_1, hlt, ha, show a < 1000000 by omega]
  · have hsq : 0 <= a * a := Int.mul_nonneg ha ha
    have hsq2 : a * a <= 250000 := by
      have : a * a <= 500 * 500 := Int.mul_le_mul (by (exact om23 ha2)) (by (exact om23 ha2)) ha (by (exact om24))
      (assumption)
    have hf0 : 0 <= (a * a).fdiv 4 := Int.fdiv_nonneg hsq (by (exact om25))
    have hf1 : (a * a).fdiv 4 <= 250000 := by
      rw [Int.fdiv_eq_ediv_of_nonneg _ (by (exact om25))]
      (exact om26 hsq2)
    have u1 := ti 5 (by (exact om27)) (by (exact om28))
    have u2 := sm (a * a) (by (exact om29 hsq)) (by (exact om30 hsq2))
    have u3 := sm 4 (by (exact om31)) (by (exact om32))
    have u4 := sm (5 * a) (by (exact om33 ha)) (by (exact om34 ha2))
    have u5 := sm ((a * a).fdiv 4) (by (exact om15 hf0)) (by (exact om35 hf1))
    have u6 := sm (5 * a + (a * a).fdiv 4) (by (exact om36 ha hf0)) (by (exact om37 ha2 hf1))
    have u7 := sm 3 (by (exact om38)) (by (exact om39))
    refine ⟨(5 * a + (a * a).fdiv 4 + 3).fmod m, Int.fmod_nonneg_of_pos _ h0, Int.fmod_lt_of_pos _ h0, ?_⟩
    simp [runFn, F_lawDraw, B_lawDraw, initLs, exs_nil, exs_cons, ex_assign, ex_setIdx, ex_ite, ex_ret, Eqn.evR_3, ev_idx, ev_var, ev_int, ev_bin, ev_len, ev_cmp, tst_cmp, Eqn.idxV_1, atL, hp, hp', hq, Eqn.binV_1, arith, s1, s2, s3, h0, Eqn.setV_1, cmpV, ltV, Eqn.truth_1, hlt, t1, u1, u2, u3, u4, u5, u6, u7]
end
end Mine.PL
end
section
set_option tactic.hygienic false
open PySem Mine.Eqn
namespace Mine.PL
noncomputable section
inductive Stm where
  | ifs | elif | els | endif | doo (t : Int) | cont
structure Row where
  lab : Int
  stm : Stm
  k : Int
noncomputable def stmV : Stm -> V
  | .ifs => .tup [.str 0, .none]
  | .elif => .tup [.str 1, .none]
  | .els => .tup [.str 2]
  | .endif => .tup [.str 3]
  | .doo t => .tup [.str 4, .int t, .none, .none, .none, .none]
  | .cont => .tup [.str 5]
noncomputable def rowV (r : Row) : V := .tup [.int r.lab, stmV r.stm, .int r.k]
noncomputable def hV : Option Int -> V
  | none => .str 0
  | some t => .int t
structure GoodRow (r : Row) : Prop where
  lab : r.lab ≠ 0 -> r.stm = .cont
  tgt : ∀ t, r.stm = .doo t -> t ≠ 0
structure RI (P Q R H : Nat) (xs : List Int) (a : Int) (rows : List Row) (heap : List (Option Int)) (σ : Sto) : Prop where
  pool : Pool P Q xs a σ
  r : σ[R]? = some (.list (rows.map rowV))
  h : σ[H]? = some (.list (heap.map hV))
  rp : R ≠ P
  rq : R ≠ Q
  hp : H ≠ P
  hq : H ≠ Q
  rh : R ≠ H
  good : ∀ r ∈ rows, GoodRow r
  hgood : ∀ t, some t ∈ heap -> t ≠ 0
section
variable {P Q R H : Nat} {xs : List Int} {a : Int} {rows : List Row} {heap : List (Option Int)} {σ : Sto}
theorem RI.draw (I : RI P Q R H xs a rows heap σ) (ha : a + 1 < 500) : RI P Q R H xs (a + 1) rows heap (σ.set P (.list [.lst Q, .int (a + 1)])) :=
  ⟨I.pool.next ha, by (refine Eq.trans (get_set_ne (Ne.symm I.rp) ..) ?_); exact I.r, by (refine Eq.trans (get_set_ne (Ne.symm I.hp) ..) ?_); exact I.h, I.rp, I.rq, I.hp, I.hq, I.rh, I.good, I.hgood⟩
theorem RI.app (I : RI P Q R H xs a rows heap σ) {r : Row} (hr : GoodRow r) : RI P Q R H xs a (rows ++ [r]) heap (σ.set R (.list (rows.map rowV ++ [rowV r]))) :=
  ⟨⟨by (refine Eq.trans (get_set_ne I.rp ..) ?_); exact I.pool.p, by (refine Eq.trans (get_set_ne I.rq ..) ?_); exact I.pool.q, I.pool.ne, I.pool.lo, I.pool.hi, I.pool.len⟩, by (refine Eq.trans (get_set_eq I.r ..) ?_); simp, by (refine Eq.trans (get_set_ne I.rh ..) ?_); exact I.h, I.rp, I.rq, I.hp, I.hq, I.rh,
    fun r' h' => by rcases List.mem_append.mp h' with q | q; exact I.good r' q; rw [List.mem_singleton.mp q]; exact hr, I.hgood⟩
theorem RI.setH (I : RI P Q R H xs a rows heap σ) {heap' : List (Option Int)} (hg : ∀ t, some t ∈ heap' -> t ≠ 0) : RI P Q R H xs a rows heap' (σ.set H (.list (heap'.map hV))) :=
  ⟨⟨by (refine Eq.trans (get_set_ne I.hp ..) ?_); exact I.pool.p, by (refine Eq.trans (get_set_ne I.hq ..) ?_); exact I.pool.q, I.pool.ne, I.pool.lo, I.pool.hi, I.pool.len⟩, by (refine Eq.trans (get_set_ne (Ne.symm I.rh) ..) ?_); exact I.r, get_set_eq I.h, I.rp, I.rq, I.hp, I.hq, I.rh, I.good, hg⟩
theorem RI.ext (I : RI P Q R H xs a rows heap σ) {τ : Sto} : RI P Q R H xs a rows heap (σ ++ τ) :=
  ⟨⟨get_app I.pool.p, get_app I.pool.q, I.pool.ne, I.pool.lo, I.pool.hi, I.pool.len⟩, get_app I.r, get_app I.h, I.rp, I.rq, I.hp, I.hq, I.rh, I.good, I.hgood⟩
theorem forGo_inv {chk : Sto -> Bool} {step : V -> Ls -> Sto -> Option Out} {items : List V} (Inv : Nat -> Ls -> Sto -> Prop)
    (hstep : ∀ j x ls σ, items[j]? = some x -> Inv j ls σ -> chk σ = true /\ ∃ ls' σ', (step x ls σ = some (.next ls' σ') \/ step x ls σ = some (.cont ls' σ')) /\ Inv (j + 1) ls' σ')
    (hend : ∀ ls σ, Inv items.length ls σ -> chk σ = true) {ls : Ls} {σ : Sto} (h0 : Inv 0 ls σ) : ∃ ls' σ', forGo chk step items ls σ = some (.next ls' σ') /\ Inv items.length ls' σ' := by
  suffices ∀ (n j : Nat) (ls : Ls) (σ : Sto), n + j = items.length -> Inv j ls σ -> ∃ ls' σ', forGo chk step (items.drop j) ls σ = some (.next ls' σ') /\ Inv items.length ls' σ' by
    have := this items.length 0 ls σ (by (rfl)) h0
    simpa using this
  intro n
  induction n with
  | zero =>
    intro j ls σ hj hI
    have : j = items.length := by (exact om40 hj)
    subst this
    refine ⟨ls, σ, ?_, hI⟩
    rw [List.drop_length]
    simp [Eqn.forGo_1, hend ls σ hI]
  | succ n ih =>
    intro j ls σ hj hI
    have hlt : j < items.length := by (exact om41 hj)
    rw [List.drop_eq_getElem_cons hlt]
    refine cpf fun rq => ?_
    obtain ⟨hc, ls', σ', hs, hI'⟩ := hstep j _ ls σ (List.getElem?_eq_getElem hlt) hI
    refine el22 (ih (j + 1) ls' σ' (by (exact om42 hj)) hI') fun ls2 σ2 h1 h2 => ?_
    refine rq ?_
    refine ⟨ls2, σ2, ?_, h2⟩
    rw [Eqn.forGo_2, if_pos hc]
    rcases hs with hs | hs <;> (rw [hs]; exact h1)
end
end
end Mine.PL
end
section
set_option tactic.hygienic false
open PySem Mine.Eqn
namespace Mine.PL
noncomputable section
noncomputable def isCallE : CE -> Bool
  | .call .. => true
  | _ => false
section
variable {C : Calls} {n : Nat} {ls ls' : Ls} {cv : Option V} {σ σ' σ'' τ : Sto}
theorem exs_next {f : CS -> Ls -> Sto -> Option Out} {s r} (h : f s ls σ = some (.next ls' σ')) : exs f (s :: r) ls σ = exs f r ls' σ' := by rw [exs_cons, h]
theorem exs_contd {f : CS -> Ls -> Sto -> Option Out} {s r} (h : f s ls σ = some (.cont ls' σ')) : exs f (s :: r) ls σ = some (.cont ls' σ') := by rw [exs_cons, h]
theorem exs_retd {f : CS -> Ls -> Sto -> Option Out} {s r v} (h : f s ls σ = some (.ret v σ')) : exs f (s :: r) ls σ = some (.ret v σ') := by rw [exs_cons, h]
theorem exs_excd {f : CS -> Ls -> Sto -> Option Out} {s r} (h : f s ls σ = some .exc) : exs f (s :: r) ls σ = some .exc := by rw [exs_cons, h]
theorem exs_one {f : CS -> Ls -> Sto -> Option Out} {s} {o} (h : f s ls σ = some o) : exs f [s] ls σ = some o := by rw [exs_cons, h]; induction o using Out.casesOn <;> rfl
theorem ex_if1 {t a b} (h : tst C n t ls none σ = some (true, σ')) : ex C (n + 1) (.ite t a b) ls σ = exs (ex C n) a ls σ' := by rw [ex_ite, h]
theorem ex_if0 {t a b} (h : tst C n t ls none σ = some (false, σ')) : ex C (n + 1) (.ite t a b) ls σ = exs (ex C n) b ls σ' := by rw [ex_ite, h]
theorem ex_skip {t a} (h : tst C n t ls none σ = some (false, σ')) : ex C (n + 1) (.ite t a []) ls σ = some (.next ls σ') := by rw [ex_ite, h]; rfl
theorem evR_d {e : CE} {v} (h : ev C n e ls none σ = some (v, σ')) : (match ev C n e ls none σ with | some (v, σ) => some (Res.ok v σ) | none => none) = some (.ok v σ') := by rw [h]
theorem evR_ev {e v} (hc : isCallE e = false) (h : ev C n e ls none σ = some (v, σ')) : evR C n e ls σ = some (.ok v σ') := by
  induction e using CE.casesOn with
  | call => exact Bool.noConfusion hc
  | _ => exact evR_d h
theorem ex_asg {i e v} (hc : isCallE e = false) (h : ev C n e ls none σ = some (v, σ')) : ex C (n + 1) (.assign i e) ls σ = some (.next (ls.set i (some v)) σ') := by
  rw [ex_assign, evR_ev hc h]
theorem ex_xp {e v} (hc : isCallE e = false) (h : ev C n e ls none σ = some (v, σ')) : ex C (n + 1) (.expr e) ls σ = some (.next ls σ') := by
  rw [ex_expr, evR_ev hc h]
theorem ex_rt {e v} (h : ev C n e ls none σ = some (v, σ')) : ex C (n + 1) (.ret e) ls σ = some (.ret v σ') := by rw [ex_ret, h]
theorem ex_sidx {o i e v vo vi σ1 σ2 σ3 σ4} (h1 : ev C n e ls none σ = some (v, σ1)) (h2 : ev C n o ls none σ1 = some (vo, σ2)) (h3 : ev C n i ls none σ2 = some (vi, σ3)) (h4 : setV vo vi v σ3 = some σ4) : ex C (n + 1) (.setIdx o i e) ls σ = some (.next ls σ4) := by
  rw [ex_setIdx, h1]
  simp only [h2, h3, h4]
  rfl
theorem ex_asgC {i f args vs v} (h : evs (fun e σ => ev C n e ls none σ) args σ = some (vs, σ')) (hc : C f vs σ' = some (.ok v σ'')) : ex C (n + 1) (.assign i (.call f args)) ls σ = some (.next (ls.set i (some v)) σ'') := by
  rw [ex_assign, evR_call, h]
  simp only [hc]
theorem ex_xpC {f args vs v} (h : evs (fun e σ => ev C n e ls none σ) args σ = some (vs, σ')) (hc : C f vs σ' = some (.ok v σ'')) : ex C (n + 1) (.expr (.call f args)) ls σ = some (.next ls σ'') := by
  rw [ex_expr, evR_call, h]
  simp only [hc]
theorem ex_xpX {f args vs} (h : evs (fun e σ => ev C n e ls none σ) args σ = some (vs, σ')) (hc : C f vs σ' = some .exc) : ex C (n + 1) (.expr (.call f args)) ls σ = some .exc := by
  rw [ex_expr, evR_call, h]
  simp only [hc]
theorem runFn_ret {F : Fn} {args : List V} {v} (hl : args.length = F.params.length) (h : exs (ex C 40) F.body (initLs F args) σ = some (.ret v σ')) : runFn C F args σ = some (.ok v σ') := by
  unfold runFn; rw [if_pos hl, h]
theorem runFn_next {F : Fn} {args : List V} (hl : args.length = F.params.length) (h : exs (ex C 40) F.body (initLs F args) σ = some (.next ls' σ')) : runFn C F args σ = some (.ok .none σ') := by
  unfold runFn; rw [if_pos hl, h]
theorem runFn_exc {F : Fn} {args : List V} (hl : args.length = F.params.length) (h : exs (ex C 40) F.body (initLs F args) σ = some .exc) : runFn C F args σ = some .exc := by
  unfold runFn; rw [if_pos hl, h]
end
section
variable {C : Calls} {n : Nat} {ls : Ls} {cv : Option V} {σ σ1 σ2 : Sto}
theorem ev_v {i : Nat} {v : V} (h : ls[i]? = some (some v)) : ev C (n + 1) (.var i) ls cv σ = some (v, σ) := by rw [ev_var, h]
theorem ev_i {o i : CE} {vo vi v : V} (h1 : ev C n o ls cv σ = some (vo, σ1)) (h2 : ev C n i ls cv σ1 = some (vi, σ2)) (h3 : idxV vo vi σ2 = some v) : ev C (n + 1) (.idx o i) ls cv σ = some (v, σ2) := by
  rw [ev_idx, h1]
  simp only [h2, h3]
  rfl
theorem ev_c {op : Co} {a b : CE} {va vb : V} {c : Bool} (h1 : ev C n a ls cv σ = some (va, σ1)) (h2 : ev C n b ls cv σ1 = some (vb, σ2)) (h3 : cmpV op va vb σ2 = some c) : ev C (n + 1) (.cmp op a b) ls cv σ = some (.bool c, σ2) := by
  rw [ev_cmp, h1]
  simp only [h2, h3]
  rfl
theorem tst_c {op : Co} {a b : CE} {va vb : V} {c : Bool} (h1 : ev C n a ls cv σ = some (va, σ1)) (h2 : ev C n b ls cv σ1 = some (vb, σ2)) (h3 : cmpV op va vb σ2 = some c) : tst C (n + 2) (.cmp op a b) ls cv σ = some (c, σ2) := by
  rw [tst_cmp, ev_c h1 h2 h3]
  rfl
theorem ev_b {op : Bo} {a b : CE} {va vb v : V} (h1 : ev C n a ls cv σ = some (va, σ1)) (h2 : ev C n b ls cv σ1 = some (vb, σ2)) (h3 : binV op va vb σ2 = some (v, σ')) : ev C (n + 1) (.bin op a b) ls cv σ = some (v, σ') := by
  rw [ev_bin, h1]
  simp only [h2, h3]
theorem ev_l {e : CE} {m : Nat} {vs : List V} (h1 : ev C n e ls cv σ = some (.lst m, σ1)) (h2 : σ1[m]? = some (.list vs)) : ev C (n + 1) (.len e) ls cv σ = some (.int vs.length, σ1) := by
  rw [ev_len, h1]
  simp only [getL_of h2]
  rfl
theorem ev_n {i : Int} : ev C (n + 1) (.int i) ls cv σ = some (.int i, σ) := rfl
theorem ev_s {i : Nat} : ev C (n + 1) (.str i) ls cv σ = some (.str i, σ) := rfl
theorem ev_ap {o x : CE} {m : Nat} {vs us : List V} {v : V} (h : ev C n o ls cv σ = some (.lst m, σ1)) (h1 : σ1[m]? = some (.list us)) (h2 : ev C n x ls cv σ1 = some (v, σ2)) (h3 : σ2[m]? = some (.list vs)) (hl : vs.length < 4096) :
    ev C (n + 1) (.app o x) ls cv σ = some (.none, σ2.set m (.list (vs ++ [v]))) := by
  rw [ev_app, h]
  simp only [getL_of h1, Option.isSome_some, if_true, h2, getL_of h3]
  exact if_pos hl
theorem ev_l1 {e : CE} {v : V} (h : ev C n e ls cv σ = some (v, σ1)) : ev C (n + 1) (.lst [e]) ls cv σ = some (.lst σ1.length, σ1 ++ [.list [v]]) := by
  (refine Eq.trans (ev_lst ..) ?_); simp only [Eqn.evs_1, Eqn.evs_2, h]
end
section
variable {C : Calls} {n : Nat} {ls : Ls} {cv : Option V} {σ : Sto} {a b c : CE} {x y z : Bool}
theorem tst_and2 (h1 : tst C n a ls cv σ = some (x, σ)) (h2 : x = true -> tst C n b ls cv σ = some (y, σ)) : tst C (n + 1) (.and [a, b]) ls cv σ = some (x && y, σ) := by
  (refine Eq.trans (tst_and ..) ?_)
  simp only [Eqn.allT_1, Eqn.allT_2, h1]
  induction x using Bool.casesOn with
  | false => rfl
  | true => simp only [h2 rfl]; induction y using Bool.casesOn <;> rfl
theorem tst_and3 (h1 : tst C n a ls cv σ = some (x, σ)) (h2 : x = true -> tst C n b ls cv σ = some (y, σ)) (h3 : x = true -> y = true -> tst C n c ls cv σ = some (z, σ)) : tst C (n + 1) (.and [a, b, c]) ls cv σ = some (x && y && z, σ) := by
  (refine Eq.trans (tst_and ..) ?_)
  simp only [Eqn.allT_1, Eqn.allT_2, h1]
  induction x using Bool.casesOn with
  | false => rfl
  | true =>
    simp only [h2 rfl]
    induction y using Bool.casesOn with
    | false => rfl
    | true => simp only [h3 rfl rfl]; induction z using Bool.casesOn <;> rfl
theorem tst_or2 (h1 : tst C n a ls cv σ = some (x, σ)) (h2 : x = false -> tst C n b ls cv σ = some (y, σ)) : tst C (n + 1) (.or [a, b]) ls cv σ = some (x || y, σ) := by
  (refine Eq.trans (tst_or ..) ?_)
  simp only [Eqn.anyT_1, Eqn.anyT_2, h1]
  induction x using Bool.casesOn with
  | true => rfl
  | false => simp only [h2 rfl]; induction y using Bool.casesOn <;> rfl
end
theorem eqS_int (a b : Int) (σ : Sto) : cmpV .eq (.int a) (.int b) σ = some (decide (a = b)) := rfl
theorem neS_int (a b : Int) (σ : Sto) : cmpV .ne (.int a) (.int b) σ = some (!decide (a = b)) := rfl
theorem small_of {i : Int} (h : -1000000 < i) (h' : i < 1000000) : small i = true := by simp [small]; (exact om176 h h')
theorem tiny_of {i : Int} (h : -1000000 < i) (h' : i < 1000000) : tiny i = true := by simp [tiny]; (exact om177 h h')
theorem add_int {a b : Int} {σ : Sto} (h1 : -1000000 < a) (h2 : a < 1000000) (h3 : -1000000 < b) (h4 : b < 1000000) : binV .add (.int a) (.int b) σ = some (.int (a + b), σ) := by
  simp [Eqn.binV_1, arith, small_of h1 h2, small_of h3 h4]
theorem sub_int {a b : Int} {σ : Sto} (h1 : -1000000 < a) (h2 : a < 1000000) (h3 : -1000000 < b) (h4 : b < 1000000) : binV .sub (.int a) (.int b) σ = some (.int (a - b), σ) := by
  simp [Eqn.binV_1, arith, small_of h1 h2, small_of h3 h4]
end
end Mine.PL
end
section
set_option tactic.hygienic false
open PySem Mine.Eqn
namespace Mine.PL
noncomputable section
theorem isEmpty_snoc {α : Type} (l : List α) (x : α) : (l ++ [x]).isEmpty = false := by induction l using List.casesOn <;> rfl
section
variable {C C' : Calls} {P Q R H : Nat} {xs : List Int} {a : Int} {rows : List Row} {heap : List (Option Int)} {σ : Sto}
theorem take_draw (hC : ∀ args σ, C 5 args σ = runFn C' F_lawDraw args σ) (I : RI P Q R H xs a rows heap σ) {m : Int} (h0 : 0 < m) (h1 : m < 1000) (ha : a + 1 < 500) :
    ∃ r σ', 0 <= r /\ r < m /\ C 5 [.lst P, .int m] σ = some (.ok (.int r) σ') /\ RI P Q R H xs (a + 1) rows heap σ' /\ (∃ o, σ' = σ.set P o) /\ P < σ.length := by
  refine el13 (lawDraw_spec (C := C') I.pool h0 h1) fun r r0 r1 h => ?_
  exact ⟨r, _, r0, r1, by (refine Eq.trans (hC ..) ?_); exact h, I.draw ha, ⟨_, rfl⟩, lt_of_get I.pool.p⟩
noncomputable def rowsBody : List CS := match B_lawRows with
  | [_, _, .forr _ _ b, _, _] => b
  | _ => []
noncomputable def rowsIf : CS := match rowsBody with
  | [_, _, s, _] => s
  | _ => .cont
noncomputable def elsOf : CS -> CS
  | .ite _ _ [s] => s
  | _ => .cont
noncomputable def thenOf : CS -> List CS
  | .ite _ b _ => b
  | _ => []
noncomputable def elssOf : CS -> List CS
  | .ite _ _ b => b
  | _ => []
noncomputable abbrev LR (P R H : Nat) (k : Int) (b4 b5 b6 b7 : Option V) : Ls := [some (.lst P), some (.lst R), some (.lst H), some (.int k), b4, b5, b6, b7, none, none, none, none, none]
structure RowRes (P Q R H : Nat) (xs : List Int) (a : Int) (rows : List Row) (heap : List (Option Int)) (k r : Int) (o : Option Out) : Prop where
  ex : ∃ (stm : Stm) (lab : Int) (b7 : Option V) (σ' : Sto) (a' : Int) (heap' : List (Option Int)), o = some (.next (LR P R H k (some (.int r)) (some (.int lab)) (some (stmV stm)) b7) σ') /\ RI P Q R H xs a' rows heap' σ' /\ GoodRow ⟨lab, stm, k⟩ /\ a <= a' /\ a' <= a + 1 /\ heap'.length <= heap.length + 1
theorem ev_t1 {n : Nat} {ls : Ls} {w : Nat} : ev C (n + 2) (.tup [.str w]) ls none σ = some (.tup [.str w], σ) := by (refine Eq.trans (ev_tup ..) ?_); rfl
theorem ev_call1 {n : Nat} {ls : Ls} {m r : Int} {σ1 : Sto} (h0 : ls[0]? = some (some (.lst P))) (hd : C 5 [.lst P, .int m] σ = some (.ok (.int r) σ1)) : ev C (n + 2) (.call 5 [.var 0, .int m]) ls none σ = some (.int r, σ1) := by
  (refine Eq.trans (ev_call ..) ?_)
  simp only [Eqn.evs_1, Eqn.evs_2, ev_v h0, ev_int, hd]
theorem row_tst {n : Nat} {k r w : Int} {b5 b6 b7 : Option V} : tst C (n + 3) (.cmp .eq (.var 4) (.int w)) (LR P R H k (some (.int r)) b5 b6 b7) none σ = some (decide (r = w), σ) := tst_c (ev_v rfl) ev_n rfl
variable {k r : Int} {b6 b7 : Option V}
theorem heap_app {n : Nat} {b4 b5 : Option V} {e : CE} {v : V} (I : RI P Q R H xs a rows heap σ) (hl : heap.length < 100) (he : ev C (n + 1) e (LR P R H k b4 b5 b6 b7) none σ = some (v, σ)) :
    ex C (n + 3) (.expr (.app (.var 2) e)) (LR P R H k b4 b5 b6 b7) σ = some (.next (LR P R H k b4 b5 b6 b7) (σ.set H (.list (heap.map hV ++ [v])))) :=
  ex_xp rfl (ev_ap (ev_v rfl) I.h he I.h (by rw [List.length_map]; (exact om43 hl)))
theorem row_if (I : RI P Q R H xs a rows heap σ) (hl : heap.length < 100) : RowRes P Q R H xs a rows heap k r (exs (ex C 38) [.assign 6 (.tup [.str 0, .none]), .expr (.app (.var 2) (.str 0))] (LR P R H k (some (.int r)) (some (.int 0)) b6 b7) σ) := by
  have I2 := I.setH (heap' := heap ++ [none]) (fun t ht => by rcases List.mem_append.mp ht with q | q; exact I.hgood t q; simp at q)
  rw [List.map_append] at I2
  refine ⟨.ifs, 0, b7, _, a, heap ++ [none], ?_, I2, ⟨fun q => absurd rfl q, fun t q => by (exact Stm.noConfusion q)⟩, Int.le_refl _, by (exact om44), by simp⟩
  refine (exs_next (ex_asg rfl (v := stmV .ifs) (by (refine Eq.trans (ev_tup ..) ?_); rfl))).trans ?_
  exact exs_one (heap_app (n := 35) I hl ev_s)
theorem row_word (s : Stm) (e : CE) (hd : ∀ t, s ≠ .doo t) {n : Nat} (hc : isCallE e = false) (he : ev C (n + 2) e (LR P R H k (some (.int r)) (some (.int 0)) b6 b7) none σ = some (stmV s, σ)) (I : RI P Q R H xs a rows heap σ) : RowRes P Q R H xs a rows heap k r (exs (ex C (n + 3)) [.assign 6 e] (LR P R H k (some (.int r)) (some (.int 0)) b6 b7) σ) :=
  ⟨s, 0, b7, σ, a, heap, exs_one (ex_asg hc he), I, ⟨fun q => absurd rfl q, fun t q => absurd q (hd t)⟩, Int.le_refl _, by (exact om44), by (exact om45)⟩
theorem row_pop {hp : List (Option Int)} {o : Option Int} (I : RI P Q R H xs a rows (hp ++ [o]) σ) : RowRes P Q R H xs a rows (hp ++ [o]) k r (exs (ex C 35) (thenOf (elsOf (elsOf (elsOf rowsIf)))) (LR P R H k (some (.int r)) (some (.int 0)) b6 b7) σ) := by
  have I2 := I.setH (heap' := hp) (fun t ht => I.hgood t (List.mem_append_left _ ht))
  have hh := I.h
  rw [List.map_append] at hh
  have s1 : ex C 35 (.assign 7 (.pop (.var 2))) (LR P R H k (some (.int r)) (some (.int 0)) b6 b7) σ = some (.next (LR P R H k (some (.int r)) (some (.int 0)) b6 (some (hV o))) (σ.set H (.list (hp.map hV)))) := by
    refine ex_asg rfl ?_
    rw [ev_pop, ev_v (v := .lst H) rfl]
    simp only [getL_of hh, List.map_cons, List.map_nil, List.getLast?_concat, List.dropLast_concat]
  generalize (σ.set H (.list (hp.map hV))) = σ1 at *
  have t7 : ∀ n b6, tst C (n + 3) (.cmp .eq (.var 7) (.str 0)) (LR P R H k (some (.int r)) (some (.int 0)) b6 (some (hV o))) none σ1 = some (o.isNone, σ1) := fun n b6 => tst_c (ev_v rfl) ev_s (by induction o using Option.casesOn <;> rfl)
  have s2 : ex C 35 (.assign 6 (.ite (.cmp .eq (.var 7) (.str 0)) (.tup [.str 3]) (.tup [.str 5]))) (LR P R H k (some (.int r)) (some (.int 0)) b6 (some (hV o))) σ1 = some (.next (LR P R H k (some (.int r)) (some (.int 0)) (some (stmV (if o.isNone then .endif else .cont))) (some (hV o))) σ1) := by
    refine ex_asg rfl ?_
    rw [ev_ite, t7 30]
    induction o using Option.casesOn <;> exact ev_t1
  have s3 : ∀ b6, ex C 35 (.assign 5 (.ite (.cmp .eq (.var 7) (.str 0)) (.int 0) (.var 7))) (LR P R H k (some (.int r)) (some (.int 0)) b6 (some (hV o))) σ1 = some (.next (LR P R H k (some (.int r)) (some (.int (o.getD 0))) b6 (some (hV o))) σ1) := fun b6 => by
    refine ex_asg rfl ?_
    rw [ev_ite, t7 30]
    induction o using Option.casesOn with
    | none => exact ev_n
    | some t => exact ev_v rfl
  refine ⟨if o.isNone then .endif else .cont, o.getD 0, some (hV o), σ1, a, hp, ?_, I2, ?_, Int.le_refl _, by (exact om44), by simp only [List.length_append, List.length_cons, List.length_nil]; (exact om46)⟩
  · refine (exs_next s1).trans ?_
    refine (exs_next s2).trans ?_
    exact exs_one (s3 _)
  · induction o using Option.casesOn with
    | none => exact ⟨fun q => absurd rfl q, fun t q => by cases q⟩
    | some t => exact ⟨fun _ => rfl, fun t q => by cases q⟩
theorem row_do (hC : ∀ args σ, C 5 args σ = runFn C' F_lawDraw args σ) (I : RI P Q R H xs a rows heap σ) (ha : a + 1 < 500) (hl : heap.length < 100) : RowRes P Q R H xs a rows heap k r (exs (ex C 34) (thenOf (elsOf (elsOf (elsOf (elsOf rowsIf))))) (LR P R H k (some (.int r)) (some (.int 0)) b6 b7) σ) := by
  refine el26 (take_draw hC I (m := 4) (by (exact om47)) (by (exact om48)) (by (exact om49 ha))) fun q σ2 q0 q1 hd2 I2 _ _ => ?_
  have ht : (10 * (1 + q) : Int) ≠ 0 := by (exact om50 q0)
  have I3 := I2.setH (heap' := heap ++ [some (10 * (1 + q))]) (fun t h => by rcases List.mem_append.mp h with z | z; exact I2.hgood t z; simp at z; (exact om51 q0 z))
  rw [List.map_append] at I3
  have s1 : ex C 34 (.assign 5 (.int 0)) (LR P R H k (some (.int r)) (some (.int 0)) b6 b7) σ = some (.next (LR P R H k (some (.int r)) (some (.int 0)) b6 b7) σ) := ex_asg rfl ev_n
  have e2 : ev C 32 (.bin .mul (.int 10) (.bin .add (.int 1) (.call 5 [.var 0, .int 4]))) (LR P R H k (some (.int r)) (some (.int 0)) b6 b7) none σ = some (.int (10 * (1 + q)), σ2) := by
    refine ev_b ev_n (ev_b ev_n (ev_call1 rfl hd2) (add_int (by (exact om52)) (by (exact om18)) (by (exact om53 q0)) (by (exact om54 q1)))) ?_
    have h1 : tiny 10 = true := by decide
    have h2 : tiny (1 + q) = true := by simp only [tiny, decide_eq_true_eq]; (exact om55 q0 q1)
    simp only [Eqn.binV_1, arith, h1, h2, Bool.and_self, if_true, Option.map]
  have s2 : ex C 34 (.assign 6 (.tup [.str 4, .bin .mul (.int 10) (.bin .add (.int 1) (.call 5 [.var 0, .int 4])), .none, .none, .none, .none])) (LR P R H k (some (.int r)) (some (.int 0)) b6 b7) σ = some (.next (LR P R H k (some (.int r)) (some (.int 0)) (some (stmV (.doo (10 * (1 + q))))) b7) σ2) := by
    refine ex_asg rfl (v := stmV (.doo (10 * (1 + q)))) ?_
    (refine Eq.trans (ev_tup ..) ?_)
    simp only [Eqn.evs_1, Eqn.evs_2, ev_str, e2, ev_none]
    rfl
  have s3 := heap_app (C := C) (n := 31) (k := k) (b4 := some (.int r)) (b5 := some (.int 0)) (b6 := some (stmV (.doo (10 * (1 + q))))) (b7 := b7) (e := .idx (.var 6) (.int 1)) (v := .int (10 * (1 + q))) I2 hl (ev_i (ev_v rfl) ev_n rfl)
  refine ⟨.doo (10 * (1 + q)), 0, b7, _, a + 1, heap ++ [some (10 * (1 + q))], ?_, I3, ⟨fun q => absurd rfl q, fun t q => by (replace q := Stm.doo.inj q; subst q); exact ht⟩, by (exact om44), Int.le_refl _, by simp⟩
  refine (exs_next s1).trans ?_
  refine (exs_next s2).trans ?_
  exact exs_one s3
theorem row_other (hC : ∀ args σ, C 5 args σ = runFn C' F_lawDraw args σ) (I : RI P Q R H xs a rows heap σ) (ha : a + 1 < 500) : RowRes P Q R H xs a rows heap k r (exs (ex C 34) (elssOf (elsOf (elsOf (elsOf (elsOf rowsIf))))) (LR P R H k (some (.int r)) (some (.int 0)) b6 b7) σ) := by
  refine cpf fun rq => ?_
  refine el26 (take_draw hC (I.ext (τ := [.list [.int 0, .int 0, .int 10, .int 20, .int 30, .int 40]])) (m := 6) (by (exact om56)) (by (exact om57)) (by (exact om49 ha))) fun q σ2 q0 q1 hd2 I2 z113_6 _ => ?_
  obtain ⟨o2, ho2⟩ := z113_6
  have hx : ∃ lab, [V.int 0, .int 0, .int 10, .int 20, .int 30, .int 40][q.toNat]? = some (.int lab) := by
    have : q = 0 \/ q = 1 \/ q = 2 \/ q = 3 \/ q = 4 \/ q = 5 := by (exact om58 q0 q1)
    rcases this with rfl | rfl | rfl | rfl | rfl | rfl <;> exact ⟨_, rfl⟩
  refine el11 (hx) fun lab hx => ?_
  have hn : getL σ2 σ.length = some [.int 0, .int 0, .int 10, .int 20, .int 30, .int 40] := by
    refine getL_of ?_
    rw [ho2, get_set_ne (Nat.ne_of_lt (lt_of_get I.pool.p))]
    exact get_new
  have s1 : ex C 34 (.assign 6 (.tup [.str 5])) (LR P R H k (some (.int r)) (some (.int 0)) b6 b7) σ = some (.next (LR P R H k (some (.int r)) (some (.int 0)) (some (stmV .cont)) b7) σ) := ex_asg rfl ev_t1
  have hl : ev C 32 (.lst [.int 0, .int 0, .int 10, .int 20, .int 30, .int 40]) (LR P R H k (some (.int r)) (some (.int 0)) (some (stmV .cont)) b7) none σ = some (.lst σ.length, σ ++ [.list [.int 0, .int 0, .int 10, .int 20, .int 30, .int 40]]) := by (refine Eq.trans (ev_lst ..) ?_); rfl
  have s2 : ex C 34 (.assign 5 (.idx (.lst [.int 0, .int 0, .int 10, .int 20, .int 30, .int 40]) (.call 5 [.var 0, .int 6]))) (LR P R H k (some (.int r)) (some (.int 0)) (some (stmV .cont)) b7) σ = some (.next (LR P R H k (some (.int r)) (some (.int lab)) (some (stmV .cont)) b7) σ2) := by
    refine ex_asg rfl (ev_i hl (ev_call1 rfl hd2) ?_)
    simp only [Eqn.idxV_1, hn, Option.bind, atL, if_pos (show 0 <= q /\ q < 1000000 by (exact om59 q0 q1)), hx]
  refine rq ?_
  exact ⟨.cont, lab, b7, σ2, a + 1, heap, (exs_next s1).trans (exs_one s2), I2, ⟨fun _ => rfl, fun t q => by (exact Stm.noConfusion q)⟩, by (exact om44), Int.le_refl _, by (exact om45)⟩
theorem RowRes.of_eq {o o' : Option Out} (h : RowRes P Q R H xs a rows heap k r o') (e : o = o') : RowRes P Q R H xs a rows heap k r o := e ▸ h
theorem row_branch (hC : ∀ args σ, C 5 args σ = runFn C' F_lawDraw args σ) (I : RI P Q R H xs a rows heap σ) (ha : a + 1 < 500) (hh : heap.length < 100) (r0 : 0 <= r) (r1 : r < 9) : RowRes P Q R H xs a rows heap k r (ex C 39 rowsIf (LR P R H k (some (.int r)) (some (.int 0)) b6 b7) σ) := by
  have f1 : r ≠ 1 -> ex C 39 rowsIf (LR P R H k (some (.int r)) (some (.int 0)) b6 b7) σ = exs (ex C 38) [elsOf rowsIf] (LR P R H k (some (.int r)) (some (.int 0)) b6 b7) σ := fun h => ex_if0 ((row_tst (n := 35)).trans (by rw [decide_eq_false h]))
  have f2 : r ≠ 2 -> ex C 38 (elsOf rowsIf) (LR P R H k (some (.int r)) (some (.int 0)) b6 b7) σ = exs (ex C 37) [elsOf (elsOf rowsIf)] (LR P R H k (some (.int r)) (some (.int 0)) b6 b7) σ := fun h => ex_if0 ((row_tst (n := 34)).trans (by rw [decide_eq_false h]))
  have f3 : r ≠ 3 -> ex C 37 (elsOf (elsOf rowsIf)) (LR P R H k (some (.int r)) (some (.int 0)) b6 b7) σ = exs (ex C 36) [elsOf (elsOf (elsOf rowsIf))] (LR P R H k (some (.int r)) (some (.int 0)) b6 b7) σ := fun h => ex_if0 ((row_tst (n := 33)).trans (by rw [decide_eq_false h]))
  have one : ∀ {n s} {o : Option Out}, RowRes P Q R H xs a rows heap k r o -> ex C n s (LR P R H k (some (.int r)) (some (.int 0)) b6 b7) σ = o -> RowRes P Q R H xs a rows heap k r (exs (ex C n) [s] (LR P R H k (some (.int r)) (some (.int 0)) b6 b7) σ) := fun h e => by
    refine el62 (h.ex) fun stm lab b7 σ' a' heap' h1 h2 => ?_
    exact ⟨stm, lab, b7, σ', a', heap', exs_one (e.trans h1), h2⟩
  by_cases c1 : r = 1
  · subst c1
    exact (row_if I hh).of_eq (ex_if1 (row_tst (n := 35)))
  refine RowRes.of_eq ?_ (f1 c1)
  by_cases c2 : r = 2
  · subst c2
    have h : RowRes P Q R H xs a rows heap k 2 (exs (ex C 37) [.assign 6 (.tup [.str 1, .none])] (LR P R H k (some (.int 2)) (some (.int 0)) b6 b7) σ) := row_word (n := 34) .elif _ (fun _ => Stm.noConfusion) rfl (by (refine Eq.trans (ev_tup ..) ?_); rfl) I
    exact one h (ex_if1 (row_tst (n := 34)))
  refine one ?_ (f2 c2)
  by_cases c3 : r = 3
  · subst c3
    have h : RowRes P Q R H xs a rows heap k 3 (exs (ex C 36) [.assign 6 (.tup [.str 2])] (LR P R H k (some (.int 3)) (some (.int 0)) b6 b7) σ) := row_word (n := 33) .els _ (fun _ => Stm.noConfusion) rfl ev_t1 I
    exact one h (ex_if1 (row_tst (n := 33)))
  refine one ?_ (f3 c3)
  have hin : tst C 34 (.cmp .isin (.var 4) (.tup [.int 4, .int 8])) (LR P R H k (some (.int r)) (some (.int 0)) b6 b7) none σ = some (decide (r = 4) || decide (r = 8), σ) := by
    refine tst_c (ev_v rfl) (vb := .tup [.int 4, .int 8]) (by (refine Eq.trans (ev_tup ..) ?_); rfl) ?_
    simp only [cmpV, Eqn.inV_1, inTup, Eqn.eqS_1, Bool.or_false, eq_comm]
  have hv2 : tst C 34 (.var 2) (LR P R H k (some (.int r)) (some (.int 0)) b6 b7) none σ = some (!heap.isEmpty, σ) := by
    rw [tst_var, ev_v (v := .lst H) rfl]
    simp only [Eqn.truth_3, getL_of I.h, Option.map]
    induction heap using List.casesOn <;> rfl
  have h4 : tst C 35 (.and [.cmp .isin (.var 4) (.tup [.int 4, .int 8]), .var 2]) (LR P R H k (some (.int r)) (some (.int 0)) b6 b7) none σ = some ((decide (r = 4) || decide (r = 8)) && !heap.isEmpty, σ) := tst_and2 hin (fun _ => hv2)
  cases c4 : (decide (r = 4) || decide (r = 8)) && !heap.isEmpty with
  | true =>
    rw [c4] at h4
    rcases List.eq_nil_or_concat heap with he | ⟨hp, o, he⟩
    · subst he; simp at c4
    · (replace he := Eq.trans (he) (List.concat_eq_append ..))
      subst he
      exact one (row_pop I) (ex_if1 h4)
  | false =>
    rw [c4] at h4
    refine one ?_ (ex_if0 h4)
    by_cases c5 : r = 5
    · subst c5
      exact one (row_do hC I ha hh) (ex_if1 (row_tst (n := 31)))
    · exact one (row_other hC I ha) (ex_if0 ((row_tst (n := 31)).trans (by rw [decide_eq_false c5])))
theorem rows_step (hC : ∀ args σ, C 5 args σ = runFn C' F_lawDraw args σ) (I : RI P Q R H xs a rows heap σ) (ha : a + 2 < 500) (hl : rows.length < 100) (hh : heap.length < 100) {b4 b5 : Option V} :
    ∃ ls' σ' a' rows' heap', exs (ex C 39) rowsBody (LR P R H k b4 b5 b6 b7) σ = some (.next ls' σ') /\
      (∃ c4 c5 c6 c7, ls' = LR P R H k c4 c5 c6 c7) /\ RI P Q R H xs a' rows' heap' σ' /\ a' <= a + 2 /\ a <= a' /\ rows'.length = rows.length + 1 /\ heap'.length <= heap.length + 1 := by
  refine cpf fun rq => ?_
  refine el26 (take_draw hC I (m := 9) (by (exact om60)) (by (exact om61)) (by (exact om62 ha))) fun r σ1 r0 r1 hd I1 _ _ => ?_
  have s1 : ex C 39 (.assign 4 (.call 5 [.var 0, .int 9])) (LR P R H k b4 b5 b6 b7) σ = some (.next (LR P R H k (some (.int r)) b5 b6 b7) σ1) :=
    ex_asgC (vs := [.lst P, .int 9]) (σ' := σ) (by simp only [Eqn.evs_1, Eqn.evs_2, ev_v (C := C) (n := 37) (ls := LR P R H k b4 b5 b6 b7) (cv := none) (σ := σ) (i := 0) (v := .lst P) rfl, ev_int]) hd
  have s2 : ex C 39 (.assign 5 (.int 0)) (LR P R H k (some (.int r)) b5 b6 b7) σ1 = some (.next (LR P R H k (some (.int r)) (some (.int 0)) b6 b7) σ1) := ex_asg rfl ev_n
  refine el66 ((row_branch (C := C) (k := k) (b6 := b6) (b7 := b7) hC I1 (by (exact om63 ha)) hh r0 r1).ex) fun stm lab b7' σ2 a' heap' s3 I2 hg h1 h2 h3 => ?_
  have s4 : ex C 39 (.expr (.app (.var 1) (.tup [.var 5, .var 6, .var 3]))) (LR P R H k (some (.int r)) (some (.int lab)) (some (stmV stm)) b7') σ2 = some (.next (LR P R H k (some (.int r)) (some (.int lab)) (some (stmV stm)) b7') (σ2.set R (.list (rows.map rowV ++ [rowV ⟨lab, stm, k⟩])))) :=
    ex_xp rfl (ev_ap (ev_v rfl) I2.r (by (refine Eq.trans (ev_tup ..) ?_); rfl) I2.r (by rw [List.length_map]; (exact om43 hl)))
  refine rq ?_
  refine ⟨LR P R H k (some (.int r)) (some (.int lab)) (some (stmV stm)) b7', _, a', rows ++ [⟨lab, stm, k⟩], heap', ?_, ⟨_, _, _, _, rfl⟩, I2.app hg, by (exact om64 h2), by (exact om65 h1), by simp, h3⟩
  refine (exs_next s1).trans ?_
  refine (exs_next s2).trans ?_
  refine (exs_next s3).trans ?_
  exact exs_one s4
end
end
end Mine.PL
end
section
set_option tactic.hygienic false
open PySem Mine.Eqn
namespace Mine.PL
noncomputable section
theorem chk_rng {lo hi : Int} {σ : Sto} {items : List V} (h : itemsOf (.rng lo hi) σ = some items) (τ : Sto) : chkItems (.rng lo hi) items τ = true := chk_iff.mpr h
theorem chk_lst {n : Nat} {τ : Sto} {items : List V} (h : getL τ n = some items) : chkItems (.lst n) items τ = true := chk_iff.mpr h
theorem compGo_map {chk : Sto -> Bool} {conds : V -> Sto -> Option (Bool × Sto)} {elt : V -> Sto -> Option (V × Sto)} {σ : Sto} (g : V -> V) (p : V -> Bool) (hc : chk σ = true) :
    ∀ {items acc : List V}, (∀ x ∈ items, conds x σ = some (p x, σ)) -> (∀ x ∈ items, p x = true -> elt x σ = some (g x, σ)) -> acc.length + items.length <= LIM ->
      compGo chk conds elt items acc σ = some (acc ++ (items.filter p).map g, σ)
  | [], acc, _, _, _ => by simp [Eqn.compGo_1, hc]
  | x :: r, acc, h1, h2, hl => by
    have e1 := h1 x (.head _)
    simp only [List.length_cons] at hl
    by_cases hp : p x = true
    · have e2 := h2 x (.head _) hp
      have ih := compGo_map g p hc (items := r) (acc := acc ++ [g x]) (fun y hy => h1 y (.tail _ hy)) (fun y hy => h2 y (.tail _ hy)) (by simp; (exact om66 hl))
      simp only [Eqn.compGo_2, hc, if_true, e1, hp, e2]
      (refine Eq.trans (if_pos (by (exact om67 hl)) ..) (Eq.trans (ih ..) ?_))
      simp [hp]
    · have hp' : p x = false := by simpa using hp
      have ih := compGo_map g p hc (items := r) (acc := acc) (fun y hy => h1 y (.tail _ hy)) (fun y hy => h2 y (.tail _ hy)) (by (exact Nat.le_of_lt (by assumption)))
      simp only [Eqn.compGo_2, hc, if_true, e1, hp']
      (refine Eq.trans (ih ..) ?_)
      simp [hp']
theorem rng_get {n : Int} {j : Nat} {x : V} (h : ((List.range n.toNat).map fun (i : Nat) => V.int (0 + (i : Int)))[j]? = some x) : x = .int j := by
  (replace h := Eq.trans (Eq.symm (List.getElem?_map ..)) (h))
  cases e : (List.range n.toNat)[j]? with
  | none => rw [e] at h; cases h
  | some i =>
    rw [e] at h
    have := (List.getElem?_eq_some_iff.mp e).2
    simp at this
    subst this
    cases h
    simp
section
variable {C C' : Calls} {P Q R H : Nat} {xs : List Int} {a : Int} {rows : List Row} {heap : List (Option Int)} {σ : Sto}
noncomputable def RInv (P Q R H : Nat) (xs : List Int) (j : Nat) (ls : Ls) (σ : Sto) : Prop :=
  ∃ b3 b4 b5 b6 b7 a rows heap, ls = [some (.lst P), some (.lst R), some (.lst H), b3, b4, b5, b6, b7, none, none, none, none, none] /\ RI P Q R H xs a rows heap σ /\ rows.length = j /\ heap.length <= j /\ a <= 1 + 2 * (j : Int) /\ 0 <= a
theorem rows_loop (hC : ∀ args σ, C 5 args σ = runFn C' F_lawDraw args σ) {n : Int} (hn0 : 0 <= n) (hn : n <= 17) {ls : Ls} (h0 : RInv P Q R H xs 0 ls σ) :
    ∃ ls' σ', forGo (chkItems (.rng 0 n) ((List.range n.toNat).map fun (i : Nat) => V.int (0 + (i : Int)))) (fun x ls σ => exs (ex C 39) rowsBody (ls.set 3 (some x)) σ) ((List.range n.toNat).map fun (i : Nat) => V.int (0 + (i : Int))) ls σ = some (.next ls' σ') /\ RInv P Q R H xs n.toNat ls' σ' := by
  have hit : itemsOf (.rng 0 n) ([] : Sto) = some ((List.range n.toNat).map fun (i : Nat) => V.int (0 + (i : Int))) := by
    simp [Eqn.itemsOf_2]
  obtain ⟨ls', σ', h1, h2⟩ := forGo_inv (chk := chkItems (.rng 0 n) ((List.range n.toNat).map fun (i : Nat) => V.int (0 + (i : Int)))) (step := fun x ls σ => exs (ex C 39) rowsBody (ls.set 3 (some x)) σ)
    (items := (List.range n.toNat).map fun (i : Nat) => V.int (0 + (i : Int))) (RInv P Q R H xs) (fun j x ls σ hx hI => by
      refine ⟨chk_rng hit σ, ?_⟩
      have hj : j < n.toNat := by
        have := (List.getElem?_eq_some_iff.mp hx).1
        simpa using this
      refine cpf fun rq => ?_
      obtain rfl := rng_get hx
      refine el86 (hI) fun b3 b4 b5 b6 b7 a rows heap q57_8 I hr hh ha ha0 => ?_
      subst q57_8
      refine el57 (rows_step hC I (by (exact om68 hj ha hn)) (by (exact om69 hj hr hn)) (by (exact om70 hj hn hh)) (k := (j : Int)) (b4 := b4) (b5 := b5) (b6 := b6) (b7 := b7)) fun ls' σ' a' rows' heap' e z58_6 I' g1 g2 g3 g4 => ?_
      obtain ⟨c4, c5, c6, c7, rfl⟩ := z58_6
      refine rq ?_
      exact ⟨_, σ', .inl e, _, c4, c5, c6, c7, a', rows', heap', rfl, I', by (exact om71 g3 hr), by (exact om72 g4 hh), by push_cast; (exact om73 ha g1), by (exact om74 ha0 g2)⟩)
    (fun ls σ _ => chk_rng hit σ) h0
  exact ⟨ls', σ', h1, by simpa using h2⟩
end
end
end Mine.PL
end
section
set_option tactic.hygienic false
open PySem Mine.Eqn
namespace Mine.PL
noncomputable section
theorem forr_rng {C : Calls} {n : Nat} {ls : Ls} {σ σ1 : Sto} {i : Nat} {it : CE} {body : List CS} {lo hi : Int} (h : ev C n it ls none σ = some (.rng lo hi, σ1)) :
    ex C (n + 1) (.forr i it body) ls σ = forGo (chkItems (.rng lo hi) ((List.range (hi - lo).toNat).map fun (i : Nat) => V.int (lo + (i : Int)))) (fun x ls σ => exs (ex C n) body (ls.set i (some x)) σ) ((List.range (hi - lo).toNat).map fun (i : Nat) => V.int (lo + (i : Int))) ls σ1 := by
  rw [ex_forr, h]; rfl
noncomputable def closeV : Option Int -> V
  | none => .str 3
  | some t => .int t
section
variable {C C' : Calls} {P Q R H : Nat} {xs : List Int} {a : Int} {rows : List Row} {heap : List (Option Int)} {σ : Sto}
noncomputable def closeBody : List CS := match B_lawRows with
  | [_, _, _, .ite _ [_, .forr _ _ b] _, _] => b
  | _ => []
theorem close_t3 {C : Calls} {ls : Ls} {σ : Sto} {j E : Nat} {vs : List V} (h3 : ls[3]? = some (some (.int j))) (h8 : ls[8]? = some (some (.lst E))) (hE : getL σ E = some vs) (s1 : small (j : Int) = true) (s2 : small 1 = true) (hl : (j : Int) + 1 = vs.length) :
   tst C 36 (.or [.cmp .eq (.bin .add (.var 3) (.int 1)) (.len (.var 8)), .cmp .ne (.idx (.var 8) (.bin .add (.var 3) (.int 1))) (.idx (.var 8) (.var 3))]) ls none σ = some (true, σ) := by
  simp [tst_or, Eqn.anyT_2, tst_cmp, ev_cmp, ev_len, ev_bin, ev_var, ev_int, h3, h8, hE, Eqn.binV_1, arith, s1, s2, cmpV, Eqn.eqV_3, Eqn.eqS_1, Eqn.truth_1, hl]
theorem close_t4 {C : Calls} {ls : Ls} {σ : Sto} {j E : Nat} {vs : List V} {t : Int} (h3 : ls[3]? = some (some (.int j))) (h8 : ls[8]? = some (some (.lst E))) (hE : getL σ E = some vs) (hx : vs[j]? = some (.int t)) (hj : (j : Int) < 1000000) :
   tst C 37 (.cmp .eq (.idx (.var 8) (.var 3)) (.str 3)) ls none σ = some (false, σ) := by
  simp [tst_cmp, ev_cmp, ev_idx, ev_str, ev_var, h3, h8, hE, hx, hj, Eqn.idxV_1, atL, cmpV, Eqn.eqV_3, Eqn.eqS_2, Eqn.truth_1]
theorem close_t5 {C : Calls} {ls : Ls} {σ : Sto} {j E : Nat} {vs : List V} {u : V} {t : Int} {b : Bool} (h3 : ls[3]? = some (some (.int j))) (h8 : ls[8]? = some (some (.lst E))) (hE : getL σ E = some vs) (s1 : small (j : Int) = true) (s2 : small 1 = true) (hl : ¬ (j : Int) + 1 = vs.length) (hx : vs[j]? = some (.int t)) (hy : vs[j + 1]? = some u) (hb : eqS u (.int t) = some b) (hb' : eqV σ u (.int t) = eqS u (.int t)) (hj : (j : Int) + 1 < 1000000) :
   tst C 36 (.or [.cmp .eq (.bin .add (.var 3) (.int 1)) (.len (.var 8)), .cmp .ne (.idx (.var 8) (.bin .add (.var 3) (.int 1))) (.idx (.var 8) (.var 3))]) ls none σ = some (!b, σ) := by
  have hk1 : ((j : Int) + 1).toNat = j + 1 := by (exact om75)
  have hk0 : (0 : Int) <= (j : Int) + 1 := by (exact om76)
  have hj0 : (j : Int) < 1000000 := by (exact om77 hj)
  have e1 : ev C 33 (.idx (.var 8) (.bin .add (.var 3) (.int 1))) ls none σ = some (u, σ) := by
    simp [ev_idx, ev_bin, ev_var, ev_int, h3, h8, hE, Eqn.binV_1, arith, s1, s2, Eqn.idxV_1, atL, hk0, hk1, hj, hy]
  have e2 : ev C 33 (.idx (.var 8) (.var 3)) ls none σ = some (.int t, σ) := by
    simp [ev_idx, ev_var, h3, h8, hE, Eqn.idxV_1, atL, hj0, hx]
  have e3 : tst C 35 (.cmp .eq (.bin .add (.var 3) (.int 1)) (.len (.var 8))) ls none σ = some (false, σ) := by
    simp [tst_cmp, ev_cmp, ev_len, ev_bin, ev_var, ev_int, h3, h8, hE, Eqn.binV_1, arith, s1, s2, cmpV, Eqn.eqV_3, Eqn.eqS_1, Eqn.truth_1, hl]
  have e4 : tst C 35 (.cmp .ne (.idx (.var 8) (.bin .add (.var 3) (.int 1))) (.idx (.var 8) (.var 3))) ls none σ = some (!b, σ) := by
    rw [tst_cmp, ev_cmp, e1]
    simp only [e2, cmpV, hb', hb, Option.map_some, Eqn.truth_1]
  (refine Eq.trans (tst_or ..) ?_)
  simp only [Eqn.anyT_1, Eqn.anyT_2, e3, e4]
  induction b using Bool.casesOn <;> rfl
theorem close_step {E : Nat} {es : List (Option Int)} {j : Nat} {b3 b4 b5 b6 b7 : Option V} (hR : σ[R]? = some (.list (rows.map rowV))) (hE : σ[E]? = some (.list (es.map closeV))) (hne : R ≠ E) (hj : j < es.length) (hl : rows.length < 1000) (he : es.length < 1000) :
    ∃ (rows' : List Row) (σ' : Sto), exs (ex C 38) closeBody [some (.lst P), some (.lst R), some (.lst H), some (.int j), b4, b5, b6, b7, some (.lst E), none, none, none, none] σ = some (.next [some (.lst P), some (.lst R), some (.lst H), some (.int j), b4, b5, b6, b7, some (.lst E), none, none, none, none] σ') /\
      σ'[R]? = some (.list (rows'.map rowV)) /\ σ'[E]? = some (.list (es.map closeV)) /\ rows'.length <= rows.length + 1 /\ ((∀ r ∈ rows, GoodRow r) -> ∀ r ∈ rows', GoodRow r) := by
  have hr := getL_of hR
  have hE' := getL_of hE
  have hl' : rows.length < LIM := by show rows.length < 4096; (exact om78 hl)
  have hx : es[j]? = some es[j] := List.getElem?_eq_getElem hj
  have s1 : small (j : Int) = true := by simp [small]; omega
  have s2 : small 1 = true := by decide
  have hj6 : (j : Int) < 1000000 := by omega
  have hj7 : (j : Int) + 1 < 1000000 := by omega
  have happ : ∀ r : Row, GoodRow r -> ((σ.set R (.list (rows.map rowV ++ [rowV r])))[R]? = some (.list ((rows ++ [r]).map rowV)) /\ (σ.set R (.list (rows.map rowV ++ [rowV r])))[E]? = some (.list (es.map closeV)) /\ (rows ++ [r]).length <= rows.length + 1 /\ ((∀ r ∈ rows, GoodRow r) -> ∀ r' ∈ rows ++ [r], GoodRow r')) := fun r hg =>
    ⟨by (refine Eq.trans (get_set_eq hR ..) ?_); simp, by (refine Eq.trans (get_set_ne hne ..) ?_); exact hE, by simp, fun h r' hr' => by
      rcases List.mem_append.mp hr' with q | q
      · exact h r' q
      · rw [List.mem_singleton.mp q]; exact hg⟩
  cases ho : es[j] with
  | none =>
    refine el04 (happ ⟨0, .endif, 0⟩ ⟨fun q => absurd rfl q, fun t q => by cases q⟩) fun g1 g2 g3 g4 => ?_
    refine ⟨rows ++ [⟨0, .endif, 0⟩], _, ?_, g1, g2, g3, g4⟩
    rw [ho] at hx
    simp only [closeBody, B_lawRows]
    simp [exs_nil, exs_cons, ex_ite, ex_expr, Eqn.evR_5, ev_idx, ev_var, ev_str, ev_int, ev_cmp, ev_app, ev_tup, Eqn.evs_1, Eqn.evs_2, tst_cmp, cmpV, Eqn.eqV_4, Eqn.eqS_3, Eqn.truth_1, Eqn.idxV_1, atL, hE', hr, hx, hj6, closeV, hl', rowV, stmV]
  | some t =>
    rw [ho] at hx
    refine el04 (happ ⟨t, .cont, 0⟩ ⟨fun _ => rfl, fun t q => by cases q⟩) fun g1 g2 g3 g4 => ?_
    have hx' : (es.map closeV)[j]? = some (.int t) := by rw [List.getElem?_map, hx]; rfl
    have t4 := close_t4 (C := C) (ls := [some (.lst P), some (.lst R), some (.lst H), some (.int j), b4, b5, b6, b7, some (.lst E), none, none, none, none]) (σ := σ) (j := j) (E := E) rfl rfl hE' hx' hj6
    have fin : ∀ b, tst C 36 (.or [.cmp .eq (.bin .add (.var 3) (.int 1)) (.len (.var 8)), .cmp .ne (.idx (.var 8) (.bin .add (.var 3) (.int 1))) (.idx (.var 8) (.var 3))]) [some (.lst P), some (.lst R), some (.lst H), some (.int j), b4, b5, b6, b7, some (.lst E), none, none, none, none] none σ = some (b, σ) -> ∀ τ, τ = (if b = true then σ.set R (.list (rows.map rowV ++ [rowV ⟨t, .cont, 0⟩])) else σ) ->
        exs (ex C 38) closeBody [some (.lst P), some (.lst R), some (.lst H), some (.int j), b4, b5, b6, b7, some (.lst E), none, none, none, none] σ = some (.next [some (.lst P), some (.lst R), some (.lst H), some (.int j), b4, b5, b6, b7, some (.lst E), none, none, none, none] τ) := by
      intro b hb τ hτ
      simp only [closeBody, B_lawRows]
      have hap : (σ.set R (.list (rows.map rowV ++ [rowV ⟨t, .cont, 0⟩]))) = σ.set R (.list (rows.map rowV ++ [.tup [.int t, .tup [.str 5], .int 0]])) := rfl
      have e1 : ∀ ls, ls = [some (.lst P), some (.lst R), some (.lst H), some (.int j), b4, b5, b6, b7, some (.lst E), none, none, none, none] -> ex C 36 (.expr (.app (.var 1) (.tup [.idx (.var 8) (.var 3), .tup [.str 5], .int 0]))) ls σ = some (.next ls (σ.set R (.list (rows.map rowV ++ [.tup [.int t, .tup [.str 5], .int 0]])))) := by
        rintro ls rfl
        simp [ex_expr, Eqn.evR_5, ev_app, ev_var, ev_tup, Eqn.evs_1, Eqn.evs_2, ev_idx, ev_str, ev_int, hr, hE', Eqn.idxV_1, atL, hj6, hx', hl']
      refine exs_one ?_
      (refine Eq.trans (ex_if0 t4 ..) ?_)
      refine exs_one ?_
      induction b using Bool.casesOn
      · (replace hτ := Eq.trans (hτ) (if_neg (by decide) ..)); subst hτ
        exact ex_skip hb
      · (replace hτ := Eq.trans (hτ) (if_pos rfl ..)); subst hτ
        (refine Eq.trans (ex_if1 hb ..) ?_)
        exact exs_one (e1 _ rfl)
    by_cases hlast : (j : Int) + 1 = es.length
    · exact ⟨rows ++ [⟨t, .cont, 0⟩], σ.set R (.list (rows.map rowV ++ [rowV ⟨t, .cont, 0⟩])), fin true (close_t3 rfl rfl hE' s1 s2 (by simpa using hlast)) _ (by simp), g1, g2, g3, g4⟩
    · have hx1 : (es.map closeV)[j + 1]? = some (closeV es[j + 1]) := by rw [List.getElem?_map, List.getElem?_eq_getElem (by omega)]; rfl
      have t5 := fun b (hb : eqS (closeV es[j + 1]) (.int t) = some b) => close_t5 (C := C) (ls := [some (.lst P), some (.lst R), some (.lst H), some (.int j), b4, b5, b6, b7, some (.lst E), none, none, none, none]) (σ := σ) rfl rfl hE' s1 s2 (by simpa using hlast) hx' hx1 hb (by cases es[j + 1] <;> rfl) hj7
      cases hb : eqS (closeV es[j + 1]) (.int t) with
      | none => cases hu : es[j + 1] <;> rw [hu] at hb <;> simp [closeV, Eqn.eqS_1, Eqn.eqS_4] at hb
      | some b =>
        induction b using Bool.casesOn with
        | false => exact ⟨rows ++ [⟨t, .cont, 0⟩], σ.set R (.list (rows.map rowV ++ [rowV ⟨t, .cont, 0⟩])), fin true (t5 false hb) _ (by simp), g1, g2, g3, g4⟩
        | true => exact ⟨rows, σ, fin false (t5 true hb) _ (by simp), hR, hE, by (exact om45), fun h => h⟩
end
end
end Mine.PL
end
section
set_option tactic.hygienic false
open PySem Mine.Eqn
namespace Mine.PL
noncomputable section
section
variable {C C' : Calls} {P Q R H : Nat} {xs : List Int} {a : Int} {rows : List Row} {heap : List (Option Int)} {σ : Sto}
noncomputable def closeG : V -> V
  | .str 0 => .str 3
  | v => v
theorem closeG_hV (o : Option Int) : closeG (hV o) = closeV o := by induction o using Option.casesOn <;> rfl
theorem close_comp {ls : Ls} (hH : σ[H]? = some (.list (heap.map hV))) (h2 : ls[2]? = some (some (.lst H))) (hl : heap.length <= 1000) :
    ev C 38 (.comp (.ite (.cmp (.eq) (.cv) (.str 0)) (.str 3) (.cv)) (.var 2) [] true) ls none σ = some (.lst σ.length, σ ++ [.list (heap.reverse.map closeV)]) := by
  have hg := getL_of hH
  have hv : ev C 37 (.var 2) ls none σ = some (.lst H, σ) := by simp [ev_var, h2]
  have hit : itemsOf (.lst H) σ = some (heap.map hV) := hg
  have hc := compGo_map (chk := chkItems (.lst H) (heap.map hV)) (conds := fun x τ => allT (fun e τ => tst C 37 e ls (some x) τ) [] τ) (elt := fun x τ => ev C 37 (.ite (.cmp (.eq) (.cv) (.str 0)) (.str 3) (.cv)) ls (some x) τ)
    (σ := σ) closeG (fun _ => true) (chk_lst hg) (items := (heap.map hV).reverse) (acc := []) (fun x _ => rfl) (fun x hx _ => by
      rw [List.mem_reverse] at hx
      refine el12 (List.mem_map.mp hx) fun o _ q22_2 => ?_
      subst q22_2
      induction o using Option.casesOn <;> simp [ev_ite, tst_cmp, ev_cmp, ev_cv, ev_str, hV, closeG, cmpV, Eqn.eqV_3, Eqn.eqV_4, Eqn.eqS_2, Eqn.eqS_3, Eqn.truth_1]) (by simp; show heap.length <= 4096; (exact om83 hl))
  rw [ev_comp, hv]
  simp only [hit, isLst, Bool.not_true, Bool.and_false, Bool.false_eq_true, if_false, if_true, hc]
  rw [List.nil_append, List.filter_eq_self.mpr (fun _ _ => rfl), <- List.map_reverse, List.map_map]
  rw [show (closeG ∘ hV) = closeV from funext closeG_hV]
noncomputable def CInv (P R H E : Nat) (m : Nat) (es : List (Option Int)) (j : Nat) (ls : Ls) (σ : Sto) : Prop :=
  ∃ b3 b4 b5 b6 b7, ∃ rows : List Row, ls = [some (.lst P), some (.lst R), some (.lst H), b3, b4, b5, b6, b7, some (.lst E), none, none, none, none] /\ σ[R]? = some (.list (rows.map rowV)) /\ σ[E]? = some (.list (es.map closeV)) /\ rows.length <= m + j /\ (∀ r ∈ rows, GoodRow r)
theorem close_loop {E m : Nat} {es : List (Option Int)} (hne : R ≠ E) (hm : m <= 100) (he : es.length <= 100) {ls : Ls} (h0 : CInv P R H E m es 0 ls σ) :
    ∃ ls' σ', forGo (chkItems (.rng 0 es.length) ((List.range (es.length : Int).toNat).map fun (i : Nat) => V.int (0 + (i : Int)))) (fun x ls σ => exs (ex C 38) closeBody (ls.set 3 (some x)) σ) ((List.range (es.length : Int).toNat).map fun (i : Nat) => V.int (0 + (i : Int))) ls σ = some (.next ls' σ') /\ CInv P R H E m es es.length ls' σ' := by
  have hit : itemsOf (.rng 0 es.length) ([] : Sto) = some ((List.range (es.length : Int).toNat).map fun (i : Nat) => V.int (0 + (i : Int))) := by
    simp [Eqn.itemsOf_2]
  obtain ⟨ls', σ', h1, h2⟩ := forGo_inv (chk := chkItems (.rng 0 es.length) ((List.range (es.length : Int).toNat).map fun (i : Nat) => V.int (0 + (i : Int)))) (step := fun x ls σ => exs (ex C 38) closeBody (ls.set 3 (some x)) σ)
    (items := (List.range (es.length : Int).toNat).map fun (i : Nat) => V.int (0 + (i : Int))) (CInv P R H E m es) (fun j x ls σ hx hI => by
      refine ⟨chk_rng hit σ, ?_⟩
      have hj : j < es.length := by
        have := (List.getElem?_eq_some_iff.mp hx).1
        simpa using this
      obtain rfl := rng_get hx
      refine el65 (hI) fun b3 b4 b5 b6 b7 rows q43_6 hR hE hr hg => ?_
      subst q43_6
      refine el25 (close_step (C := C) (P := P) (H := H) (b3 := b3) (b4 := b4) (b5 := b5) (b6 := b6) (b7 := b7) hR hE hne hj (by (exact om84 hj hm he hr)) (by (exact om85 he))) fun rows' σ' e hR' hE' hl hg' => ?_
      exact ⟨_, σ', .inl e, _, b4, b5, b6, b7, rows', rfl, hR', hE', by (exact om86 hl hr), hg' hg⟩)
    (fun ls σ _ => chk_rng hit σ) h0
  exact ⟨ls', σ', h1, by simpa using h2⟩
theorem evs_draw {n : Nat} {ls : Ls} {σ σ1 : Sto} {m r : Int} (h0 : ls[0]? = some (some (.lst P))) : evs (fun e σ => ev C (n + 1) e ls none σ) [.var 0, .int m] σ = some ([.lst P, .int m], σ) := by
  simp [Eqn.evs_1, Eqn.evs_2, ev_var, ev_int, h0]
theorem ev_drawn {n : Nat} {ls : Ls} {σ σ1 : Sto} {m r : Int} (h0 : ls[0]? = some (some (.lst P))) (hd : C 5 [.lst P, .int m] σ = some (.ok (.int r) σ1)) :
    ev C (n + 2) (.call 5 [.var 0, .int m]) ls none σ = some (.int r, σ1) := by
  rw [ev_call, evs_draw h0 (σ1 := σ1) (r := r)]
  simp only [hd]
noncomputable abbrev L13 (a b c d e f g h i : Option V) : Ls := [a, b, c, d, e, f, g, h, i, none, none, none, none]
theorem lawRows_spec (hC : ∀ args σ, C 5 args σ = runFn C' F_lawDraw args σ) (hp : Pool P Q xs 0 σ) :
    ∃ (R : Nat) (rows : List Row) (σ' : Sto), runFn C F_lawRows [.lst P] σ = some (.ok (.lst R) σ') /\ σ'[R]? = some (.list (rows.map rowV)) /\ (∀ r ∈ rows, GoodRow r) /\ rows.length <= 40 := by
  have hPl := lt_of_get hp.p
  have hQl := lt_of_get hp.q
  have I0 : RI P Q σ.length (σ.length + 1) xs 0 [] [] ((σ ++ [.list []]) ++ [.list []]) :=
    ⟨⟨get_app (get_app hp.p), get_app (get_app hp.q), hp.ne, hp.lo, hp.hi, hp.len⟩, get_app get_new, by have := get_new (σ := σ ++ [AO.list []]) (o := .list []); simpa using this, by (exact om87 hPl), by (exact om87 hQl), by (exact om88 hPl), by (exact om88 hQl), by (exact om89), fun _ h => (nomatch h), fun _ h => (nomatch h)⟩
  have e1 : ex C 40 (.assign 1 (.lst [])) [some (.lst P), none, none, none, none, none, none, none, none, none, none, none, none] σ = some (.next (L13 (some (.lst P)) (some (.lst σ.length)) none none none none none none none) (σ ++ [.list []])) :=
    ex_asg rfl (by (refine Eq.trans (ev_lst ..) ?_); rfl)
  have e2 : ex C 40 (.assign 2 (.lst [])) (L13 (some (.lst P)) (some (.lst σ.length)) none none none none none none none) (σ ++ [.list []]) = some (.next (L13 (some (.lst P)) (some (.lst σ.length)) (some (.lst (σ.length + 1))) none none none none none none) (σ ++ [.list []] ++ [.list []])) :=
    ex_asg rfl (by (refine Eq.trans (ev_lst ..) ?_); simp [Eqn.evs_1])
  generalize (σ ++ [AO.list []] ++ [AO.list []]) = σ0 at *
  refine el26 (take_draw hC I0 (m := 17) (by (exact om90)) (by (exact om91)) (by (exact om92))) fun n σ1 n0 n1 hd I1 _ _ => ?_
  generalize hRR : σ.length = R at *
  have h0 : RInv P Q R (R + 1) xs 0 (L13 (some (.lst P)) (some (.lst R)) (some (.lst (R + 1))) none none none none none none) σ1 :=
    ⟨_, _, _, _, _, _, _, _, rfl, I1, rfl, by simp, by (exact om93), by (exact om94)⟩
  refine cpf fun rq => ?_
  refine el22 (rows_loop (C := C) (C' := C') hC n0 (by (exact om95 n1)) h0) fun ls2 σ2 hloop hI2 => ?_
  have hn : tiny n = true := by simp [tiny]; (exact om96 n0 n1)
  have e3 : ex C 40 (.forr 3 (.range1 (.call 5 [.var 0, .int 17])) rowsBody) (L13 (some (.lst P)) (some (.lst R)) (some (.lst (R + 1))) none none none none none none) σ0 = some (.next ls2 σ2) := by
    have hr : ev C 39 (.range1 (.call 5 [.var 0, .int 17])) (L13 (some (.lst P)) (some (.lst R)) (some (.lst (R + 1))) none none none none none none) none σ0 = some (.rng 0 n, σ1) := by
      rw [ev_range1, ev_drawn rfl hd]
      simp only [hn, if_true]
    rw [forr_rng hr, Int.sub_zero]
    exact hloop
  refine el86 (hI2) fun b3 b4 b5 b6 b7 a rows heap q80_8 I3 hr hh ha ha0 => ?_
  subst q80_8
  refine el26 (take_draw hC I3 (m := 4) (by (exact om47)) (by (exact om48)) (by (exact om97 n1 ha))) fun q σ3 q0 q1 hd3 I4 _ _ => ?_
  have hlen : rows.length <= 16 := by (exact om98 n1 hr)
  have hR3 := I4.r
  have t4 : tst C 39 (.cmp (.ne) (.call 5 [.var 0, .int 4]) (.int 3)) (L13 (some (.lst P)) (some (.lst R)) (some (.lst (R + 1))) b3 b4 b5 b6 b7 none) none σ2 = some (!decide (q = 3), σ3) := by
    rw [tst_cmp, ev_cmp, ev_drawn rfl hd3]
    simp only [ev_int, cmpV, Eqn.eqV_3, Eqn.eqS_1, Eqn.truth_1, Option.map]
  have main : ∃ (ls4 : Ls) (σ4 : Sto) (rows' : List Row), ex C 40 (.ite (.cmp (.ne) (.call 5 [.var 0, .int 4]) (.int 3)) [.assign 8 (.comp (.ite (.cmp (.eq) (.cv) (.str 0)) (.str 3) (.cv)) (.var 2) [] true), .forr 3 (.range1 (.len (.var 8))) closeBody] []) (L13 (some (.lst P)) (some (.lst R)) (some (.lst (R + 1))) b3 b4 b5 b6 b7 none) σ2 = some (.next ls4 σ4) /\ ls4[1]? = some (some (.lst R)) /\ σ4[R]? = some (.list (rows'.map rowV)) /\ rows'.length <= 40 /\ ∀ r ∈ rows', GoodRow r := by
    by_cases hq : q = 3
    · refine ⟨_, σ3, rows, ex_skip (by (refine Eq.trans (t4 ..) ?_); simp [hq]), rfl, hR3, by (exact om99 hlen), I4.good⟩
    · have e5 : ex C 39 (.assign 8 (.comp (.ite (.cmp (.eq) (.cv) (.str 0)) (.str 3) (.cv)) (.var 2) [] true)) (L13 (some (.lst P)) (some (.lst R)) (some (.lst (R + 1))) b3 b4 b5 b6 b7 none) σ3 = some (.next (L13 (some (.lst P)) (some (.lst R)) (some (.lst (R + 1))) b3 b4 b5 b6 b7 (some (.lst σ3.length))) (σ3 ++ [.list (heap.reverse.map closeV)])) :=
        ex_asg rfl (close_comp I4.h rfl (by (exact om100 hr hlen hh)))
      have hlt := lt_of_get hR3
      have hR4 : (σ3 ++ [AO.list (heap.reverse.map closeV)])[R]? = some (.list (rows.map rowV)) := get_app hR3
      have hE4 : (σ3 ++ [AO.list (heap.reverse.map closeV)])[σ3.length]? = some (.list (heap.reverse.map closeV)) := get_new
      generalize (σ3 ++ [AO.list (heap.reverse.map closeV)]) = σ4 at *
      generalize σ3.length = E at *
      have c0 : CInv P R (R + 1) E 16 heap.reverse 0 (L13 (some (.lst P)) (some (.lst R)) (some (.lst (R + 1))) b3 b4 b5 b6 b7 (some (.lst E))) σ4 :=
        ⟨_, _, _, _, _, rows, rfl, hR4, hE4, by (exact om101 hlen), I4.good⟩
      have hel : heap.reverse.length <= 16 := by rw [List.length_reverse]; (exact om102 hr hlen hh)
      refine el22 (close_loop (C := C) (R := R) (by (exact om103 hlt)) (by (exact om104)) (by (exact om105 hel)) c0) fun ls5 σ5 hloop5 hI5 => ?_
      have hr5 : ev C 38 (.range1 (.len (.var 8))) (L13 (some (.lst P)) (some (.lst R)) (some (.lst (R + 1))) b3 b4 b5 b6 b7 (some (.lst E))) none σ4 = some (.rng 0 heap.reverse.length, σ4) := by
        have ht : tiny (heap.reverse.length : Int) = true := by simp only [tiny, decide_eq_true_eq]; (exact om106 hel)
        have hv : ev C 37 (.len (.var 8)) (L13 (some (.lst P)) (some (.lst R)) (some (.lst (R + 1))) b3 b4 b5 b6 b7 (some (.lst E))) none σ4 = some (.int heap.reverse.length, σ4) := by
          rw [ev_len, ev_var]
          simp [getL_of hE4]
        rw [ev_range1, hv]
        simp only [ht, if_true]
      have e6 : ex C 39 (.forr 3 (.range1 (.len (.var 8))) closeBody) (L13 (some (.lst P)) (some (.lst R)) (some (.lst (R + 1))) b3 b4 b5 b6 b7 (some (.lst E))) σ4 = some (.next ls5 σ5) := by
        rw [forr_rng hr5, Int.sub_zero]
        exact hloop5
      refine el65 (hI5) fun c3 c4 c5 c6 c7 rows' q111_6 hR5 _ hl5 hg5 => ?_
      subst q111_6
      refine ⟨L13 (some (.lst P)) (some (.lst R)) (some (.lst (R + 1))) c3 c4 c5 c6 c7 (some (.lst E)), σ5, rows', ?_, rfl, hR5, by (exact om107 hl5 hel), hg5⟩
      have t4' : tst C 39 (.cmp (.ne) (.call 5 [.var 0, .int 4]) (.int 3)) (L13 (some (.lst P)) (some (.lst R)) (some (.lst (R + 1))) b3 b4 b5 b6 b7 none) none σ2 = some (true, σ3) := by (refine Eq.trans (t4 ..) ?_); simp [hq]
      (refine Eq.trans (ex_if1 t4' ..) (Eq.trans (exs_next e5 ..) ?_))
      exact exs_one e6
  refine el35 (main) fun ls4 σ4 rows' e4 h41 hR4 hl4 hg4 => ?_
  refine rq ?_
  refine ⟨R, rows', σ4, runFn_ret rfl ?_, hR4, hg4, hl4⟩
  refine (exs_next e1).trans ?_
  (refine Eq.trans (exs_next e2 ..) ?_)
  refine (exs_next e3).trans ?_
  refine (exs_next e4).trans ?_
  exact exs_one (ex_rt (by rw [ev_var, h41]))
end
end
end Mine.PL
end
section
set_option tactic.hygienic false
open PySem Mine.Eqn
namespace Mine.PL
noncomputable section
noncomputable def stmAt (rows : List Row) (i : Nat) : Option Stm := (rows[i]?).map (·.stm)
noncomputable def labAt (rows : List Row) (i : Nat) : Int := match rows[i]? with | some r => r.lab | none => 0
noncomputable def Stm.isEls : Stm -> Bool | .els => true | _ => false
noncomputable def Stm.isArm : Stm -> Bool | .ifs => true | .elif => true | .els => true | _ => false
noncomputable def elsAt (rows : List Row) (i : Nat) : Bool := match rows[i]? with | some r => r.stm.isEls | none => false
noncomputable def armAt (rows : List Row) (i : Nat) : Bool := match rows[i]? with | some r => r.stm.isArm | none => false
noncomputable def doAt (rows : List Row) (i : Nat) : Option Int := match rows[i]? with | some ⟨_, .doo t, _⟩ => some t | _ => none
noncomputable def aheadGo : List Row -> Nat -> Nat -> List Nat -> Option (List Nat)
  | [], _, _, _ => none
  | r :: rest, i, d, f => match r.stm with
    | .ifs => aheadGo rest (i + 1) (d + 1) f
    | .endif => (match d with
      | 0 => some (f ++ [i])
      | d + 1 => aheadGo rest (i + 1) d f)
    | .elif => if d = 0 then aheadGo rest (i + 1) d (f ++ [i]) else aheadGo rest (i + 1) d f
    | .els => if d = 0 then aheadGo rest (i + 1) d (f ++ [i]) else aheadGo rest (i + 1) d f
    | _ => aheadGo rest (i + 1) d f
noncomputable def ahead (rows : List Row) (a : Nat) : Option (List Nat) := aheadGo (rows.drop (a + 1)) (a + 1) 0 []
noncomputable def armsStep (rows : List Row) (i : Nat) (s : Stm) (h : List Nat) (f : List (List Nat)) : Option (List Nat × List (List Nat)) := match s with
  | .ifs => some (i :: h, f ++ [h])
  | .elif => (match h with
    | [] => none
    | t :: h' => if elsAt rows t then none else some (i :: h', f ++ [h']))
  | .els => (match h with
    | [] => none
    | t :: h' => if elsAt rows t then none else some (i :: h', f ++ [h']))
  | .endif => (match h with
    | [] => none
    | _ :: h' => some (h', f ++ [h']))
  | _ => some (h, f ++ [h])
noncomputable def armsAt (rows : List Row) : Nat -> Option (List Nat × List (List Nat))
  | 0 => some ([], [])
  | i + 1 => match armsAt rows i, rows[i]? with
    | some (h, f), some r => armsStep rows i r.stm h f
    | _, _ => none
noncomputable abbrev Lp := Int × Nat × Option Nat
structure FS where
  labels : Int -> Option Nat
  nextArm : Nat -> Option Nat
  blockEnd : Nat -> Option Nat
  doEnd : Nat -> Option Nat
  ending : Nat -> Option (List Nat)
  blocks : List (List Nat)
  loops : List Lp
noncomputable def upd {α β : Type} [DecidableEq α] (f : α -> Option β) (k : α) (v : β) : α -> Option β := fun x => if x = k then some v else f x
noncomputable def openArm : List (List Nat) -> Option Nat
  | [] => none
  | b :: _ => b.head?
noncomputable def endsGo (l : Int) (i : Nat) (oa : Option Nat) : List Lp -> (Nat -> Option Nat) -> (Nat -> Option (List Nat)) -> Option (List Lp × (Nat -> Option Nat) × (Nat -> Option (List Nat)))
  | [], d, e => some ([], d, e)
  | (t, s, a) :: r, d, e => if t = l then (if a = oa then endsGo l i oa r (upd d s i) (upd e i ((e i).getD [] ++ [s])) else none) else some ((t, s, a) :: r, d, e)
noncomputable def armP (rows : List Row) (i : Nat) (fin : Bool) (fs : FS) : Option FS := match fs.blocks with
  | [] => none
  | [] :: _ => none
  | (a :: arms) :: bs =>
    if elsAt rows a && !fin then none else
      let na := if elsAt rows a then fs.nextArm else upd fs.nextArm a i
      if fin then some { fs with nextArm := na, blockEnd := fun x => if x ∈ a :: arms then some i else fs.blockEnd x, blocks := bs }
      else some { fs with nextArm := na, blocks := (i :: a :: arms) :: bs }
noncomputable def flowStep (rows : List Row) (i : Nat) (r : Row) (fs : FS) : Option FS := match r.stm with
  | .ifs => some { fs with blocks := [i] :: fs.blocks }
  | .elif => armP rows i false fs
  | .els => armP rows i false fs
  | .endif => armP rows i true fs
  | .doo t => some { fs with loops := (t, i, openArm fs.blocks) :: fs.loops }
  | .cont => if r.lab = 0 then some fs else if (fs.labels r.lab).isSome then none else
    match endsGo r.lab i (openArm fs.blocks) fs.loops fs.doEnd fs.ending with
    | some (l, d, e) => some { fs with labels := upd fs.labels r.lab i, loops := l, doEnd := d, ending := e }
    | none => none
noncomputable def FS0 : FS := ⟨fun _ => none, fun _ => none, fun _ => none, fun _ => none, fun _ => none, [], []⟩
noncomputable def flowAt (rows : List Row) : Nat -> Option FS
  | 0 => some FS0
  | i + 1 => match flowAt rows i, rows[i]? with
    | some fs, some r => flowStep rows i r fs
    | _, _ => none
noncomputable def firstLab (rows : List Row) (s : Nat) (t : Int) : Option Nat := ((List.range rows.length).filter fun p => decide (s < p) && labAt rows p == t).head?
noncomputable def endOf (rows : List Row) (s : Nat) : Option Nat := (doAt rows s).bind (firstLab rows s)
structure EndsOk (rows : List Row) (A : List (List Nat)) : Prop where
  each : ∀ s t, doAt rows s = some t -> ∃ p, firstLab rows s t = some p /\ doAt rows p = none /\ A[p]? = A[s]?
  cross : ∀ s s' p p', endOf rows s = some p -> endOf rows s' = some p' -> ¬ (s < s' /\ s' < p /\ p < p')
noncomputable def Told (rows : List Row) : Prop := ∀ i j, labAt rows i ≠ 0 -> labAt rows i = labAt rows j -> i = j
noncomputable def IsRight (rows : List Row) : Prop := ∃ A, armsAt rows rows.length = some ([], A) /\ EndsOk rows A /\ Told rows
section
theorem armsStep_1 {rows i h f} : armsStep rows i .ifs h f = some (i :: h, f ++ [h]) := rfl
theorem armsStep_2 {rows i f} : armsStep rows i .elif [] f = none := rfl
theorem armsStep_3 {rows i t h f} : armsStep rows i .elif (t :: h) f = if elsAt rows t then none else some (i :: h, f ++ [h]) := rfl
theorem armsStep_4 {rows i f} : armsStep rows i .els [] f = none := rfl
theorem armsStep_5 {rows i t h f} : armsStep rows i .els (t :: h) f = if elsAt rows t then none else some (i :: h, f ++ [h]) := rfl
theorem armsStep_6 {rows i f} : armsStep rows i .endif [] f = none := rfl
theorem armsStep_7 {rows i t h f} : armsStep rows i .endif (t :: h) f = some (h, f ++ [h]) := rfl
theorem armsStep_8 {rows i t h f} : armsStep rows i (.doo t) h f = some (h, f ++ [h]) := rfl
theorem armsStep_9 {rows i h f} : armsStep rows i .cont h f = some (h, f ++ [h]) := rfl
theorem aheadGo_1 {i d f} : aheadGo [] i d f = none := rfl
theorem aheadGo_2 {r rest i d f} : aheadGo (r :: rest) i d f = match r.stm with
    | .ifs => aheadGo rest (i + 1) (d + 1) f
    | .endif => (match d with
      | 0 => some (f ++ [i])
      | d + 1 => aheadGo rest (i + 1) d f)
    | .elif => if d = 0 then aheadGo rest (i + 1) d (f ++ [i]) else aheadGo rest (i + 1) d f
    | .els => if d = 0 then aheadGo rest (i + 1) d (f ++ [i]) else aheadGo rest (i + 1) d f
    | _ => aheadGo rest (i + 1) d f := rfl
theorem armsAt_1 {rows} : armsAt rows 0 = some ([], []) := rfl
theorem armsAt_2 {rows i} : armsAt rows (i + 1) = match armsAt rows i, rows[i]? with
    | some (h, f), some r => armsStep rows i r.stm h f
    | _, _ => none := rfl
theorem flowAt_1 {rows} : flowAt rows 0 = some FS0 := rfl
theorem flowAt_2 {rows i} : flowAt rows (i + 1) = match flowAt rows i, rows[i]? with
    | some fs, some r => flowStep rows i r fs
    | _, _ => none := rfl
theorem endsGo_1 {l i oa d e} : endsGo l i oa [] d e = some ([], d, e) := rfl
theorem endsGo_2 {l i oa t s a r d e} : endsGo l i oa ((t, s, a) :: r) d e = if t = l then (if a = oa then endsGo l i oa r (upd d s i) (upd e i ((e i).getD [] ++ [s])) else none) else some ((t, s, a) :: r, d, e) := rfl
theorem isArm_1 : Stm.isArm .ifs = true := rfl
theorem isArm_2 : Stm.isArm .elif = true := rfl
theorem isArm_3 : Stm.isArm .els = true := rfl
theorem isArm_4 : Stm.isArm .endif = false := rfl
theorem isArm_5 {t} : Stm.isArm (.doo t) = false := rfl
theorem isArm_6 : Stm.isArm .cont = false := rfl
end
end
end Mine.PL
end
section
set_option tactic.hygienic false
open PySem Mine.Eqn
namespace Mine.PL
noncomputable section
noncomputable def isStop : Out -> Prop
  | .ret _ _ => True
  | .exc => True
  | _ => False
theorem forGo_rule {chk : Sto -> Bool} {step : V -> Ls -> Sto -> Option Out} {items : List V} (Inv : Nat -> Ls -> Sto -> Prop) (Fin : Out -> Prop)
    (hstep : ∀ j x ls σ, items[j]? = some x -> Inv j ls σ -> chk σ = true /\ ((∃ ls' σ', (step x ls σ = some (.next ls' σ') \/ step x ls σ = some (.cont ls' σ')) /\ Inv (j + 1) ls' σ') \/ (∃ o, step x ls σ = some o /\ isStop o /\ Fin o)))
    (hend : ∀ ls σ, Inv items.length ls σ -> chk σ = true) {ls : Ls} {σ : Sto} (h0 : Inv 0 ls σ) :
    (∃ ls' σ', forGo chk step items ls σ = some (.next ls' σ') /\ Inv items.length ls' σ') \/ (∃ o, forGo chk step items ls σ = some o /\ isStop o /\ Fin o) := by
  suffices ∀ (n j : Nat) (ls : Ls) (σ : Sto), n + j = items.length -> Inv j ls σ -> (∃ ls' σ', forGo chk step (items.drop j) ls σ = some (.next ls' σ') /\ Inv items.length ls' σ') \/ (∃ o, forGo chk step (items.drop j) ls σ = some o /\ isStop o /\ Fin o) by
    have := this items.length 0 ls σ (by (rfl)) h0
    simpa using this
  intro n
  induction n with
  | zero =>
    intro j ls σ hj hI
    have : j = items.length := by (exact om40 hj)
    subst this
    refine .inl ⟨ls, σ, ?_, hI⟩
    rw [List.drop_length]
    simp [Eqn.forGo_1, hend ls σ hI]
  | succ n ih =>
    intro j ls σ hj hI
    have hlt : j < items.length := by (exact om41 hj)
    rw [List.drop_eq_getElem_cons hlt]
    refine cpf fun rq => ?_
    refine el02 (hstep j _ ls σ (List.getElem?_eq_getElem hlt) hI) fun hc hs => ?_
    rcases hs with ⟨ls', σ', hs, hI'⟩ | ⟨o, hs, hso, hF⟩
    · rcases ih (j + 1) ls' σ' (by (exact om42 hj)) hI' with ⟨ls2, σ2, h1, h2⟩ | ⟨o, h1, h2, h3⟩
      · refine rq ?_
        refine .inl ⟨ls2, σ2, ?_, h2⟩
        rw [Eqn.forGo_2, if_pos hc]
        rcases hs with hs | hs <;> (rw [hs]; exact h1)
      · refine rq ?_
        refine .inr ⟨o, ?_, h2, h3⟩
        rw [Eqn.forGo_2, if_pos hc]
        rcases hs with hs | hs <;> (rw [hs]; exact h1)
    · refine rq ?_
      refine .inr ⟨o, ?_, hso, hF⟩
      induction o using Out.casesOn with
      | next => exact hso.elim
      | cont => exact hso.elim
      | ret v σ2 => rw [Eqn.forGo_2, if_pos hc, hs]
      | exc => rw [Eqn.forGo_2, if_pos hc, hs]
noncomputable def rng (lo hi : Int) : List V := (List.range (hi - lo).toNat).map fun (i : Nat) => V.int (lo + (i : Int))
theorem rng_at {lo hi : Int} {j : Nat} {x : V} (h : (rng lo hi)[j]? = some x) : x = .int (lo + j) /\ (j : Int) < hi - lo := by
  unfold rng at h
  (replace h := Eq.trans (Eq.symm (List.getElem?_map ..)) (h))
  refine cpf fun rq => ?_
  cases e : (List.range (hi - lo).toNat)[j]? with
  | none => refine rq ?_; rw [e] at h; cases h
  | some i =>
    rw [e] at h
    refine el11 (List.getElem?_eq_some_iff.mp e) fun h1 h2 => ?_
    simp at h1 h2
    subst h2
    cases h
    refine rq ?_
    exact ⟨rfl, by (assumption)⟩
theorem rng_len {lo hi : Int} : (rng lo hi).length = (hi - lo).toNat := by simp [rng]
theorem chk_rng' {lo hi : Int} (τ : Sto) : chkItems (.rng lo hi) (rng lo hi) τ = true := chk_rng (σ := []) rfl τ
theorem forr_rng' {C : Calls} {n : Nat} {ls : Ls} {σ σ1 : Sto} {i : Nat} {it : CE} {body : List CS} {lo hi : Int} (h : ev C n it ls none σ = some (.rng lo hi, σ1)) :
    ex C (n + 1) (.forr i it body) ls σ = forGo (chkItems (.rng lo hi) (rng lo hi)) (fun x ls σ => exs (ex C n) body (ls.set i (some x)) σ) (rng lo hi) ls σ1 := forr_rng h
theorem for_rule {C : Calls} {n : Nat} {ls : Ls} {σ σ1 : Sto} {i : Nat} {it : CE} {body : List CS} {lo hi : Int} (Inv : Nat -> Ls -> Sto -> Prop) (Fin : Out -> Prop) (h : ev C n it ls none σ = some (.rng lo hi, σ1)) (h0 : Inv 0 ls σ1)
    (hstep : ∀ (j : Nat) ls σ, (j : Int) < hi - lo -> Inv j ls σ -> (∃ ls' σ', (exs (ex C n) body (ls.set i (some (.int (lo + j)))) σ = some (.next ls' σ') \/ exs (ex C n) body (ls.set i (some (.int (lo + j)))) σ = some (.cont ls' σ')) /\ Inv (j + 1) ls' σ') \/ (∃ o, exs (ex C n) body (ls.set i (some (.int (lo + j)))) σ = some o /\ isStop o /\ Fin o)) :
    (∃ ls' σ', ex C (n + 1) (.forr i it body) ls σ = some (.next ls' σ') /\ Inv (hi - lo).toNat ls' σ') \/ (∃ o, ex C (n + 1) (.forr i it body) ls σ = some o /\ isStop o /\ Fin o) := by
  rw [forr_rng' h]
  have := forGo_rule (chk := chkItems (.rng lo hi) (rng lo hi)) (step := fun x ls σ => exs (ex C n) body (ls.set i (some x)) σ) (items := rng lo hi) Inv Fin (fun j x ls σ hx hI => by
    refine el02 (rng_at hx) fun q70_0 hj => ?_
    subst q70_0
    exact ⟨chk_rng' σ, hstep j ls σ hj hI⟩) (fun ls σ _ => chk_rng' σ) h0
  rw [rng_len] at this
  exact this
noncomputable def Ext (σ σ' : Sto) : Prop := ∀ (n : Nat) (o : AO), σ[n]? = some o -> σ'[n]? = some o
theorem Ext.refl (σ : Sto) : Ext σ σ := fun _ _ h => h
theorem Ext.trans {σ σ' σ'' : Sto} (h : Ext σ σ') (h' : Ext σ' σ'') : Ext σ σ'' := fun n o q => h' n o (h n o q)
theorem Ext.app (σ τ : Sto) : Ext σ (σ ++ τ) := fun n o h => get_app h
theorem Ext.len {σ σ' : Sto} (h : Ext σ σ') : σ.length <= σ'.length := by
  by_cases q : σ'.length < σ.length
  · have h1 : σ[σ'.length]? = some σ[σ'.length] := List.getElem?_eq_getElem q
    have := lt_of_get (h _ _ h1)
    (exact om178 this)
  · (exact om109 q)
theorem Ext.set {σ σ' : Sto} {m : Nat} {o : AO} (h : Ext σ σ') (hm : σ.length <= m) : Ext σ (σ'.set m o) := fun n o' q => by
  (refine Eq.trans (get_set_ne (by have := lt_of_get q; (exact om179 this hm)) ..) ?_); exact h n o' q
noncomputable def wv : Stm -> Nat
  | .ifs => 0 | .elif => 1 | .els => 2 | .endif => 3 | .doo _ => 4 | .cont => 5
noncomputable def nums (l : List Nat) : List V := l.map fun (i : Nat) => V.int i
noncomputable def Rw (R : Nat) (rows : List Row) (σ : Sto) : Prop := σ[R]? = some (.list (rows.map rowV))
theorem idx_lst {m : Nat} {σ : Sto} {vs : List V} {j : Nat} {v : V} (h : σ[m]? = some (.list vs)) (hv : vs[j]? = some v) (hj : j < 1000000) : idxV (.lst m) (.int (j : Int)) σ = some v := by
  have h1 : (j : Int) < 1000000 := by (exact om180 hj)
  simp [Eqn.idxV_1, atL, getL_of h, h1, hv]
theorem idx_row {R : Nat} {rows : List Row} {σ : Sto} {j : Nat} {r : Row} (h : Rw R rows σ) (hr : rows[j]? = some r) (hj : j < 1000000) : idxV (.lst R) (.int (j : Int)) σ = some (rowV r) :=
  idx_lst h (by rw [List.getElem?_map, hr]; rfl) hj
theorem idx_row0 (r : Row) (σ : Sto) : idxV (rowV r) (.int 0) σ = some (.int r.lab) := rfl
theorem idx_row1 (r : Row) (σ : Sto) : idxV (rowV r) (.int 1) σ = some (stmV r.stm) := rfl
theorem idx_word (s : Stm) (σ : Sto) : idxV (stmV s) (.int 0) σ = some (.str (wv s)) := by induction s using Stm.casesOn <;> rfl
theorem elsAt_some' {rows : List Row} {i : Nat} {r : Row} (h : rows[i]? = some r) : elsAt rows i = r.stm.isEls := by unfold elsAt; rw [h]
section
variable {C : Calls} {n : Nat} {ls : Ls} {cv : Option V} {σ σ1 σ2 : Sto} {R : Nat} {rows : List Row} {r : Row} {j : Nat}
theorem ev_word {e : CE} (hR : Rw R rows σ1) (h0 : ls[0]? = some (some (.lst R))) (he : ev C (n + 1) e ls cv σ = some (.int (j : Int), σ1)) (h0' : ev C (n + 1) (.var 0) ls cv σ = some (.lst R, σ)) (hr : rows[j]? = some r) (hj : j < 1000000) :
    ev C (n + 4) (.idx (.idx (.idx (.var 0) e) (.int 1)) (.int 0)) ls cv σ = some (.str (wv r.stm), σ1) :=
  ev_i (ev_i (ev_i h0' he (idx_row hR hr hj)) ev_n (idx_row1 r _)) ev_n (idx_word _ _)
theorem ev_tgt {e : CE} {t : Int} (hR : Rw R rows σ1) (he : ev C (n + 1) e ls cv σ = some (.int (j : Int), σ1)) (h0' : ev C (n + 1) (.var 0) ls cv σ = some (.lst R, σ)) (hr : rows[j]? = some r) (hs : r.stm = .doo t) (hj : j < 1000000) :
    ev C (n + 4) (.idx (.idx (.idx (.var 0) e) (.int 1)) (.int 1)) ls cv σ = some (.int t, σ1) :=
  ev_i (ev_i (ev_i h0' he (idx_row hR hr hj)) ev_n (idx_row1 r _)) ev_n (by rw [hs]; rfl)
theorem ev_lab {e : CE} (hR : Rw R rows σ1) (he : ev C (n + 1) e ls cv σ = some (.int (j : Int), σ1)) (h0' : ev C (n + 1) (.var 0) ls cv σ = some (.lst R, σ)) (hr : rows[j]? = some r) (hj : j < 1000000) :
    ev C (n + 3) (.idx (.idx (.var 0) e) (.int 0)) ls cv σ = some (.int r.lab, σ1) :=
  ev_i (ev_i h0' he (idx_row hR hr hj)) ev_n (idx_row0 r _)
end
end
end Mine.PL
end
section
set_option tactic.hygienic false
open PySem Mine.Eqn
namespace Mine.PL
noncomputable section
noncomputable def heads (b : List (List Nat)) : List Nat := b.filterMap List.head?
noncomputable def okHeap (f : List (List Nat)) : List Nat -> Prop
  | [] => True
  | a :: r => f[a]? = some r /\ okHeap f r
theorem okHeap_app {f : List (List Nat)} {x : List Nat} : ∀ {h : List Nat}, okHeap f h -> okHeap (f ++ [x]) h
  | [], _ => trivial
  | a :: r, ⟨h1, h2⟩ => ⟨by (refine Eq.trans (List.getElem?_append_left (List.getElem?_eq_some_iff.mp h1).1 ..) ?_); exact h1, okHeap_app h2⟩
theorem okHeap_eq {f : List (List Nat)} : ∀ {h1 h2 : List Nat}, okHeap f h1 -> okHeap f h2 -> h1.head? = h2.head? -> h1 = h2
  | [], [], _, _, _ => rfl
  | [], b :: r, _, _, h => by simp at h
  | a :: r, [], _, _, h => by simp at h
  | a :: r, b :: r', h1, h2, h => by
    simp at h
    subst h
    have := h1.1.symm.trans h2.1
    simp at this
    rw [this]
theorem doAt_some {rows : List Row} {i : Nat} {r : Row} (h : rows[i]? = some r) : doAt rows i = match r.stm with | .doo t => some t | _ => none := by
  unfold doAt; rw [h]; obtain ⟨l, s, k⟩ := r; induction s using Stm.casesOn <;> rfl
theorem labAt_some {rows : List Row} {i : Nat} {r : Row} (h : rows[i]? = some r) : labAt rows i = r.lab := by
  unfold labAt; rw [h]
theorem elsAt_some {rows : List Row} {i : Nat} {r : Row} (h : rows[i]? = some r) : elsAt rows i = r.stm.isEls := by
  unfold elsAt; rw [h]
theorem armAt_some {rows : List Row} {i : Nat} {r : Row} (h : rows[i]? = some r) : armAt rows i = r.stm.isArm := by
  unfold armAt; rw [h]
theorem doAt_lt {rows : List Row} {i : Nat} {t : Int} (h : doAt rows i = some t) : i < rows.length := by
  unfold doAt at h
  cases e : rows[i]? with
  | none => rw [e] at h; cases h
  | some r => exact (List.getElem?_eq_some_iff.mp e).1
theorem labAt_lt {rows : List Row} {i : Nat} (h : labAt rows i ≠ 0) : i < rows.length := by
  unfold labAt at h
  cases e : rows[i]? with
  | none => rw [e] at h; exact absurd rfl h
  | some r => exact (List.getElem?_eq_some_iff.mp e).1
theorem armAt_lt {rows : List Row} {i : Nat} (h : armAt rows i = true) : i < rows.length := by
  unfold armAt at h
  cases e : rows[i]? with
  | none => rw [e] at h; cases h
  | some r => exact (List.getElem?_eq_some_iff.mp e).1
section
variable {rows : List Row} (good : ∀ r ∈ rows, GoodRow r)
include good
theorem lab_cont {i : Nat} {r : Row} (h : rows[i]? = some r) (hl : r.lab ≠ 0) : r.stm = .cont := (good r (List.mem_of_getElem? h)).lab hl
theorem lab_do {i : Nat} (h : labAt rows i ≠ 0) : doAt rows i = none := by
  have hi := labAt_lt h
  have e := List.getElem?_eq_getElem hi
  rw [labAt_some e] at h
  rw [doAt_some e, lab_cont good e h]
theorem tgt_ne {i : Nat} {t : Int} (h : doAt rows i = some t) : t ≠ 0 := by
  have hi := doAt_lt h
  have e := List.getElem?_eq_getElem hi
  (replace h := Eq.trans (Eq.symm (doAt_some e ..)) (h))
  cases hs : rows[i].stm <;> rw [hs] at h <;> simp at h
  subst h
  exact (good _ (List.getElem_mem hi)).tgt _ hs
end
theorem firstLab_some {rows : List Row} {s p : Nat} {t : Int} (h : firstLab rows s t = some p) : s < p /\ p < rows.length /\ labAt rows p = t := by
  unfold firstLab at h
  have := List.mem_of_mem_head? (Option.mem_def.mpr h)
  simp at this
  exact ⟨this.2.1, this.1, this.2.2⟩
theorem firstLab_none {rows : List Row} {s : Nat} {t : Int} (h : firstLab rows s t = none) : ∀ p, s < p -> p < rows.length -> labAt rows p ≠ t := by
  unfold firstLab at h
  intro p h1 h2 h3
  rw [List.head?_eq_none_iff, List.filter_eq_nil_iff] at h
  exact h p (List.mem_range.mpr h2) (by simp [h1, h3])
theorem firstLab_eq {rows : List Row} (ht : Told rows) {s p : Nat} {t : Int} (h0 : t ≠ 0) (h1 : s < p) (h2 : labAt rows p = t) : firstLab rows s t = some p := by
  have hp : p < rows.length := labAt_lt (by rw [h2]; exact h0)
  cases e : firstLab rows s t with
  | none => exact absurd h2 (firstLab_none e p h1 hp)
  | some q =>
    refine el03 (firstLab_some e) fun _ _ h => ?_
    rw [ht p q (by rw [h2]; exact h0) (by rw [h2, h])]
theorem endsGo_some {l : Int} {i : Nat} {oa : Option Nat} : ∀ {L L' : List Lp} {d d' : Nat -> Option Nat} {e e' : Nat -> Option (List Nat)}, endsGo l i oa L d e = some (L', d', e') ->
    ∃ pre, L = pre ++ L' /\ (∀ x ∈ pre, x.1 = l /\ x.2.2 = oa) /\ (∀ s, d' s = if s ∈ pre.map (·.2.1) then some i else d s) /\ (∀ x, e' x = if x = i /\ pre ≠ [] then some ((e i).getD [] ++ pre.map (·.2.1)) else e x) /\ (∀ x, L'.head? = some x -> x.1 ≠ l)
  | [], L', d, d', e, e', h => by
    simp only [endsGo_1, Option.some.injEq, Prod.mk.injEq] at h
    refine el03 (h) fun q88_0 q88_1 q88_2 => ?_
    subst q88_0
    subst q88_1
    subst q88_2
    exact ⟨[], rfl, by simp, by simp, by simp, by simp⟩
  | (t, s, a) :: r, L', d, d', e, e', h => by
    unfold endsGo at h
    by_cases ht : t = l
    · (replace h := Eq.trans (Eq.symm (if_pos ht ..)) (h))
      by_cases ha : a = oa
      · (replace h := Eq.trans (Eq.symm (if_pos ha ..)) (h))
        refine el15 (endsGo_some h) fun pre h1 h2 h3 h4 h5 => ?_
        refine ⟨(t, s, a) :: pre, by rw [h1]; rfl, ?_, ?_, ?_, h5⟩
        · intro x hx
          rcases List.mem_cons.mp hx with rfl | hx
          · exact ⟨ht, ha⟩
          · exact h2 x hx
        · intro s'
          (refine Eq.trans (h3 ..) ?_)
          by_cases q1 : s' ∈ pre.map (·.2.1)
          · simp [q1]
          · by_cases q2 : s' = s
            · simp [q2, upd]
            · simp [q1, q2, upd]
        · intro x
          (refine Eq.trans (h4 ..) ?_)
          by_cases hx : x = i
          · subst hx
            by_cases hp : pre = []
            · subst hp; simp [upd]
            · simp [hp, upd]
          · simp [hx, upd]
      · (replace h := Eq.trans (Eq.symm (if_neg ha ..)) (h)); (exact no_so h)
    · (replace h := Eq.trans (Eq.symm (if_neg ht ..)) (h))
      simp only [Option.some.injEq, Prod.mk.injEq] at h
      refine el03 (h) fun q120_0 q120_1 q120_2 => ?_
      subst q120_0
      subst q120_1
      subst q120_2
      exact ⟨[], rfl, by simp, by simp, by simp, by intro x hx; simp at hx; rw [<- hx]; exact ht⟩
theorem endsGo_none {l : Int} {i : Nat} {oa : Option Nat} : ∀ {L : List Lp} {d : Nat -> Option Nat} {e : Nat -> Option (List Nat)}, endsGo l i oa L d e = none ->
    ∃ x ∈ L, x.1 = l /\ x.2.2 ≠ oa
  | [], d, e, h => by simp [endsGo_1] at h
  | (t, s, a) :: r, d, e, h => by
    unfold endsGo at h
    refine cpf fun rq => ?_
    by_cases ht : t = l
    · (replace h := Eq.trans (Eq.symm (if_pos ht ..)) (h))
      by_cases ha : a = oa
      · (replace h := Eq.trans (Eq.symm (if_pos ha ..)) (h))
        refine el13 (endsGo_none h) fun x hx h1 h2 => ?_
        refine rq ?_
        exact ⟨x, .tail _ hx, h1, h2⟩
      · refine rq ?_
        exact ⟨(t, s, a), .head _, ht, ha⟩
    · (replace h := Eq.trans (Eq.symm (if_neg ht ..)) (h)); (exact some_no h)
end
end Mine.PL
end
section
set_option tactic.hygienic false
open PySem Mine.Eqn
namespace Mine.PL
noncomputable section
structure FI (rows : List Row) (i : Nat) (fs : FS) (f : List (List Nat)) : Prop where
  arms : armsAt rows i = some (heads fs.blocks, f)
  ne : ∀ b ∈ fs.blocks, b ≠ []
  flen : f.length = i
  okh : okHeap f (heads fs.blocks)
  okf : ∀ (s : Nat) (h : List Nat), f[s]? = some h -> okHeap f h
  labels : ∀ (l : Int) (p : Nat), fs.labels l = some p ↔ (p < i /\ l ≠ 0 /\ labAt rows p = l)
  loops1 : ∀ x ∈ fs.loops, x.2.1 < i /\ doAt rows x.2.1 = some x.1 /\ fs.doEnd x.2.1 = none /\ ∃ h, f[x.2.1]? = some h /\ x.2.2 = h.head?
  loops2 : (fs.loops.map (·.2.1)).Pairwise (· > ·)
  dos : ∀ s t, s < i -> doAt rows s = some t -> (∃ a, (t, s, a) ∈ fs.loops) \/ (∃ e, fs.doEnd s = some e)
  ends : ∀ s e, fs.doEnd s = some e -> s < e /\ e < i /\ (∃ t, doAt rows s = some t /\ t ≠ 0 /\ labAt rows e = t) /\ f[e]? = f[s]? /\ ∀ s', s < s' -> s' < e -> doAt rows s' ≠ none -> ∃ e', fs.doEnd s' = some e' /\ e' <= e
  ending : ∀ e, match fs.ending e with
    | none => ∀ s, fs.doEnd s ≠ some e
    | some l => l ≠ [] /\ l.Pairwise (· > ·) /\ ∀ s, s ∈ l ↔ fs.doEnd s = some e
theorem openArm_heads {b : List (List Nat)} (h : ∀ x ∈ b, x ≠ []) : openArm b = (heads b).head? := by
  induction b using List.casesOn with
  | nil => rfl
  | cons x r =>
    induction x using List.casesOn with
    | nil => exact absurd rfl (h [] (.head _))
    | cons a t => rfl
theorem FI.zero (rows : List Row) : FI rows 0 FS0 [] where
  arms := rfl
  ne := fun _ h => nomatch h
  flen := rfl
  okh := trivial
  okf := fun s h q => by simp at q
  labels := fun l p => by simp [FS0]
  loops1 := fun _ h => nomatch h
  loops2 := List.Pairwise.nil
  dos := fun s t h => absurd h (by (exact om108))
  ends := fun s e h => nomatch h
  ending := fun e => by intro s; exact fun h => nomatch h
theorem getElem?_snoc {α : Type} {f : List α} {x y : α} {s : Nat} (h : (f ++ [x])[s]? = some y) : f[s]? = some y \/ (s = f.length /\ x = y) := by
  by_cases hs : s < f.length
  · (replace h := Eq.trans (Eq.symm (List.getElem?_append_left hs ..)) (h)); exact .inl h
  · (replace h := Eq.trans (Eq.symm (List.getElem?_append_right (by (exact om109 hs)) ..)) (h))
    by_cases h0 : s - f.length = 0
    · rw [h0] at h; simp at h; exact .inr ⟨by (exact om110 h0 hs), h⟩
    · have : 1 <= s - f.length := by (exact om111 h0)
      (replace h := Eq.trans (Eq.symm (List.getElem?_eq_none (by simpa using this) ..)) (h)); (exact no_so h)
theorem get_snoc {α : Type} {f : List α} {x y : α} {s : Nat} (h : f[s]? = some y) : (f ++ [x])[s]? = some y := by
  (refine Eq.trans (List.getElem?_append_left (List.getElem?_eq_some_iff.mp h).1 ..) ?_); exact h
section
variable {rows : List Row} {i : Nat} {fs fs' : FS} {f : List (List Nat)} {r : Row}
theorem FI.keep (I : FI rows i fs f) (hr : rows[i]? = some r) (h0 : r.lab = 0) (hd : doAt rows i = none) {h : List Nat}
    (ha : armsStep rows i r.stm (heads fs.blocks) f = some (heads fs'.blocks, f ++ [h])) (hne : ∀ b ∈ fs'.blocks, b ≠ [])
    (hok : okHeap f h) (hokh : okHeap (f ++ [h]) (heads fs'.blocks)) (h1 : fs'.labels = fs.labels) (h2 : fs'.loops = fs.loops) (h3 : fs'.doEnd = fs.doEnd) (h4 : fs'.ending = fs.ending) :
    FI rows (i + 1) fs' (f ++ [h]) where
  arms := by rw [armsAt, I.arms, hr]; exact ha
  ne := hne
  flen := by simp [I.flen]
  okh := hokh
  okf := fun s h' q => by
    rcases getElem?_snoc q with q | ⟨_, rfl⟩
    · exact okHeap_app (I.okf s h' q)
    · exact okHeap_app hok
  labels := fun l p => by
    rw [h1, I.labels]
    refine ⟨fun ⟨a, b, c⟩ => ⟨by (exact om112 (by assumption)), b, c⟩, fun ⟨a, b, c⟩ => ⟨?_, b, c⟩⟩
    by_cases q : p = i
    · subst q; rw [labAt_some hr, h0] at c; exact absurd c.symm b
    · (exact om113 (by assumption) q)
  loops1 := fun x hx => by
    rw [h2] at hx
    obtain ⟨a, b, c, h', d, e⟩ := I.loops1 x hx
    exact ⟨by (exact om114 a), b, by rw [h3]; exact c, h', get_snoc d, e⟩
  loops2 := by rw [h2]; exact I.loops2
  dos := fun s t hs ht => by
    rw [h2, h3]
    refine I.dos s t ?_ ht
    by_cases q : s = i
    · subst q; rw [hd] at ht; (exact no_so ht)
    · (exact om115 q hs)
  ends := fun s e he => by
    rw [h3] at he
    refine el05 (I.ends s e he) fun a b c d g => ?_
    refine ⟨a, by (exact om114 b), c, ?_, by rw [h3]; exact g⟩
    have := I.flen
    rw [List.getElem?_append_left (by (exact om116 b this)), List.getElem?_append_left (by (exact om117 a b this))]
    exact d
  ending := fun e => by rw [h4, h3]; exact I.ending e
theorem FI.step_if (I : FI rows i fs f) (hr : rows[i]? = some r) (good : ∀ r ∈ rows, GoodRow r) (hs : r.stm = .ifs) (h : flowStep rows i r fs = some fs') : ∃ f', FI rows (i + 1) fs' f' := by
  have h0 : r.lab = 0 := Classical.byContradiction fun q => by rw [lab_cont good hr q] at hs; (exact Stm.noConfusion hs)
  simp only [flowStep, hs, Option.some.injEq] at h
  subst h
  refine ⟨_, I.keep hr h0 (by rw [doAt_some hr, hs]) (h := heads fs.blocks) (by rw [hs]; rfl) ?_ I.okh ?_ rfl rfl rfl rfl⟩
  · intro b hb
    rcases List.mem_cons.mp hb with rfl | hb
    · simp
    · exact I.ne b hb
  · refine ⟨?_, okHeap_app I.okh⟩
    have := I.flen
    subst this
    simp [heads]
theorem FI.step_arm (I : FI rows i fs f) (hr : rows[i]? = some r) (good : ∀ r ∈ rows, GoodRow r) (hs : r.stm = .elif \/ r.stm = .els \/ r.stm = .endif) (h : flowStep rows i r fs = some fs') : ∃ f', FI rows (i + 1) fs' f' := by
  have h0 : r.lab = 0 := Classical.byContradiction fun q => by rw [lab_cont good hr q] at hs; simp at hs
  have hd : doAt rows i = none := by (refine Eq.trans (doAt_some hr ..) ?_); rcases hs with hs | hs | hs <;> rw [hs]
  cases hb : fs.blocks with
  | nil => rcases hs with hs | hs | hs <;> simp [flowStep, hs, armP, hb] at h
  | cons b bs =>
    induction b using List.casesOn with
    | nil => exact absurd rfl (I.ne [] (by rw [hb]; exact .head _))
    | cons a arms =>
      have hk := I.okh
      rw [hb] at hk
      have hk2 : okHeap f (heads bs) := hk.2
      have hne : ∀ b ∈ bs, b ≠ [] := fun b q => I.ne b (by rw [hb]; exact .tail _ q)
      have hh : heads fs.blocks = a :: heads bs := by rw [hb]; rfl
      have open_ : ∀ fin, (r.stm = .endif ↔ fin = true) -> armP rows i fin fs = some fs' -> ∃ f', FI rows (i + 1) fs' f' := by
        intro fin hf h
        simp only [armP, hb] at h
        by_cases c : (elsAt rows a && !fin) = true
        · (replace h := Eq.trans (Eq.symm (if_pos c ..)) (h)); cases h
        · (replace h := Eq.trans (Eq.symm (if_neg c ..)) (h))
          induction fin using Bool.casesOn with
          | true =>
            simp only [if_true, Option.some.injEq] at h
            subst h
            refine ⟨_, I.keep hr h0 hd (h := heads bs) ?_ hne hk2 (okHeap_app hk2) rfl rfl rfl rfl⟩
            rw [hf.mpr rfl, hh]; rfl
          | false =>
            simp only [Bool.false_eq_true, if_false, Option.some.injEq] at h
            subst h
            refine ⟨_, I.keep hr h0 hd (h := heads bs) ?_ ?_ hk2 ?_ rfl rfl rfl rfl⟩
            · have c' : elsAt rows a = false := by simpa using c
              have hn : r.stm ≠ .endif := fun q => by have := hf.mp q; cases this
              rw [hh]
              rcases hs with hs | hs | hs
              · rw [hs]; simp [armsStep_3, c', heads]
              · rw [hs]; simp [armsStep_5, c', heads]
              · exact absurd hs hn
            · intro b q
              rcases List.mem_cons.mp q with rfl | q
              · simp
              · exact hne b q
            · refine ⟨?_, okHeap_app hk2⟩
              have := I.flen
              subst this
              simp [heads]
      rcases hs with hs | hs | hs
      · exact open_ false (by simp [hs]) (by simpa [flowStep, hs] using h)
      · exact open_ false (by simp [hs]) (by simpa [flowStep, hs] using h)
      · exact open_ true (by simp [hs]) (by simpa [flowStep, hs] using h)
theorem FI.step_do (I : FI rows i fs f) (hr : rows[i]? = some r) (good : ∀ r ∈ rows, GoodRow r) {t : Int} (hs : r.stm = .doo t) (h : flowStep rows i r fs = some fs') : ∃ f', FI rows (i + 1) fs' f' := by
  have h0 : r.lab = 0 := Classical.byContradiction fun q => by (replace hs := Eq.trans (Eq.symm (lab_cont good hr q ..)) (hs)); (exact Stm.noConfusion hs)
  have hdo : doAt rows i = some t := by rw [doAt_some hr, hs]
  simp only [flowStep, hs, Option.some.injEq] at h
  subst h
  have hfl := I.flen
  refine ⟨f ++ [heads fs.blocks], ?_⟩
  constructor
  · rw [armsAt, I.arms, hr]; simp [armsStep_8, hs]
  · exact I.ne
  · simp [I.flen]
  · exact okHeap_app I.okh
  · intro s h' q
    rcases getElem?_snoc q with q | ⟨_, rfl⟩
    · exact okHeap_app (I.okf s h' q)
    · exact okHeap_app I.okh
  · intro l p
    rw [I.labels]
    refine ⟨fun ⟨a, b, c⟩ => ⟨by (exact om112 (by assumption)), b, c⟩, fun ⟨a, b, c⟩ => ⟨?_, b, c⟩⟩
    refine cpf fun rq => ?_
    by_cases q : p = i
    · subst q; (replace c := Eq.trans (Eq.symm (h0 ..)) (Eq.trans (Eq.symm (labAt_some hr ..)) (c))); exact absurd c.symm b
    · refine rq ?_
      (exact om113 (by assumption) q)
  · intro x hx
    refine cpf fun rq => ?_
    rcases List.mem_cons.mp hx with rfl | hx
    · refine rq ?_
      refine ⟨by simp, hdo, ?_, heads fs.blocks, by simp [<- hfl], openArm_heads I.ne⟩
      cases q : fs.doEnd i with
      | none => rfl
      | some e => have := I.ends i e q; omega
    · obtain ⟨a, b, c, h', d, e⟩ := I.loops1 x hx
      refine rq ?_
      exact ⟨by (exact om114 a), b, c, h', get_snoc d, e⟩
  · refine List.Pairwise.cons ?_ I.loops2
    intro s hs
    refine cpf fun rq => ?_
    refine el12 (List.mem_map.mp hs) fun x hx q191_2 => ?_
    subst q191_2
    refine rq ?_
    exact (I.loops1 x hx).1
  · intro s t' hs' ht
    by_cases q : s = i
    · subst q; (replace ht := Eq.trans (Eq.symm (hdo ..)) (ht)); cases ht; exact .inl ⟨_, .head _⟩
    · rcases I.dos s t' (by (exact om115 q hs')) ht with ⟨a, h⟩ | h
      · exact .inl ⟨a, .tail _ h⟩
      · exact .inr h
  · intro s e he
    refine el05 (I.ends s e he) fun a b c d g => ?_
    refine ⟨a, by (exact om114 b), c, ?_, g⟩
    rw [List.getElem?_append_left (by (exact om116 b hfl)), List.getElem?_append_left (by (exact om117 a b hfl))]
    exact d
  · exact I.ending
end
end
end Mine.PL
end
section
set_option tactic.hygienic false
open PySem Mine.Eqn
namespace Mine.PL
section
variable {rows : List Row} {i : Nat} {fs fs' : FS} {f : List (List Nat)} {r : Row}
theorem pair_map_mem {pre L : List Lp} {x y : Lp} (hp : ((pre ++ L).map (·.2.1)).Pairwise (· > ·)) (hx : x ∈ pre) (hy : y ∈ L) : x.2.1 > y.2.1 := by
  rw [List.map_append, List.pairwise_append] at hp
  exact hp.2.2 _ (List.mem_map_of_mem hx) _ (List.mem_map_of_mem hy)
theorem FI.step_cont0 (I : FI rows i fs f) (hr : rows[i]? = some r) (hs : r.stm = .cont) (h0 : r.lab = 0) : FI rows (i + 1) fs (f ++ [heads fs.blocks]) :=
  I.keep hr h0 (by rw [doAt_some hr, hs]) (by rw [hs]; rfl) I.ne I.okh (okHeap_app I.okh) rfl rfl rfl rfl
theorem FI.step_cont (I : FI rows i fs f) (hr : rows[i]? = some r) (good : ∀ r ∈ rows, GoodRow r) (hs : r.stm = .cont) (h : flowStep rows i r fs = some fs') : ∃ f', FI rows (i + 1) fs' f' := by
  by_cases h0 : r.lab = 0
  · simp only [flowStep, hs, h0, if_true, Option.some.injEq] at h
    subst h
    exact ⟨_, I.step_cont0 hr hs h0⟩
  · have hfl := I.flen
    have hdi : doAt rows i = none := by rw [doAt_some hr, hs]
    have hli : labAt rows i = r.lab := labAt_some hr
    simp only [flowStep, hs, if_neg h0] at h
    cases hlab : fs.labels r.lab with
    | some p => rw [hlab] at h; simp at h
    | none =>
      rw [hlab] at h
      simp only [Option.isSome_none, Bool.false_eq_true, if_false] at h
      cases he : endsGo r.lab i (openArm fs.blocks) fs.loops fs.doEnd fs.ending with
      | none => rw [he] at h; cases h
      | some y =>
        obtain ⟨L', d', e'⟩ := y
        rw [he] at h
        simp only [Option.some.injEq] at h
        refine el15 (endsGo_some he) fun pre hL hpre hd' he' hhd => ?_
        have hei : fs.ending i = none := by
          have := I.ending i
          cases q : fs.ending i with
          | none => rfl
          | some l =>
            rw [q] at this
            refine el03 (this) fun h1 h2 h3 => ?_
            induction l using List.casesOn with
            | nil => exact absurd rfl h1
            | cons s l => have := (I.ends s i ((h3 s).mp (.head _))).2.1; (exact absurd (by assumption) (Nat.lt_irrefl _))
        have hp2 := I.loops2
        rw [hL] at hp2
        have hpop : ∀ s, s ∈ pre.map (·.2.1) -> ∃ x ∈ pre, x ∈ fs.loops /\ x.2.1 = s := fun s q => by
          refine el12 (List.mem_map.mp q) fun x hx q49_2 => ?_
          subst q49_2
          exact ⟨x, hx, by rw [hL]; exact List.mem_append_left _ hx, rfl⟩
        refine ⟨f ++ [heads fs.blocks], ?_⟩
        rw [<- h]
        constructor
        · rw [armsAt, I.arms, hr]; simp [armsStep_9, hs]
        · exact I.ne
        · simp [I.flen]
        · exact okHeap_app I.okh
        · intro s h' q
          rcases getElem?_snoc q with q | ⟨_, rfl⟩
          · exact okHeap_app (I.okf s h' q)
          · exact okHeap_app I.okh
        · intro l p
          simp only [upd]
          by_cases hl : l = r.lab
          · subst hl
            rw [if_pos rfl]
            constructor
            · intro q; cases q; exact ⟨by (exact Nat.lt_succ_self _), h0, hli⟩
            · rintro ⟨a, b, c⟩
              by_cases q : p = i
              · rw [q]
              · have := (I.labels r.lab p).mpr ⟨by (exact om115 q a), b, c⟩
                (replace this := Eq.trans (Eq.symm (hlab ..)) (this)); cases this
          · rw [if_neg hl, I.labels]
            refine ⟨fun ⟨a, b, c⟩ => ⟨by (exact Nat.lt_succ_of_lt (by assumption)), b, c⟩, fun ⟨a, b, c⟩ => ⟨?_, b, c⟩⟩
            by_cases q : p = i
            · subst q; (replace c := Eq.trans (Eq.symm (hli ..)) (c)); exact absurd c.symm hl
            · (exact om113 (by assumption) q)
        · intro x hx
          have hx' : x ∈ fs.loops := by rw [hL]; exact List.mem_append_right _ hx
          obtain ⟨a, b, c, h', d, g⟩ := I.loops1 x hx'
          refine ⟨by (exact Nat.lt_succ_of_lt (by assumption)), b, ?_, h', get_snoc d, g⟩
          simp only [hd']
          rw [if_neg]
          · exact c
          · intro q
            refine el13 (hpop _ q) fun y hy _ hys => ?_
            have := pair_map_mem hp2 hy hx
            (exact om118 hys this)
        · rw [List.map_append, List.pairwise_append] at hp2
          exact hp2.2.1
        · intro s t hs' ht
          have hsi : s ≠ i := fun q => by rw [q, hdi] at ht; cases ht
          simp only [hd']
          by_cases q : s ∈ pre.map (·.2.1)
          · exact .inr ⟨i, by (exact (if_pos q ..))⟩
          · rw [if_neg q]
            rcases I.dos s t (by (exact om119 hs' hsi)) ht with ⟨a, h⟩ | h
            · rw [hL] at h
              rcases List.mem_append.mp h with h | h
              · exact absurd (List.mem_map.mpr ⟨_, h, rfl⟩) q
              · exact .inl ⟨a, h⟩
            · exact .inr h
        · intro s e hse
          simp only [hd'] at hse ⊢
          by_cases q : s ∈ pre.map (·.2.1)
          · (replace hse := Eq.trans (Eq.symm (if_pos q ..)) (hse))
            cases hse
            refine el13 (hpop s q) fun x hx hxl q109_3 => ?_
            subst q109_3
            obtain ⟨a, b, c, h', d, g⟩ := I.loops1 x hxl
            refine el02 (hpre x hx) fun hx1 hx2 => ?_
            refine ⟨a, by (exact Nat.lt_succ_self _), ⟨x.1, b, by rw [hx1]; exact h0, by rw [hli, hx1]⟩, ?_, ?_⟩
            · have e1 : (f ++ [heads fs.blocks])[i]? = some (heads fs.blocks) := by subst hfl; simp
              rw [e1, get_snoc d]
              congr 1
              refine okHeap_eq I.okh (I.okf _ _ d) ?_
              (exact Eq.trans (Eq.symm (openArm_heads I.ne ..)) (Eq.trans (Eq.symm (hx2 ..)) ((g ..))))
            · intro s' h1 h2 h3
              by_cases q' : s' ∈ pre.map (·.2.1)
              · rw [if_pos q']; exact ⟨i, rfl, Nat.le_refl _⟩
              · rw [if_neg q']
                cases hdo : doAt rows s' with
                | none => exact absurd hdo h3
                | some t' =>
                  rcases I.dos s' t' h2 hdo with ⟨a', hm⟩ | ⟨e2, hm⟩
                  · rw [hL] at hm
                    rcases List.mem_append.mp hm with hm | hm
                    · exact absurd (List.mem_map.mpr ⟨_, hm, rfl⟩) q'
                    · have := pair_map_mem hp2 hx hm
                      simp only at this; omega
                  · exact ⟨e2, hm, Nat.le_of_lt (I.ends s' e2 hm).2.1⟩
          · (replace hse := Eq.trans (Eq.symm (if_neg q ..)) (hse))
            refine el05 (I.ends s e hse) fun a b c d g => ?_
            refine ⟨a, by (exact Nat.lt_succ_of_lt (by assumption)), c, ?_, ?_⟩
            · rw [List.getElem?_append_left (by (exact om116 b hfl)), List.getElem?_append_left (by (exact om117 a b hfl))]
              exact d
            · intro s' h1 h2 h3
              refine el12 (g s' h1 h2 h3) fun e2 h4 h5 => ?_
              by_cases q' : s' ∈ pre.map (·.2.1)
              · refine el13 (hpop s' q') fun x hx hxl q140_3 => ?_
                subst q140_3
                (replace h4 := Eq.trans (Eq.symm ((I.loops1 x hxl).2.2.1)) (h4)); cases h4
              · rw [if_neg q']; exact ⟨e2, h4, h5⟩
        · intro e
          simp only [he', hd']
          by_cases q : e = i /\ pre ≠ []
          · rw [if_pos q, hei]
            refine el02 (q) fun q147_0 hne => ?_
            subst q147_0
            refine ⟨?_, ?_, ?_⟩
            · induction pre using List.casesOn with
              | nil => exact absurd rfl hne
              | cons x p => simp
            · rw [List.map_append, List.pairwise_append] at hp2
              simpa using hp2.1
            · intro s
              simp only [Option.getD_none, List.nil_append]
              by_cases q' : s ∈ pre.map (·.2.1)
              · rw [if_pos q']; exact ⟨fun _ => rfl, fun _ => q'⟩
              · rw [if_neg q']
                refine ⟨fun h => absurd h q', fun h => ?_⟩
                have := (I.ends s e h).2.1; (exact absurd (by assumption) (Nat.lt_irrefl _))
          · rw [if_neg q]
            have key : ∀ s, (if s ∈ pre.map (·.2.1) then some i else fs.doEnd s) = some e ↔ fs.doEnd s = some e := by
              intro s
              by_cases q' : s ∈ pre.map (·.2.1)
              · rw [if_pos q']
                refine el13 (hpop s q') fun x hx hxl q166_3 => ?_
                subst q166_3
                rw [(I.loops1 x hxl).2.2.1]
                constructor
                · intro h
                  cases h
                  exact absurd ⟨rfl, List.ne_nil_of_mem hx⟩ q
                · intro h; cases h
              · rw [if_neg q']
            have := I.ending e
            cases q2 : fs.ending e with
            | none =>
              rw [q2] at this
              intro s hs'
              exact this s ((key s).mp hs')
            | some l =>
              rw [q2] at this
              exact ⟨this.1, this.2.1, fun s => (this.2.2 s).trans (key s).symm⟩
theorem FI.step (I : FI rows i fs f) (hr : rows[i]? = some r) (good : ∀ r ∈ rows, GoodRow r) (h : flowStep rows i r fs = some fs') : ∃ f', FI rows (i + 1) fs' f' := by
  cases hs : r.stm with
  | ifs => exact I.step_if hr good hs h
  | elif => exact I.step_arm hr good (by simp [hs]) h
  | els => exact I.step_arm hr good (by simp [hs]) h
  | endif => exact I.step_arm hr good (by simp [hs]) h
  | doo t => exact I.step_do hr good hs h
  | cont => exact I.step_cont hr good hs h
theorem flowAt_FI (good : ∀ r ∈ rows, GoodRow r) : ∀ {i : Nat} {fs : FS}, flowAt rows i = some fs -> ∃ f, FI rows i fs f
  | 0, fs, h => by
    simp only [flowAt_1, Option.some.injEq] at h
    subst h
    exact ⟨_, FI.zero rows⟩
  | i + 1, fs, h => by
    unfold flowAt at h
    cases h1 : flowAt rows i with
    | none => rw [h1] at h; cases h
    | some fs0 =>
      cases h2 : rows[i]? with
      | none => rw [h1, h2] at h; cases h
      | some r =>
        rw [h1, h2] at h
        refine el11 (flowAt_FI good h1) fun f I => ?_
        exact I.step h2 good h
end
end Mine.PL
end
section
set_option tactic.hygienic false
open PySem Mine.Eqn
namespace Mine.PL
theorem armsStep_app {rows : List Row} {i : Nat} {s : Stm} {h h' : List Nat} {f f' : List (List Nat)} (e : armsStep rows i s h f = some (h', f')) : ∃ x, f' = f ++ [x] := by
  have two : ∀ {a b g : List Nat}, some (a, f ++ [g]) = some (h', f') -> ∃ x, f' = f ++ [x] := fun q => ⟨_, (Prod.mk.inj (Option.some.inj q)).2.symm⟩
  have arm : ∀ {t r}, (if elsAt rows t = true then none else some (i :: r, f ++ [r])) = some (h', f') -> ∃ x, f' = f ++ [x] := fun {t r} q => by
    by_cases c : elsAt rows t = true
    · rw [if_pos c] at q; exact no_so q
    · rw [if_neg c] at q; exact two (b := r) q
  induction s using Stm.casesOn with
  | ifs => exact two (b := h) e
  | doo => exact two (b := h) e
  | cont => exact two (b := h) e
  | elif =>
    induction h using List.casesOn with
    | nil => exact no_so e
    | cons t r => exact arm e
  | els =>
    induction h using List.casesOn with
    | nil => exact no_so e
    | cons t r => exact arm e
  | endif =>
    induction h using List.casesOn with
    | nil => exact no_so e
    | cons t r => exact two (b := r) e
theorem armsAt_pred {rows : List Row} {i : Nat} {h' : List Nat} {f' : List (List Nat)} (e : armsAt rows (i + 1) = some (h', f')) : ∃ h f r x, armsAt rows i = some (h, f) /\ rows[i]? = some r /\ armsStep rows i r.stm h f = some (h', f') /\ f' = f ++ [x] := by
  unfold armsAt at e
  cases h1 : armsAt rows i with
  | none => rw [h1] at e; cases e
  | some y =>
    obtain ⟨h, f⟩ := y
    cases h2 : rows[i]? with
    | none => rw [h1, h2] at e; cases e
    | some r =>
      rw [h1, h2] at e
      refine el11 (armsStep_app e) fun x hx => ?_
      exact ⟨h, f, r, x, rfl, rfl, e, hx⟩
theorem armsAt_pre {rows : List Row} : ∀ {n : Nat} {h : List Nat} {f : List (List Nat)}, armsAt rows n = some (h, f) -> ∀ i, i <= n -> ∃ h' f', armsAt rows i = some (h', f') /\ f' <+: f
  | 0, h, f, e, i, hi => by
    obtain rfl : i = 0 := by (exact om120 hi)
    exact ⟨h, f, e, List.prefix_rfl⟩
  | n + 1, h, f, e, i, hi => by
    by_cases q : i = n + 1
    · subst q; exact ⟨h, f, e, List.prefix_rfl⟩
    · refine el44 (armsAt_pred e) fun h0 f0 r x e0 _ _ q46_7 => ?_
      subst q46_7
      refine el22 (armsAt_pre e0 i (by (exact om121 q hi))) fun h' f' e' hp => ?_
      exact ⟨h', f', e', hp.trans (List.prefix_append _ _)⟩
theorem prefix_get {α : Type} {f g : List α} {s : Nat} {x : α} (h : f <+: g) (hs : f[s]? = some x) : g[s]? = some x := by
  refine el11 (h) fun t q50_1 => ?_
  subst q50_1
  (refine Eq.trans (List.getElem?_append_left (List.getElem?_eq_some_iff.mp hs).1 ..) ?_); exact hs
section
variable {rows : List Row} (good : ∀ r ∈ rows, GoodRow r)
include good
theorem right_of_flow {fs : FS} (h : flowAt rows rows.length = some fs) (hb : fs.blocks = []) (hl : fs.loops = []) :
    ∃ A, armsAt rows rows.length = some ([], A) /\ EndsOk rows A /\ Told rows /\ (∀ s, fs.doEnd s = endOf rows s) /\ FI rows rows.length fs A := by
  refine el11 (flowAt_FI good h) fun A I => ?_
  have hA := I.arms
  rw [hb] at hA
  have told : Told rows := fun i j h0 h1 => by
    have hi := labAt_lt h0
    have hj : j < rows.length := labAt_lt (by rw [<- h1]; exact h0)
    have a := (I.labels _ i).mpr ⟨hi, h0, rfl⟩
    have b := (I.labels (labAt rows i) j).mpr ⟨hj, h0, h1.symm⟩
    (replace b := Eq.trans (Eq.symm (a ..)) (b)); (replace b := Option.some.inj b; subst b); rfl
  have hdo : ∀ s t, doAt rows s = some t -> ∃ e, fs.doEnd s = some e /\ firstLab rows s t = some e := fun s t hs => by
    refine cpf fun rq => ?_
    rcases I.dos s t (doAt_lt hs) hs with ⟨a, hm⟩ | ⟨e, he⟩
    · rw [hl] at hm; cases hm
    · refine el04 (I.ends s e he) fun a b z72_2 _ => ?_
      obtain ⟨t', c1, c2, c3⟩ := z72_2
      (replace c1 := Eq.trans (Eq.symm (hs ..)) (c1)); (replace c1 := Option.some.inj c1; subst c1)
      refine rq ?_
      exact ⟨e, he, firstLab_eq told c2 a c3⟩
  have hend : ∀ s, fs.doEnd s = endOf rows s := fun s => by
    unfold endOf
    cases hd : doAt rows s with
    | none =>
      cases he : fs.doEnd s with
      | none => rfl
      | some e => obtain ⟨_, _, ⟨t', c1, _⟩, _⟩ := I.ends s e he; (replace c1 := Eq.trans (Eq.symm (hd ..)) (c1)); cases c1
    | some t =>
      refine el12 (hdo s t hd) fun e h1 h2 => ?_
      (refine Eq.trans (h1 ..) ?_); exact h2.symm
  refine ⟨A, hA, ⟨?_, ?_⟩, told, hend, I⟩
  · intro s t hs
    refine cpf fun rq => ?_
    refine el12 (hdo s t hs) fun e h1 h2 => ?_
    refine el05 (I.ends s e h1) fun a b z88_2 d _ => ?_
    obtain ⟨t', c1, c2, c3⟩ := z88_2
    refine rq ?_
    exact ⟨e, h2, lab_do good (by rw [c3]; exact c2), d⟩
  · intro s s' p p' hs hs' ⟨q1, q2, q3⟩
    rw [<- hend] at hs hs'
    refine cpf fun rq => ?_
    refine el05 (I.ends s p hs) fun _ _ _ _ g => ?_
    refine el04 (I.ends s' p' hs') fun _ _ z93_2 _ => ?_
    obtain ⟨t', c1, _⟩ := z93_2
    refine el12 (g s' q1 q2 (by rw [c1]; simp)) fun e' h4 h5 => ?_
    (replace h4 := Eq.trans (Eq.symm (hs' ..)) (h4)); cases h4; (exact om122 q3 h5)
theorem flow_of_right (hR : IsRight rows) : ∃ fs, flowAt rows rows.length = some fs /\ fs.blocks = [] /\ fs.loops = [] := by
  refine el13 (hR) fun A hA hE hT => ?_
  have step : ∀ i, i <= rows.length -> ∃ fs, flowAt rows i = some fs /\ ∀ x ∈ fs.loops, ∀ p, firstLab rows x.2.1 x.1 = some p -> i <= p := by
    intro i
    induction i with
    | zero => intro _; exact ⟨FS0, rfl, fun x hx => nomatch hx⟩
    | succ i ih =>
      intro hi
      refine el12 (ih (by (exact Nat.le_of_lt (by assumption)))) fun fs hfs hL => ?_
      refine el11 (flowAt_FI good hfs) fun f I => ?_
      have hr : rows[i]? = some rows[i] := List.getElem?_eq_getElem (by (assumption))
      generalize rows[i] = r at hr
      refine el22 (armsAt_pre hA (i + 1) hi) fun h1 f1 hA1 hp1 => ?_
      have hA2 := hA1
      rw [armsAt, I.arms, hr] at hA2
      have hA2 : armsStep rows i r.stm (heads fs.blocks) f = some (h1, f1) := hA2
      have hfA : f <+: A := by obtain ⟨x, rfl⟩ := armsStep_app hA2; exact (List.prefix_append _ _).trans hp1
      suffices ∃ fs', flowStep rows i r fs = some fs' /\ ∀ x ∈ fs'.loops, ∀ p, firstLab rows x.2.1 x.1 = some p -> i + 1 <= p by
        refine el12 (this) fun fs' h2 h3 => ?_
        exact ⟨fs', by rw [flowAt, hfs, hr]; exact h2, h3⟩
      have keep : r.lab = 0 -> ∀ x ∈ fs.loops, ∀ p, firstLab rows x.2.1 x.1 = some p -> i + 1 <= p := by
        intro h0 x hx p hp
        have h2 := hL x hx p hp
        by_cases q : p = i
        · subst q
          have h3 := (firstLab_some hp).2.2
          rw [labAt_some hr, h0] at h3
          exact absurd h3.symm (tgt_ne good (I.loops1 x hx).2.1)
        · (exact om123 q h2)
      have lab0 : r.stm ≠ .cont -> r.lab = 0 := fun h => Classical.byContradiction fun q => h (lab_cont good hr q)
      have arm : ∀ fin, (r.stm = .endif ↔ fin = true) -> (r.stm = .elif \/ r.stm = .els \/ r.stm = .endif) -> ∃ fs', armP rows i fin fs = some fs' /\ fs'.loops = fs.loops := by
        intro fin hf hs
        cases hb : fs.blocks with
        | nil => rw [hb] at hA2; rcases hs with hs | hs | hs <;> rw [hs] at hA2 <;> cases hA2
        | cons b bs =>
          induction b using List.casesOn with
          | nil => exact absurd rfl (I.ne [] (by rw [hb]; exact .head _))
          | cons a arms =>
            rw [hb] at hA2
            have hc : (elsAt rows a && !fin) = false := by
              induction fin using Bool.casesOn with
              | true => simp
              | false =>
                have hn : r.stm ≠ .endif := fun q => by have := hf.mp q; cases this
                cases c : elsAt rows a with
                | false => rfl
                | true =>
                  rcases hs with hs | hs | hs
                  · rw [hs] at hA2; simp [armsStep_3, heads, c] at hA2
                  · rw [hs] at hA2; simp [armsStep_5, heads, c] at hA2
                  · exact absurd hs hn
            simp only [armP, hb, hc, Bool.false_eq_true, if_false]
            induction fin using Bool.casesOn <;> exact ⟨_, rfl, rfl⟩
      cases hs : r.stm with
      | ifs => exact ⟨{ fs with blocks := [i] :: fs.blocks }, by simp only [flowStep, hs], keep (lab0 (by simp [hs]))⟩
      | elif =>
        refine el12 (arm false (by simp [hs]) (by simp [hs])) fun fs' h2 h3 => ?_
        exact ⟨fs', by simp only [flowStep, hs]; exact h2, by rw [h3]; exact keep (lab0 (by simp [hs]))⟩
      | els =>
        refine el12 (arm false (by simp [hs]) (by simp [hs])) fun fs' h2 h3 => ?_
        exact ⟨fs', by simp only [flowStep, hs]; exact h2, by rw [h3]; exact keep (lab0 (by simp [hs]))⟩
      | endif =>
        refine el12 (arm true (by simp [hs]) (by simp [hs])) fun fs' h2 h3 => ?_
        exact ⟨fs', by simp only [flowStep, hs]; exact h2, by rw [h3]; exact keep (lab0 (by simp [hs]))⟩
      | doo t =>
        refine ⟨{ fs with loops := (t, i, openArm fs.blocks) :: fs.loops }, by simp only [flowStep, hs], ?_⟩
        intro x hx p hp
        rcases List.mem_cons.mp hx with rfl | hx
        · exact (firstLab_some hp).1
        · exact keep (lab0 (by simp [hs])) x hx p hp
      | cont =>
        by_cases h0 : r.lab = 0
        · exact ⟨fs, by simp [flowStep, hs, h0], keep h0⟩
        · have hli : labAt rows i = r.lab := labAt_some hr
          have hlab : fs.labels r.lab = none := by
            cases q : fs.labels r.lab with
            | none => rfl
            | some p =>
              refine el03 ((I.labels _ _).mp q) fun a b c => ?_
              have := hT p i (by rw [c]; exact b) (by rw [c, hli])
              omega
          have hAi : A[i]? = some (heads fs.blocks) := by
            rw [hs] at hA2
            simp only [armsStep_9, Option.some.injEq, Prod.mk.injEq] at hA2
            refine prefix_get hp1 ?_
            rw [<- hA2.2]
            have := I.flen
            subst this
            simp
          have tgt : ∀ x ∈ fs.loops, x.1 = r.lab -> firstLab rows x.2.1 x.1 = some i := fun x hx hxl =>
            firstLab_eq hT (by rw [hxl]; exact h0) (I.loops1 x hx).1 (by rw [hli, hxl])
          cases he : endsGo r.lab i (openArm fs.blocks) fs.loops fs.doEnd fs.ending with
          | none =>
            refine el13 (endsGo_none he) fun x hx hx1 hx2 => ?_
            obtain ⟨a, b, c, h', d, g⟩ := I.loops1 x hx
            refine el13 (hE.each _ _ b) fun p e1 e2 e3 => ?_
            (replace e1 := Eq.trans (Eq.symm (tgt x hx hx1 ..)) (e1))
            cases e1
            rw [hAi, prefix_get hfA d] at e3
            cases e3
            exact absurd (g.trans (openArm_heads I.ne).symm) hx2
          | some y =>
            obtain ⟨L', d', e'⟩ := y
            refine el15 (endsGo_some he) fun pre hLL hpre hd' he' hhd => ?_
            refine ⟨{ fs with labels := upd fs.labels r.lab i, loops := L', doEnd := d', ending := e' }, by simp only [flowStep, hs, if_neg h0, hlab, Option.isSome_none, Bool.false_eq_true, if_false, he], ?_⟩
            intro x hx p hp
            have hx' : x ∈ fs.loops := by rw [hLL]; exact List.mem_append_right _ hx
            have h2 := hL x hx' p hp
            by_cases q : p = i
            · exfalso
              subst q
              have hxl : x.1 = r.lab := by (refine Eq.trans (?_) (hli ..)); exact (firstLab_some hp).2.2.symm
              induction L' using List.casesOn with
              | nil => cases hx
              | cons y L2 =>
                have hy := hhd y rfl
                have hy' : y ∈ fs.loops := by rw [hLL]; exact List.mem_append_right _ (.head _)
                have hne : x ≠ y := fun q => hy (by rw [<- q]; exact hxl)
                rcases List.mem_cons.mp hx with q | hx2
                · exact hne q
                · have hord : y.2.1 > x.2.1 := by
                    have := I.loops2
                    rw [hLL, List.map_append, List.pairwise_append] at this
                    have := this.2.1
                    rw [List.map_cons, List.pairwise_cons] at this
                    exact this.1 _ (List.mem_map_of_mem hx2)
                  refine el03 (I.loops1 y hy') fun a b _ => ?_
                  refine el12 (hE.each _ _ b) fun p' e1 _ => ?_
                  have h4 := hL y hy' p' e1
                  have h5 : p' ≠ p := fun q => hy (by rw [<- (firstLab_some e1).2.2, q, hli])
                  have b2 := (I.loops1 x hx').2.1
                  exact hE.cross x.2.1 y.2.1 p p' (by unfold endOf; rw [b2]; exact hp) (by unfold endOf; rw [b]; exact e1) ⟨hord, a, by (exact om124 h5 h4)⟩
            · (exact om123 q h2)
  refine el12 (step rows.length (Nat.le_refl _)) fun fs h1 h2 => ?_
  refine el11 (flowAt_FI good h1) fun f I => ?_
  refine ⟨fs, h1, ?_, ?_⟩
  · have := I.arms
    (replace this := Eq.trans (Eq.symm (hA ..)) (this))
    simp only [Option.some.injEq, Prod.mk.injEq] at this
    cases hb : fs.blocks with
    | nil => rfl
    | cons b bs =>
      induction b using List.casesOn with
      | nil => exact absurd rfl (I.ne [] (by rw [hb]; exact .head _))
      | cons a t => rw [hb] at this; have := this.1; simp [heads] at this
  · cases hl : fs.loops with
    | nil => rfl
    | cons x L =>
      have hx : x ∈ fs.loops := by rw [hl]; exact .head _
      refine el03 (I.loops1 x hx) fun a b _ => ?_
      refine el12 (hE.each _ _ b) fun p e1 _ => ?_
      have := h2 x hx p e1
      have := (firstLab_some e1).2.1
      (exact absurd (by assumption) (Nat.not_lt_of_le (by assumption)))
end
end Mine.PL
end
section
set_option tactic.hygienic false
open PySem Mine.Eqn
namespace Mine.PL
noncomputable section
structure AI (rows : List Row) (i : Nat) (fs : FS) : Prop where
  desc : fs.blocks.flatten.Pairwise (· > ·)
  lt : ∀ a ∈ fs.blocks.flatten, a < i /\ armAt rows a = true
  blk : ∀ d blk, fs.blocks[d]? = some blk -> ∀ post a pre, blk = post ++ a :: pre -> ahead rows a = aheadGo (rows.drop i) i d post.reverse /\ fs.blockEnd a = none /\ fs.nextArm a = post.getLast? /\ (post ≠ [] -> elsAt rows a = false)
  closed : ∀ a, a < i -> armAt rows a = true -> a ∈ fs.blocks.flatten \/ ∃ l, ahead rows a = some l /\ l ≠ [] /\ fs.blockEnd a = l.getLast? /\ fs.nextArm a = if elsAt rows a then none else l.head?
  keys : ∀ a, (fs.nextArm a ≠ none \/ fs.blockEnd a ≠ none) -> a < i /\ armAt rows a = true
theorem AI.zero (rows : List Row) : AI rows 0 FS0 where
  desc := List.Pairwise.nil
  lt := fun _ h => nomatch h
  blk := fun d blk h => nomatch h
  closed := fun a h => absurd h (by (exact om108))
  keys := fun a h => by rcases h with h | h <;> exact absurd rfl h
section
variable {rows : List Row} {i : Nat} {fs fs' : FS} {r : Row}
theorem drop_get (hr : rows[i]? = some r) : rows.drop i = r :: rows.drop (i + 1) := by
  obtain ⟨h, e⟩ := List.getElem?_eq_some_iff.mp hr
  rw [List.drop_eq_getElem_cons h, e]
theorem AI.keep (I : AI rows i fs) (hr : rows[i]? = some r) (hs : armAt rows i = false) (hgo : ∀ d f, aheadGo (r :: rows.drop (i + 1)) i d f = aheadGo (rows.drop (i + 1)) (i + 1) d f)
    (h1 : fs'.blocks = fs.blocks) (h2 : fs'.nextArm = fs.nextArm) (h3 : fs'.blockEnd = fs.blockEnd) : AI rows (i + 1) fs' where
  desc := by rw [h1]; exact I.desc
  lt := fun a h => by rw [h1] at h; have := I.lt a h; exact ⟨by omega, this.2⟩
  blk := fun d blk hb post a pre hp => by
    rw [h1] at hb
    rw [h2, h3]
    have := I.blk d blk hb post a pre hp
    rw [drop_get hr, hgo] at this
    exact this
  closed := fun a ha hm => by
    rw [h1, h2, h3]
    refine I.closed a ?_ hm
    by_cases q : a = i
    · subst q; (replace hm := Eq.trans (Eq.symm (hs ..)) (hm)); (exact Bool.noConfusion hm)
    · (exact om115 q ha)
  keys := fun a h => by rw [h2, h3] at h; have := I.keys a h; exact ⟨by omega, this.2⟩
theorem AI.step_if (I : AI rows i fs) (hr : rows[i]? = some r) (hs : r.stm = .ifs) (h1 : fs'.blocks = [i] :: fs.blocks) (h2 : fs'.nextArm = fs.nextArm) (h3 : fs'.blockEnd = fs.blockEnd) : AI rows (i + 1) fs' where
  desc := by
    rw [h1]
    refine List.Pairwise.cons ?_ I.desc
    intro a ha
    exact (I.lt a ha).1
  lt := fun a h => by
    rw [h1] at h
    rcases List.mem_cons.mp h with rfl | h
    · exact ⟨by (exact Nat.lt_succ_self _), by rw [armAt_some hr, hs]; rfl⟩
    · have := I.lt a h; exact ⟨by omega, this.2⟩
  blk := fun d blk hb post a pre hp => by
    rw [h1] at hb
    rw [h2, h3]
    induction d using Nat.casesOn with
    | zero =>
      simp at hb
      subst hb
      have hpost : post = [] := by
        induction post using List.casesOn with
        | nil => rfl
        | cons x y => have := congrArg List.length hp; simp at this
      subst hpost
      simp at hp
      obtain ⟨rfl, rfl⟩ := hp
      have kn : fs.nextArm i = none /\ fs.blockEnd i = none := by
        constructor
        · cases q : fs.nextArm i with
          | none => rfl
          | some x => have := (I.keys i (.inl (by rw [q]; simp))).1; (exact absurd (by assumption) (Nat.lt_irrefl _))
        · cases q : fs.blockEnd i with
          | none => rfl
          | some x => have := (I.keys i (.inr (by rw [q]; simp))).1; (exact absurd (by assumption) (Nat.lt_irrefl _))
      exact ⟨rfl, kn.2, kn.1, fun q => absurd rfl q⟩
    | succ d =>
      have hb : fs.blocks[d]? = some blk := by simpa using hb
      have := I.blk d blk hb post a pre hp
      rw [drop_get hr, show ∀ f, aheadGo (r :: rows.drop (i + 1)) i d f = aheadGo (rows.drop (i + 1)) (i + 1) (d + 1) f from fun f => by simp only [aheadGo_2, hs]] at this
      exact this
  closed := fun a ha hm => by
    rw [h1, h2, h3]
    by_cases q : a = i
    · subst q; exact .inl (.head _)
    · rcases I.closed a (by (exact om115 q ha)) hm with h | h
      · exact .inl (.tail _ h)
      · exact .inr h
  keys := fun a h => by rw [h2, h3] at h; have := I.keys a h; exact ⟨by omega, this.2⟩
theorem mem_blk {b : List (List Nat)} {d : Nat} {blk : List Nat} {x : Nat} (h : b[d]? = some blk) (hx : x ∈ blk) : x ∈ b.flatten :=
  List.mem_flatten.mpr ⟨blk, List.mem_of_getElem? h, hx⟩
theorem nextArm_none (I : AI rows i fs) {x : Nat} (hx : ¬ x < i) : fs.nextArm x = none /\ fs.blockEnd x = none := by
  constructor
  · cases q : fs.nextArm x with
    | none => rfl
    | some y => exact absurd (I.keys x (.inl (by rw [q]; simp))).1 hx
  · cases q : fs.blockEnd x with
    | none => rfl
    | some y => exact absurd (I.keys x (.inr (by rw [q]; simp))).1 hx
theorem AI.step_arm (I : AI rows i fs) (hr : rows[i]? = some r) (hs : r.stm = .elif \/ r.stm = .els) (h : armP rows i false fs = some fs') : AI rows (i + 1) fs' := by
  have hgo0 : ∀ f, aheadGo (r :: rows.drop (i + 1)) i 0 f = aheadGo (rows.drop (i + 1)) (i + 1) 0 (f ++ [i]) := fun f => by rw [aheadGo]; rcases hs with hs | hs <;> simp [hs]
  have hgo1 : ∀ d f, aheadGo (r :: rows.drop (i + 1)) i (d + 1) f = aheadGo (rows.drop (i + 1)) (i + 1) (d + 1) f := fun d f => by rw [aheadGo]; rcases hs with hs | hs <;> simp [hs]
  have hmi : armAt rows i = true := by (refine Eq.trans (armAt_some hr ..) ?_); rcases hs with hs | hs <;> rw [hs] <;> rfl
  cases hb : fs.blocks with
  | nil => simp [armP, hb] at h
  | cons b bs =>
    induction b using List.casesOn with
    | nil => simp [armP, hb] at h
    | cons a arms =>
      simp only [armP, hb] at h
      cases c : elsAt rows a with
      | true => simp [c] at h
      | false =>
        simp [c] at h
        have hdesc := I.desc
        rw [hb] at hdesc
        simp only [List.flatten_cons, List.cons_append, List.pairwise_cons] at hdesc
        have hlt : ∀ x ∈ fs.blocks.flatten, x < i := fun x q => (I.lt x q).1
        rw [<- h]
        constructor
        · show (((i :: a :: arms) :: bs).flatten).Pairwise _
          have hd := I.desc
          rw [hb] at hd hlt
          exact List.Pairwise.cons hlt hd
        · intro x hx
          have hx : x ∈ i :: ((a :: arms) :: bs).flatten := hx
          rw [<- hb] at hx
          rcases List.mem_cons.mp hx with rfl | hx
          · exact ⟨by (exact Nat.lt_succ_self _), hmi⟩
          · have := I.lt x hx; exact ⟨by omega, this.2⟩
        · intro d blk hbd post x pre hp
          simp only [upd]
          induction d using Nat.casesOn with
          | zero =>
            simp at hbd
            subst hbd
            induction post using List.casesOn with
            | nil =>
              simp at hp
              obtain ⟨rfl, rfl⟩ := hp
              have hai : ¬ i = a := by have := (I.lt a (by rw [hb]; exact .head _)).1; (exact Nat.ne_of_gt (by assumption))
              rw [if_neg hai]
              obtain ⟨e1, e2⟩ := nextArm_none I (x := i) (by (exact om125))
              exact ⟨rfl, e2, e1, fun q => absurd rfl q⟩
            | cons p post =>
              simp at hp
              obtain ⟨rfl, hp⟩ := hp
              have := I.blk 0 (a :: arms) (by rw [hb]; rfl) post x pre hp
              rw [drop_get hr, hgo0] at this
              obtain ⟨e1, e2, e3, e4⟩ := this
              refine ⟨by simpa using e1, e2, ?_, ?_⟩
              · by_cases q : x = a
                · subst q
                  (refine Eq.trans (if_pos rfl ..) ?_)
                  induction post using List.casesOn with
                  | nil => rfl
                  | cons y t =>
                    simp at hp
                    obtain ⟨rfl, hp⟩ := hp
                    have := hdesc.1 x (by rw [hp]; simp)
                    (exact absurd (by assumption) (Nat.lt_irrefl _))
                · (refine Eq.trans (if_neg q ..) (Eq.trans (e3 ..) ?_))
                  induction post using List.casesOn with
                  | nil => simp at hp; exact absurd hp.1.symm q
                  | cons y t => simp [List.getLast?_cons_cons]
              · intro _
                by_cases q : post = []
                · subst q; simp at hp; rw [<- hp.1]; exact c
                · exact e4 q
          | succ d =>
            have hbd : bs[d]? = some blk := by simpa using hbd
            have hbd' : fs.blocks[d + 1]? = some blk := by rw [hb]; simpa using hbd
            have := I.blk (d + 1) blk hbd' post x pre hp
            rw [drop_get hr, hgo1] at this
            obtain ⟨e1, e2, e3, e4⟩ := this
            have hxa : x ≠ a := by
              have hm : x ∈ bs.flatten := mem_blk hbd (by rw [hp]; simp)
              have := hdesc.1 x (List.mem_append_right _ hm)
              (exact Nat.ne_of_lt (by assumption))
            rw [if_neg hxa]
            exact ⟨e1, e2, e3, e4⟩
        · intro x hx hm
          simp only [upd]
          by_cases q : x = i
          · subst q; exact .inl (.head _)
          · rcases I.closed x (by (exact om115 q hx)) hm with h | h
            · exact .inl (by rw [hb] at h; exact .tail _ h)
            · refine .inr ?_
              by_cases q2 : x = a
              · exfalso
                obtain ⟨l, _, h2, h3, _⟩ := h
                have := (I.blk 0 (a :: arms) (by rw [hb]; rfl) [] a arms rfl).2.1
                rw [q2, this] at h3
                exact h2 (List.getLast?_eq_none_iff.mp h3.symm)
              · rw [if_neg q2]; exact h
        · intro x hx
          simp only [upd] at hx
          by_cases q2 : x = a
          · have := I.lt a (by rw [hb]; exact .head _)
            rw [q2]; exact ⟨by omega, this.2⟩
          · rw [if_neg q2] at hx
            have := I.keys x hx; exact ⟨by omega, this.2⟩
theorem AI.step_end (I : AI rows i fs) (hr : rows[i]? = some r) (hs : r.stm = .endif) (h : armP rows i true fs = some fs') : AI rows (i + 1) fs' := by
  have hgo0 : ∀ f, aheadGo (r :: rows.drop (i + 1)) i 0 f = some (f ++ [i]) := fun f => by rw [aheadGo, hs]
  have hgo1 : ∀ d f, aheadGo (r :: rows.drop (i + 1)) i (d + 1) f = aheadGo (rows.drop (i + 1)) (i + 1) d f := fun d f => by rw [aheadGo, hs]
  have hmi : armAt rows i = false := by rw [armAt_some hr, hs]; rfl
  cases hb : fs.blocks with
  | nil => simp [armP, hb] at h
  | cons b bs =>
    induction b using List.casesOn with
    | nil => simp [armP, hb] at h
    | cons a arms =>
      simp only [armP, hb, Bool.not_true, Bool.and_false, Bool.false_eq_true, if_false, if_true, Option.some.injEq] at h
      have hdesc := I.desc
      rw [hb] at hdesc
      simp only [List.flatten_cons] at hdesc
      rw [List.pairwise_append] at hdesc
      have hda := hdesc.1
      rw [List.pairwise_cons] at hda
      have hal : ∀ x ∈ a :: arms, x < i /\ armAt rows x = true := fun x q => I.lt x (by rw [hb]; exact List.mem_append_left _ q)
      have hna : ∀ x, x ≠ a -> (if elsAt rows a = true then fs.nextArm else upd fs.nextArm a i) x = fs.nextArm x := fun x q => by
        cases elsAt rows a
        · simp [upd, q]
        · simp
      rw [<- h]
      constructor
      · exact hdesc.2.1
      · intro x hx
        have := I.lt x (by rw [hb]; exact List.mem_append_right _ hx); exact ⟨by omega, this.2⟩
      · intro d blk hbd post x pre hp
        have hbd : bs[d]? = some blk := hbd
        have hbd' : fs.blocks[d + 1]? = some blk := by rw [hb]; simpa using hbd
        have := I.blk (d + 1) blk hbd' post x pre hp
        rw [drop_get hr, hgo1] at this
        obtain ⟨e1, e2, e3, e4⟩ := this
        have hm : x ∈ bs.flatten := mem_blk hbd (by rw [hp]; simp)
        have hxa : x ∉ a :: arms := fun q => by have := hdesc.2.2 x q x hm; (exact absurd (by assumption) (Nat.lt_irrefl _))
        refine ⟨e1, ?_, ?_, e4⟩
        · show (if x ∈ a :: arms then some i else fs.blockEnd x) = none
          (refine Eq.trans (if_neg hxa ..) ?_); exact e2
        · show (if elsAt rows a = true then fs.nextArm else upd fs.nextArm a i) x = _
          (refine Eq.trans (hna x (fun q => hxa (by rw [q]; exact .head _)) ..) ?_); exact e3
      · intro x hx hm
        have hxi : x ≠ i := fun q => by rw [q, hmi] at hm; cases hm
        show x ∈ bs.flatten \/ ∃ l, ahead rows x = some l /\ l ≠ [] /\ (if x ∈ a :: arms then some i else fs.blockEnd x) = l.getLast? /\ (if elsAt rows a = true then fs.nextArm else upd fs.nextArm a i) x = if elsAt rows x = true then none else l.head?
        by_cases q : x ∈ a :: arms
        · refine .inr ?_
          rw [if_pos q]
          obtain ⟨post, pre, hp⟩ := List.append_of_mem q
          have := I.blk 0 (a :: arms) (by rw [hb]; rfl) post x pre hp
          rw [drop_get hr, hgo0] at this
          obtain ⟨e1, e2, e3, e4⟩ := this
          refine ⟨_, e1, by simp, by simp, ?_⟩
          induction post using List.casesOn with
          | nil =>
            simp at hp
            obtain ⟨rfl, rfl⟩ := hp
            cases c : elsAt rows a with
            | true => simpa [c] using e3
            | false => simp [upd]
          | cons y t =>
            simp at hp
            obtain ⟨rfl, hp⟩ := hp
            have hxa : x ≠ a := by have := hda.1 x (by rw [hp]; simp); (exact Nat.ne_of_lt (by assumption))
            rw [hna x hxa, e3, e4 (by simp)]
            induction t using List.casesOn with
            | nil => simp
            | cons z u => simp [List.head?_append, List.head?_reverse, List.getLast?_cons]
        · rw [if_neg q]
          rcases I.closed x (by (exact om119 hx hxi)) hm with h | h
          · rw [hb] at h
            rcases List.mem_append.mp h with h | h
            · exact absurd h q
            · exact .inl h
          · refine .inr ?_
            rw [hna x (fun q2 => q (by rw [q2]; exact .head _))]
            exact h
      · intro x hx
        have hx : (if elsAt rows a = true then fs.nextArm else upd fs.nextArm a i) x ≠ none \/ (if x ∈ a :: arms then some i else fs.blockEnd x) ≠ none := hx
        by_cases q : x ∈ a :: arms
        · have := hal x q; exact ⟨by omega, this.2⟩
        · rw [if_neg q, hna x (fun q2 => q (by rw [q2]; exact .head _))] at hx
          have := I.keys x hx; exact ⟨by omega, this.2⟩
theorem AI.step (I : AI rows i fs) (hr : rows[i]? = some r) (h : flowStep rows i r fs = some fs') : AI rows (i + 1) fs' := by
  cases hs : r.stm with
  | ifs =>
    simp only [flowStep, hs, Option.some.injEq] at h
    subst h
    exact I.step_if hr hs rfl rfl rfl
  | elif => exact I.step_arm hr (.inl hs) (by simpa [flowStep, hs] using h)
  | els => exact I.step_arm hr (.inr hs) (by simpa [flowStep, hs] using h)
  | endif => exact I.step_end hr hs (by simpa [flowStep, hs] using h)
  | doo t =>
    simp only [flowStep, hs, Option.some.injEq] at h
    subst h
    exact I.keep hr (by rw [armAt_some hr, hs]; rfl) (fun d f => by simp only [aheadGo_2, hs]) rfl rfl rfl
  | cont =>
    have k1 : armAt rows i = false := by rw [armAt_some hr, hs]; rfl
    have k2 : ∀ d f, aheadGo (r :: rows.drop (i + 1)) i d f = aheadGo (rows.drop (i + 1)) (i + 1) d f := fun d f => by simp only [aheadGo_2, hs]
    simp only [flowStep, hs] at h
    by_cases h0 : r.lab = 0
    · (replace h := Eq.trans (Eq.symm (if_pos h0 ..)) (h)); cases h
      exact I.keep hr k1 k2 rfl rfl rfl
    · (replace h := Eq.trans (Eq.symm (if_neg h0 ..)) (h))
      cases hl : fs.labels r.lab with
      | some p => rw [hl] at h; simp at h
      | none =>
        rw [hl] at h
        simp only [Option.isSome_none, Bool.false_eq_true, if_false] at h
        cases he : endsGo r.lab i (openArm fs.blocks) fs.loops fs.doEnd fs.ending with
        | none => rw [he] at h; cases h
        | some y =>
          obtain ⟨L', d', e'⟩ := y
          rw [he] at h
          simp only [Option.some.injEq] at h
          subst h
          exact I.keep hr k1 k2 rfl rfl rfl
theorem flowAt_AI : ∀ {i : Nat} {fs : FS}, flowAt rows i = some fs -> AI rows i fs
  | 0, fs, h => by
    simp only [flowAt_1, Option.some.injEq] at h
    subst h
    exact AI.zero rows
  | i + 1, fs, h => by
    unfold flowAt at h
    cases h1 : flowAt rows i with
    | none => rw [h1] at h; cases h
    | some fs0 =>
      cases h2 : rows[i]? with
      | none => rw [h1, h2] at h; cases h
      | some r =>
        rw [h1, h2] at h
        exact (flowAt_AI h1).step h2 h
theorem arms_of_flow (h : flowAt rows rows.length = some fs) (hb : fs.blocks = []) (a : Nat) :
    (armAt rows a = false -> fs.nextArm a = none /\ fs.blockEnd a = none) /\
    (armAt rows a = true -> ∃ l, ahead rows a = some l /\ l ≠ [] /\ fs.blockEnd a = l.getLast? /\ fs.nextArm a = if elsAt rows a then none else l.head?) := by
  have I := flowAt_AI h
  constructor
  · intro ha
    constructor
    · cases q : fs.nextArm a with
      | none => rfl
      | some y => have := (I.keys a (.inl (by rw [q]; simp))).2; (replace this := Eq.trans (Eq.symm (ha ..)) (this)); cases this
    · cases q : fs.blockEnd a with
      | none => rfl
      | some y => have := (I.keys a (.inr (by rw [q]; simp))).2; (replace this := Eq.trans (Eq.symm (ha ..)) (this)); cases this
  · intro ha
    rcases I.closed a (armAt_lt ha) ha with h | h
    · rw [hb] at h; cases h
    · exact h
end
end
end Mine.PL
end
section
set_option tactic.hygienic false
open PySem Mine.Eqn
namespace Mine.PL
noncomputable section
section
variable {C : Calls} {R : Nat} {rows : List Row} {σ σ0 : Sto}
theorem ex_augd {n : Nat} {ls : Ls} {i : Nat} {op : Bo} {e : CE} {a b : Int} {v : V} {σ' σ'' : Sto} (h0 : ls[i]? = some (some (.int a))) (h1 : ev C n e ls none σ = some (.int b, σ')) (h2 : binV op (.int a) (.int b) σ' = some (v, σ'')) : ex C (n + 1) (.aug i op e) ls σ = some (.next (ls.set i (some v)) σ'') := by
  simp only [ex_aug, h0, h1, h2]
noncomputable abbrev A8 (a b c d e f : Option V) : Ls := [a, b, c, d, e, f, none, none]
noncomputable def aheadBody : List CS := match B_lawAhead with
  | [_, _, .forr _ _ b, _] => b
  | _ => []
noncomputable def aheadIn : List CS := match aheadBody with
  | [_, s] => [s]
  | _ => []
theorem ahead_step {a d j Fd : Nat} {f : List Nat} {r : Row} {rest : List Row} {l : List Nat} {b5 : Option V} (hR : Rw R rows σ) (hF : σ[Fd]? = some (.list (nums f))) (hE : Ext σ0 σ) (hn : σ0.length <= Fd) (hr : rows[j]? = some r) (hj : j < 1000) (hd : d < 1000) (hf : f.length < 1000)
    (hg : aheadGo (r :: rest) j d f = some l) :
    (∃ ls' σ', (exs (ex C 39) aheadBody (A8 (some (.lst R)) (some (.int a)) (some (.int d)) (some (.lst Fd)) (some (.int j)) b5) σ = some (.next ls' σ') \/ exs (ex C 39) aheadBody (A8 (some (.lst R)) (some (.int a)) (some (.int d)) (some (.lst Fd)) (some (.int j)) b5) σ = some (.cont ls' σ')) /\
      ∃ d' f' b5', d' <= d + 1 /\ f'.length <= f.length + 1 /\ ls' = A8 (some (.lst R)) (some (.int a)) (some (.int (d' : Nat))) (some (.lst Fd)) (some (.int j)) b5' /\ σ'[Fd]? = some (.list (nums f')) /\ Ext σ0 σ' /\ aheadGo rest (j + 1) d' f' = some l) \/
    (∃ o, exs (ex C 39) aheadBody (A8 (some (.lst R)) (some (.int a)) (some (.int d)) (some (.lst Fd)) (some (.int j)) b5) σ = some o /\ isStop o /\ ∃ m σ', o = .ret (.lst m) σ' /\ Ext σ0 σ' /\ σ'[m]? = some (.list (nums l))) := by
  have hw : ev C 38 (.idx (.idx (.idx (.var 0) (.var 4)) (.int 1)) (.int 0)) (A8 (some (.lst R)) (some (.int a)) (some (.int d)) (some (.lst Fd)) (some (.int j)) b5) none σ = some (.str (wv r.stm), σ) :=
    ev_word hR rfl (ev_v rfl) (ev_v rfl) hr (by (exact om181 hj))
  have e0 : exs (ex C 39) aheadBody (A8 (some (.lst R)) (some (.int a)) (some (.int d)) (some (.lst Fd)) (some (.int j)) b5) σ = exs (ex C 39) aheadIn (A8 (some (.lst R)) (some (.int a)) (some (.int d)) (some (.lst Fd)) (some (.int j)) (some (.str (wv r.stm)))) σ :=
    exs_next (ex_asg rfl hw)
  rw [e0]
  have t0 : ∀ w n, tst C (n + 3) (.cmp .eq (.var 5) (.str w)) (A8 (some (.lst R)) (some (.int a)) (some (.int d)) (some (.lst Fd)) (some (.int j)) (some (.str (wv r.stm)))) none σ = some (decide (wv r.stm = w), σ) := fun w n => tst_c (ev_v rfl) ev_s rfl
  have td : ∀ n, tst C (n + 3) (.cmp .eq (.var 2) (.int 0)) (A8 (some (.lst R)) (some (.int a)) (some (.int d)) (some (.lst Fd)) (some (.int j)) (some (.str (wv r.stm)))) none σ = some (decide ((d : Int) = 0), σ) := fun n => tst_c (ev_v rfl) ev_n rfl
  have arm : (wv r.stm = 1 \/ wv r.stm = 2) -> ∃ ls' σ', (exs (ex C 39) aheadIn (A8 (some (.lst R)) (some (.int a)) (some (.int d)) (some (.lst Fd)) (some (.int j)) (some (.str (wv r.stm)))) σ = some (.next ls' σ')) /\ ls' = A8 (some (.lst R)) (some (.int a)) (some (.int d)) (some (.lst Fd)) (some (.int j)) (some (.str (wv r.stm))) /\ σ'[Fd]? = some (.list (nums (if d = 0 then f ++ [j] else f))) /\ Ext σ0 σ' := by
    intro hw
    have n0 : tst C 38 (.cmp .eq (.var 5) (.str 0)) (A8 (some (.lst R)) (some (.int a)) (some (.int d)) (some (.lst Fd)) (some (.int j)) (some (.str (wv r.stm)))) none σ = some (false, σ) := by (refine Eq.trans (t0 0 35 ..) ?_); rcases hw with h | h <;> rw [h] <;> rfl
    have n3 : tst C 37 (.cmp .eq (.var 5) (.str 3)) (A8 (some (.lst R)) (some (.int a)) (some (.int d)) (some (.lst Fd)) (some (.int j)) (some (.str (wv r.stm)))) none σ = some (false, σ) := by (refine Eq.trans (t0 3 34 ..) ?_); rcases hw with h | h <;> rw [h] <;> rfl
    have nin : tst C 35 (.cmp .isin (.var 5) (.tup [.str 1, .str 2])) (A8 (some (.lst R)) (some (.int a)) (some (.int d)) (some (.lst Fd)) (some (.int j)) (some (.str (wv r.stm)))) none σ = some (true, σ) := by
      refine tst_c (ev_v rfl) (vb := .tup [.str 1, .str 2]) (by (refine Eq.trans (ev_tup ..) ?_); simp [Eqn.evs_1, Eqn.evs_2, ev_str]) ?_
      rcases hw with h | h <;> rw [h] <;> rfl
    have nand : tst C 36 (.and [.cmp .isin (.var 5) (.tup [.str 1, .str 2]), .cmp .eq (.var 2) (.int 0)]) (A8 (some (.lst R)) (some (.int a)) (some (.int d)) (some (.lst Fd)) (some (.int j)) (some (.str (wv r.stm)))) none σ = some (decide (d = 0), σ) := by
      (refine Eq.trans (tst_and ..) ?_)
      simp only [Eqn.allT_1, Eqn.allT_2, nin, td 32]
      by_cases h : d = 0 <;> simp [h]
    by_cases hd0 : d = 0
    · refine ⟨_, σ.set Fd (.list (nums f ++ [.int j])), ?_, rfl, ?_, hE.set hn⟩
      · refine exs_one ?_
        (refine Eq.trans (ex_if0 n0 ..) ?_)
        refine exs_one ?_
        (refine Eq.trans (ex_if0 n3 ..) ?_)
        refine exs_one ?_
        (refine Eq.trans (ex_if1 (by rw [nand]; simp [hd0]; rfl) ..) ?_)
        refine exs_one ?_
        refine ex_xp rfl (v := .none) ?_
        rw [ev_app, ev_v (v := .lst Fd) rfl]
        simp only [getL_of hF, ev_v (C := C) (n := 33) (ls := (A8 (some (.lst R)) (some (.int a)) (some (.int d)) (some (.lst Fd)) (some (.int j)) (some (.str (wv r.stm))))) (cv := none) (σ := σ) (i := 4) (v := .int j) rfl, Option.isSome_some, if_true]
        (exact (if_pos (by simp [nums]; show f.length < 4096; (exact om78 hf)) ..))
      · rw [if_pos hd0, get_set_eq hF]; simp [nums]
    · refine ⟨_, σ, ?_, rfl, by rw [if_neg hd0]; exact hF, hE⟩
      refine exs_one ?_
      (refine Eq.trans (ex_if0 n0 ..) ?_)
      refine exs_one ?_
      (refine Eq.trans (ex_if0 n3 ..) ?_)
      refine exs_one ?_
      exact ex_skip (by (refine Eq.trans (nand ..) ?_); simp [hd0])
  have other : (wv r.stm = 4 \/ wv r.stm = 5) -> exs (ex C 39) aheadIn (A8 (some (.lst R)) (some (.int a)) (some (.int d)) (some (.lst Fd)) (some (.int j)) (some (.str (wv r.stm)))) σ = some (.next (A8 (some (.lst R)) (some (.int a)) (some (.int d)) (some (.lst Fd)) (some (.int j)) (some (.str (wv r.stm)))) σ) := by
    intro hw
    have n0 : tst C 38 (.cmp .eq (.var 5) (.str 0)) (A8 (some (.lst R)) (some (.int a)) (some (.int d)) (some (.lst Fd)) (some (.int j)) (some (.str (wv r.stm)))) none σ = some (false, σ) := by (refine Eq.trans (t0 0 35 ..) ?_); rcases hw with h | h <;> rw [h] <;> rfl
    have n3 : tst C 37 (.cmp .eq (.var 5) (.str 3)) (A8 (some (.lst R)) (some (.int a)) (some (.int d)) (some (.lst Fd)) (some (.int j)) (some (.str (wv r.stm)))) none σ = some (false, σ) := by (refine Eq.trans (t0 3 34 ..) ?_); rcases hw with h | h <;> rw [h] <;> rfl
    have nin : tst C 35 (.cmp .isin (.var 5) (.tup [.str 1, .str 2])) (A8 (some (.lst R)) (some (.int a)) (some (.int d)) (some (.lst Fd)) (some (.int j)) (some (.str (wv r.stm)))) none σ = some (false, σ) := by
      refine tst_c (ev_v rfl) (vb := .tup [.str 1, .str 2]) (by (refine Eq.trans (ev_tup ..) ?_); simp [Eqn.evs_1, Eqn.evs_2, ev_str]) ?_
      rcases hw with h | h <;> rw [h] <;> rfl
    refine exs_one ?_
    (refine Eq.trans (ex_if0 n0 ..) ?_)
    refine exs_one ?_
    (refine Eq.trans (ex_if0 n3 ..) ?_)
    refine exs_one ?_
    refine ex_skip (σ' := σ) ?_
    (refine Eq.trans (tst_and ..) ?_)
    simp only [Eqn.allT_2, nin]
  cases hs : r.stm with
  | ifs =>
    refine .inl ⟨_, σ, .inl (?_ : _ = some (Out.next (A8 (some (.lst R)) (some (.int a)) (some (.int ((d + 1 : Nat) : Int))) (some (.lst Fd)) (some (.int j)) (some (.str (wv .ifs)))) σ)), d + 1, f, _, by (exact Nat.lt_succ_self _), by (exact Nat.le_succ _), rfl, hF, hE, by simpa [aheadGo_1, aheadGo_2, hs] using hg⟩
    have n0 := t0 0 35
    rw [hs] at n0
    refine exs_one ?_
    rw [ex_if1 n0]
    refine exs_one ?_
    exact ex_augd rfl ev_n (add_int (a := d) (b := 1) (σ := σ) (by (exact on15)) (by (exact om182 hd)) (by (decide)) (by (decide)))
  | elif =>
    refine el24 (arm (by rw [hs]; exact .inl rfl)) fun ls' σ' h1 h2 h3 h4 => ?_
    refine .inl ⟨ls', σ', .inl (by rw [<- hs]; exact h1), d, _, _, by (exact Nat.le_succ _), ?_, h2, h3, h4, ?_⟩
    · by_cases q : d = 0 <;> simp [q]
    · by_cases q : d = 0 <;> simpa [aheadGo_1, aheadGo_2, hs, q] using hg
  | els =>
    refine el24 (arm (by rw [hs]; exact .inr rfl)) fun ls' σ' h1 h2 h3 h4 => ?_
    refine .inl ⟨ls', σ', .inl (by rw [<- hs]; exact h1), d, _, _, by (exact Nat.le_succ _), ?_, h2, h3, h4, ?_⟩
    · by_cases q : d = 0 <;> simp [q]
    · by_cases q : d = 0 <;> simpa [aheadGo_1, aheadGo_2, hs, q] using hg
  | endif =>
    have n0 := t0 0 35
    have n3 := t0 3 34
    have nd := td 33
    rw [hs] at n0 n3 nd
    induction d using Nat.casesOn with
    | zero =>
      simp only [aheadGo_2, hs, Option.some.injEq] at hg
      subst hg
      refine .inr ⟨.ret (.lst (σ.length + 1)) (σ ++ [.list [.int j]] ++ [.list (nums f ++ [.int j])]), ?_, trivial, _, _, rfl, (hE.trans (Ext.app _ _)).trans (Ext.app _ _), ?_⟩
      · refine exs_one ?_
        rw [ex_if0 n0]
        refine exs_one ?_
        rw [ex_if1 n3]
        refine exs_retd ?_
        rw [ex_if1 nd]
        refine exs_one ?_
        refine ex_rt ?_
        have h1 : ev C 34 (.lst [.var 4]) (A8 (some (.lst R)) (some (.int a)) (some (.int ((0 : Nat) : Int))) (some (.lst Fd)) (some (.int j)) (some (.str (wv .endif)))) none σ = some (.lst σ.length, σ ++ [.list [.int j]]) := by
          (refine Eq.trans (ev_lst ..) ?_); simp [Eqn.evs_1, Eqn.evs_2, ev_var]
        refine ev_b (ev_v rfl) h1 ?_
        have hF' : getL (σ ++ [.list [.int j]]) Fd = some (nums f) := getL_of (get_app hF)
        have hN' : getL (σ ++ [.list [.int j]]) σ.length = some [.int j] := getL_of get_new
        simp only [Eqn.binV_2, catL, hF', hN']
        simp [nums]
        show f.length + 1 < 4096
        (exact om183 hf)
      · have : (σ ++ [AO.list [.int (j : Int)]]).length = σ.length + 1 := by simp
        rw [<- this, get_new]; simp [nums]
    | succ d =>
      refine .inl ⟨_, σ, .inl (?_ : _ = some (Out.next (A8 (some (.lst R)) (some (.int a)) (some (.int (d : Int))) (some (.lst Fd)) (some (.int j)) (some (.str (wv .endif)))) σ)), d, f, _, by (exact om11), by (exact Nat.le_succ _), rfl, hF, hE, by simpa [aheadGo_1, aheadGo_2, hs] using hg⟩
      refine exs_one ?_
      rw [ex_if0 n0]
      refine exs_one ?_
      rw [ex_if1 n3]
      have nd' : tst C 36 (.cmp .eq (.var 2) (.int 0)) (A8 (some (.lst R)) (some (.int a)) (some (.int ((d + 1 : Nat) : Int))) (some (.lst Fd)) (some (.int j)) (some (.str (wv .endif)))) none σ = some (false, σ) := by
        rw [nd, show decide (((d + 1 : Nat) : Int) = 0) = false from decide_eq_false (by (exact om184))]
      rw [exs_next (ex_skip nd')]
      refine exs_one ?_
      have := sub_int (a := ((d + 1 : Nat) : Int)) (b := 1) (σ := σ) (by (exact on16)) (by (exact om185 hd)) (by (decide)) (by (decide))
      rw [show (((d + 1 : Nat) : Int)) - 1 = (d : Int) by (exact om186)] at this
      exact ex_augd rfl ev_n this
  | doo t =>
    exact .inl ⟨_, σ, .inl (by rw [<- hs]; exact other (by rw [hs]; exact .inl rfl)), d, f, _, by (exact Nat.le_succ _), by (exact Nat.le_succ _), rfl, hF, hE, by simpa [aheadGo_1, aheadGo_2, hs] using hg⟩
  | cont =>
    exact .inl ⟨_, σ, .inl (by rw [<- hs]; exact other (by rw [hs]; exact .inr rfl)), d, f, _, by (exact Nat.le_succ _), by (exact Nat.le_succ _), rfl, hF, hE, by simpa [aheadGo_1, aheadGo_2, hs] using hg⟩
end
end
end Mine.PL
end
section
set_option tactic.hygienic false
open PySem Mine.Eqn
namespace Mine.PL
section
variable {C : Calls} {R : Nat} {rows : List Row} {σ σ0 : Sto}
theorem Ext.rw {R : Nat} {rows : List Row} {σ σ' : Sto} (h : Ext σ σ') (hR : Rw R rows σ) : Rw R rows σ' := h _ _ hR
theorem lawAhead_spec {a : Nat} {l : List Nat} (hR : Rw R rows σ) (hn : rows.length <= 100) (ha : a < rows.length) (hl : ahead rows a = some l) :
    ∃ m σ', runFn C F_lawAhead [.lst R, .int a] σ = some (.ok (.lst m) σ') /\ Ext σ σ' /\ σ'[m]? = some (.list (nums l)) := by
  have e1 : ex C 40 (.assign 2 (.int 0)) [some (.lst R), some (.int a), none, none, none, none, none, none] σ = some (.next [some (.lst R), some (.int a), some (.int 0), none, none, none, none, none] σ) := ex_asg rfl ev_n
  have e2 : ex C 40 (.assign 3 (.lst [])) [some (.lst R), some (.int a), some (.int 0), none, none, none, none, none] σ = some (.next (A8 (some (.lst R)) (some (.int a)) (some (.int 0)) (some (.lst σ.length)) none none) (σ ++ [.list []])) := ex_asg rfl (by (refine Eq.trans (ev_lst ..) ?_); rfl)
  have hE1 : Ext σ (σ ++ [.list []]) := Ext.app _ _
  have hF1 : (σ ++ [AO.list []])[σ.length]? = some (.list (nums [])) := get_new
  generalize (σ ++ [AO.list []]) = σ1 at *
  have hR1 := hE1.rw hR
  have hrng : ev C 39 (.range2 (.bin (.add) (.var 1) (.int 1)) (.len (.var 0))) (A8 (some (.lst R)) (some (.int a)) (some (.int 0)) (some (.lst σ.length)) none none) none σ1 = some (.rng ((a : Int) + 1) rows.length, σ1) := by
    have h1 : ev C 38 (.bin (.add) (.var 1) (.int 1)) (A8 (some (.lst R)) (some (.int a)) (some (.int 0)) (some (.lst σ.length)) none none) none σ1 = some (.int ((a : Int) + 1), σ1) := ev_b (ev_v rfl) ev_n (add_int (by (exact on15)) (by (exact om187 ha hn)) (by (decide)) (by (decide)))
    have h2 : ev C 38 (.len (.var 0)) (A8 (some (.lst R)) (some (.int a)) (some (.int 0)) (some (.lst σ.length)) none none) none σ1 = some (.int rows.length, σ1) := by
      rw [ev_l (ev_v rfl) hR1, List.length_map]
    rw [ev_range2, h1]
    simp only [h2, tiny_of (i := (a : Int) + 1) (by (exact on17)) (by (exact om188 ha hn)), tiny_of (i := (rows.length : Int)) (by (exact on15)) (by (exact om189 hn)), Bool.and_self, if_true]
  have loop := for_rule (C := C) (n := 39) (i := 4) (body := aheadBody) (fun k ls σ' => ∃ d f b4 b5, d <= k /\ f.length <= k /\ ls = A8 (some (.lst R)) (some (.int a)) (some (.int (d : Nat))) (some (.lst σ.length)) b4 b5 /\ σ'[σ.length]? = some (.list (nums f)) /\ Ext σ σ' /\ aheadGo (rows.drop (a + 1 + k)) (a + 1 + k) d f = some l)
    (fun o => ∃ m σ', o = .ret (.lst m) σ' /\ Ext σ σ' /\ σ'[m]? = some (.list (nums l))) hrng ⟨0, [], none, none, by (decide), by simp, rfl, hF1, hE1, hl⟩
    (fun k ls σ' hk hI => by
      refine el46 (hI) fun d f b4 b5 hd hf q27_6 hF hE hg => ?_
      subst q27_6
      have hlt : a + 1 + k < rows.length := by (exact om190 hk)
      have hr : rows[a + 1 + k]? = some rows[a + 1 + k] := List.getElem?_eq_getElem hlt
      rw [List.drop_eq_getElem_cons hlt] at hg
      have hi : ((a : Int) + 1 + (k : Int)) = ((a + 1 + k : Nat) : Int) := by (exact om191)
      rw [hi]
      rcases ahead_step (C := C) (a := a) (b5 := b5) (hE.rw hR) hF hE (Nat.le_refl _) hr (by omega) (by omega) (by omega) hg with ⟨ls', σ2, h1, d', f', b5', h2, h3, rfl, h4, h5, h6⟩ | h
      · exact .inl ⟨_, σ2, h1, d', f', _, _, by (exact om72 h2 hd), by (exact om72 h3 hf), rfl, h4, h5, h6⟩
      · exact .inr h)
  rcases loop with ⟨ls', σ', _, d, f, b4, b5, _, _, _, _, _, hg⟩ | ⟨o, h1, _, m, σ', rfl, hE, hm⟩
  · exfalso
    have : a + 1 + ((rows.length : Int) - ((a : Int) + 1)).toNat = rows.length := by (exact om194 ha)
    rw [this, List.drop_length] at hg
    cases hg
  · refine ⟨m, σ', runFn_ret rfl ?_, hE, hm⟩
    refine (exs_next e1).trans ?_
    (refine Eq.trans (exs_next e2 ..) ?_)
    exact exs_retd h1
end
end Mine.PL
end
section
set_option tactic.hygienic false
open PySem Mine.Eqn
namespace Mine.PL
noncomputable section
section
variable {C : Calls} {R : Nat} {rows : List Row} {σ σ0 σ1 σ2 : Sto} {n : Nat} {ls : Ls} {cv : Option V}
theorem ev_ml {e : CE} {m : Nat} {vs : List V} (h : ev C n e ls cv σ = some (.lst m, σ1)) (h2 : σ1[m]? = some (.list vs)) : ev C (n + 1) (.mklist e) ls cv σ = some (.lst σ1.length, σ1 ++ [.list vs]) := by
  rw [ev_mklist, h]
  simp only [getL_of h2, Option.map]
theorem ev_cut {e : CE} {m : Nat} {vs : List V} (h : ev C (n + 1) e ls cv σ = some (.lst m, σ1)) (h2 : σ1[m]? = some (.list vs)) : ev C (n + 2) (.slHi e (.int (-1))) ls cv σ = some (.lst σ1.length, σ1 ++ [.list vs.dropLast]) := by
  rw [ev_slHi, h]
  simp only [ev_int, getL_of h2, if_true]
theorem add_lst {a b : Nat} {us vs : List V} (h1 : σ[a]? = some (.list us)) (h2 : σ[b]? = some (.list vs)) (hl : us.length + vs.length < 4096) : binV .add (.lst a) (.lst b) σ = some (.lst σ.length, σ ++ [.list (us ++ vs)]) := by
  simp only [Eqn.binV_2, catL, getL_of h1, getL_of h2, Option.bind]
  exact if_pos hl
noncomputable def LL (m : Nat) (A : List (List Nat)) (σ : Sto) : Prop :=
  ∃ refs : List Nat, σ[m]? = some (.list (refs.map .lst)) /\ refs.length = A.length /\ ∀ (k x : Nat) (l : List Nat), refs[k]? = some x -> A[k]? = some l -> x ≠ m /\ σ[x]? = some (.list (nums l.reverse))
theorem LL.ext {m : Nat} {A : List (List Nat)} {σ σ' : Sto} (h : LL m A σ) (hE : Ext σ σ') : LL m A σ' := by
  refine el13 (h) fun refs h1 h2 h3 => ?_
  exact ⟨refs, hE _ _ h1, h2, fun k x l a b => ⟨(h3 k x l a b).1, hE _ _ (h3 k x l a b).2⟩⟩
theorem LL.snoc {m : Nat} {A : List (List Nat)} {σ : Sto} (h : LL m A σ) (l : List Nat) : ∃ us, σ[m]? = some (.list us) /\ us.length = A.length /\ LL m (A ++ [l]) (List.set (σ ++ [AO.list (nums l.reverse)]) m (.list (us ++ [.lst σ.length]))) := by
  refine el13 (h) fun refs h1 h2 h3 => ?_
  have hm := lt_of_get h1
  refine ⟨refs.map .lst, h1, by simpa using h2, refs ++ [σ.length], ?_, by simp [h2], ?_⟩
  · (refine Eq.trans (get_set_eq (get_app h1) ..) ?_); simp
  · intro k x l' a b
    by_cases hk : k < refs.length
    · (replace a := Eq.trans (Eq.symm (List.getElem?_append_left hk ..)) (a))
      (replace b := Eq.trans (Eq.symm (List.getElem?_append_left (by (exact om195 hk h2)) ..)) (b))
      refine el02 (h3 k x l' a b) fun h4 h5 => ?_
      exact ⟨h4, by (refine Eq.trans (get_set_ne (Ne.symm h4) ..) ?_); exact get_app h5⟩
    · have hk2 : k = refs.length := by
        have := (List.getElem?_eq_some_iff.mp a).1
        simp at this; (exact om126 hk this)
      subst hk2
      simp at a
      rw [h2] at b
      simp at b
      subst a; subst b
      exact ⟨by (exact Nat.ne_of_gt (by assumption)), by (refine Eq.trans (get_set_ne (by (exact Nat.ne_of_lt (by assumption))) ..) ?_); exact get_new⟩
noncomputable abbrev B8 (a b c d e : Option V) : Ls := [a, b, c, d, e, none, none, none]
noncomputable def armsBody : List CS := match B_lawArms with
  | [_, _, .forr _ _ b, _] => b
  | _ => []
noncomputable def armsS1 : CS := match armsBody with
  | [_, s, _, _] => s
  | _ => .cont
noncomputable def armsS2 : CS := match armsBody with
  | [_, _, s, _] => s
  | _ => .cont
noncomputable def armsS3 : CS := match armsBody with
  | [_, _, _, s] => s
  | _ => .cont
structure ArmsI (R Hp Fd : Nat) (rows : List Row) (σ0 : Sto) (h : List Nat) (f : List (List Nat)) (σ : Sto) : Prop where
  r : Rw R rows σ
  h : σ[Hp]? = some (.list (nums h.reverse))
  f : LL Fd f σ
  ne : Hp ≠ Fd
  ext : Ext σ0 σ
  fresh : σ0.length <= Fd
  rf : R ≠ Fd
theorem arms_s2 {Hp Fd j w : Nat} {h : List Nat} {f : List (List Nat)} (I : ArmsI R Hp Fd rows σ0 h f σ) (hl : f.length < 1000) :
    ∃ σ', ex C 39 armsS2 (B8 (some (.lst R)) (some (.lst Hp)) (some (.lst Fd)) (some (.int j)) (some (.str w))) σ = some (.next (B8 (some (.lst R)) (some (.lst Hp)) (some (.lst Fd)) (some (.int j)) (some (.str w))) σ') /\ ArmsI R Hp Fd rows σ0 h (f ++ [h]) σ' := by
  refine el13 (I.f.snoc h) fun us h1 h2 h3 => ?_
  have h4 : (σ ++ [AO.list (nums h.reverse)])[Fd]? = some (.list us) := get_app h1
  refine ⟨_, ex_xp rfl (ev_ap (ev_v rfl) h1 (ev_ml (ev_v rfl) I.h) h4 (by (exact om196 hl h2))), ?_, ?_, h3, I.ne, (I.ext.trans (Ext.app _ _)).set I.fresh, I.fresh, I.rf⟩
  · unfold Rw; (refine Eq.trans (get_set_ne (Ne.symm I.rf) ..) ?_); exact get_app I.r
  · (refine Eq.trans (get_set_ne (Ne.symm I.ne) ..) ?_); exact get_app I.h
theorem arms_s3 {Hp Fd j : Nat} {s : Stm} {h : List Nat} {f : List (List Nat)} (I : ArmsI R Hp Fd rows σ0 h f σ) (hl : h.length < 1000) :
    ∃ Hp' σ', ex C 39 armsS3 (B8 (some (.lst R)) (some (.lst Hp)) (some (.lst Fd)) (some (.int j)) (some (.str (wv s)))) σ = some (.next (B8 (some (.lst R)) (some (.lst Hp')) (some (.lst Fd)) (some (.int j)) (some (.str (wv s)))) σ') /\ ArmsI R Hp' Fd rows σ0 (if s.isArm then j :: h else h) f σ' := by
  have ht : tst C 38 (.cmp (.isin) (.var 4) (.tup [.str 0, .str 1, .str 2])) (B8 (some (.lst R)) (some (.lst Hp)) (some (.lst Fd)) (some (.int j)) (some (.str (wv s)))) none σ = some (s.isArm, σ) := by
    refine tst_c (ev_v rfl) (vb := .tup [.str 0, .str 1, .str 2]) (by (refine Eq.trans (ev_tup ..) ?_); simp [Eqn.evs_1, Eqn.evs_2, ev_str]) ?_
    induction s using Stm.casesOn <;> rfl
  cases hs : s.isArm with
  | false => exact ⟨Hp, σ, by rw [hs] at ht; exact ex_skip ht, by simpa using I⟩
  | true =>
    rw [hs] at ht
    have hFl : Fd < σ.length := lt_of_get I.f.choose_spec.1
    have hE1 : Ext σ (σ ++ [.list [.int j]]) := Ext.app _ _
    have hN : (σ ++ [AO.list [.int j]])[σ.length]? = some (.list [.int j]) := get_new
    have e1 : ev C 36 (.lst [.var 3]) (B8 (some (.lst R)) (some (.lst Hp)) (some (.lst Fd)) (some (.int j)) (some (.str (wv s)))) none σ = some (.lst σ.length, σ ++ [.list [.int j]]) := ev_l1 (ev_v rfl)
    have hl1 : (σ ++ [AO.list [.int (j : Int)]]).length = σ.length + 1 := by simp
    refine ⟨σ.length + 1, σ ++ [.list [.int j]] ++ [.list (nums h.reverse ++ [.int j])], ?_, (Ext.app _ _).rw (hE1.rw I.r), ?_, (I.f.ext hE1).ext (Ext.app _ _), by (exact om88 hFl), (I.ext.trans hE1).trans (Ext.app _ _), I.fresh, I.rf⟩
    · refine (ex_if1 ht).trans (exs_one ?_)
      refine ex_asg rfl (ev_b (ev_v rfl) e1 ?_)
      rw [add_lst (hE1 _ _ I.h) hN (by simp [nums]; (exact om183 hl)), hl1]
    · rw [<- hl1, get_new]; simp [nums]
theorem getLast_rev {h : List Nat} {t : Nat} : (nums (t :: h).reverse).getLast? = some (.int t) := by simp [nums]
noncomputable def armsPop (rows : List Row) (s : Stm) (h : List Nat) : Option (List Nat) := match s with
  | .ifs => some h
  | .doo _ => some h
  | .cont => some h
  | .endif => (match h with | [] => none | _ :: h' => some h')
  | _ => (match h with | [] => none | t :: h' => if elsAt rows t then none else some h')
theorem armsPop_1 {rows t h} : armsPop rows .elif (t :: h) = if elsAt rows t then none else some h := rfl
theorem armsPop_2 {rows t h} : armsPop rows .els (t :: h) = if elsAt rows t then none else some h := rfl
theorem arms_s1 {Hp Fd j : Nat} {r : Row} {h : List Nat} {f : List (List Nat)} (I : ArmsI R Hp Fd rows σ0 h f σ) (hlt : ∀ a ∈ h, a < rows.length) (hn : rows.length < 1000) (s : Stm) :
    match armsPop rows s h with
    | some h' => ∃ Hp' σ', ex C 39 armsS1 (B8 (some (.lst R)) (some (.lst Hp)) (some (.lst Fd)) (some (.int j)) (some (.str (wv s)))) σ = some (.next (B8 (some (.lst R)) (some (.lst Hp')) (some (.lst Fd)) (some (.int j)) (some (.str (wv s)))) σ') /\ ArmsI R Hp' Fd rows σ0 h' f σ'
    | none => ex C 39 armsS1 (B8 (some (.lst R)) (some (.lst Hp)) (some (.lst Fd)) (some (.int j)) (some (.str (wv s)))) σ = some (.ret .none σ) := by
  have skip : (wv s = 0 \/ wv s = 4 \/ wv s = 5) -> ex C 39 armsS1 (B8 (some (.lst R)) (some (.lst Hp)) (some (.lst Fd)) (some (.int j)) (some (.str (wv s)))) σ = some (.next (B8 (some (.lst R)) (some (.lst Hp)) (some (.lst Fd)) (some (.int j)) (some (.str (wv s)))) σ) := fun hw => by
    refine ex_skip (σ' := σ) (tst_c (n := 36) (ev_v rfl) (vb := .tup [.str 1, .str 2, .str 3]) (by (refine Eq.trans (ev_tup ..) ?_); simp [Eqn.evs_1, Eqn.evs_2, ev_str]) ?_)
    rcases hw with h | h | h <;> rw [h] <;> rfl
  have into : (wv s = 1 \/ wv s = 2 \/ wv s = 3) -> tst C 38 (.cmp (.isin) (.var 4) (.tup [.str 1, .str 2, .str 3])) (B8 (some (.lst R)) (some (.lst Hp)) (some (.lst Fd)) (some (.int j)) (some (.str (wv s)))) none σ = some (true, σ) := fun hw => by
    refine tst_c (ev_v rfl) (vb := .tup [.str 1, .str 2, .str 3]) (by (refine Eq.trans (ev_tup ..) ?_); simp [Eqn.evs_1, Eqn.evs_2, ev_str]) ?_
    rcases hw with h | h | h <;> rw [h] <;> rfl
  have hnot : tst C 36 (.not (.var 1)) (B8 (some (.lst R)) (some (.lst Hp)) (some (.lst Fd)) (some (.int j)) (some (.str (wv s)))) none σ = some (h.isEmpty, σ) := by
    have : tst C 35 (.var 1) (B8 (some (.lst R)) (some (.lst Hp)) (some (.lst Fd)) (some (.int j)) (some (.str (wv s)))) none σ = some (!h.isEmpty, σ) := by
      rw [tst_var, ev_v (v := .lst Hp) rfl]
      simp only [Eqn.truth_3, getL_of I.h, Option.map]
      induction h using List.casesOn <;> simp [nums]
    rw [tst_not, this]
    simp
  have empty : (wv s = 1 \/ wv s = 2 \/ wv s = 3) -> h = [] -> ex C 39 armsS1 (B8 (some (.lst R)) (some (.lst Hp)) (some (.lst Fd)) (some (.int j)) (some (.str (wv s)))) σ = some (.ret .none σ) := fun hw he => by
    subst he
    refine (ex_if1 (into hw)).trans ?_
    refine exs_retd ((ex_if1 (σ' := σ) ?_).trans (exs_one (ex_rt (v := .none) rfl)))
    (refine Eq.trans (tst_or ..) ?_)
    simp only [Eqn.anyT_1, Eqn.anyT_2, hnot]
    rfl
  have last : ∀ t h', h = t :: h' -> t < rows.length /\ idxV (.lst Hp) (.int (-1)) σ = some (.int t) := fun t h' he => by
    subst he
    refine ⟨hlt t (.head _), ?_⟩
    simp only [Eqn.idxV_1, atL, getL_of I.h, Option.bind]
    (refine Eq.trans (if_neg (by (decide)) ..) ?_)
    simp only [if_true]
    exact getLast_rev
  have test : ∀ t h', h = t :: h' -> tst C 37 (.or [.not (.var 1), .and [.cmp (.ne) (.var 4) (.str 3), .cmp (.eq) (.idx (.idx (.idx (.var 0) (.idx (.var 1) (.int (-1)))) (.int 1)) (.int 0)) (.str 2)]]) (B8 (some (.lst R)) (some (.lst Hp)) (some (.lst Fd)) (some (.int j)) (some (.str (wv s)))) none σ = some (!decide (wv s = 3) && elsAt rows t, σ) := fun t h' he => by
    refine el02 (last t h' he) fun h1 h2 => ?_
    have hr : rows[t]? = some rows[t] := List.getElem?_eq_getElem h1
    have a1 : tst C 35 (.cmp (.ne) (.var 4) (.str 3)) (B8 (some (.lst R)) (some (.lst Hp)) (some (.lst Fd)) (some (.int j)) (some (.str (wv s)))) none σ = some (!decide (wv s = 3), σ) := tst_c (ev_v rfl) ev_s rfl
    have a2 : tst C 35 (.cmp (.eq) (.idx (.idx (.idx (.var 0) (.idx (.var 1) (.int (-1)))) (.int 1)) (.int 0)) (.str 2)) (B8 (some (.lst R)) (some (.lst Hp)) (some (.lst Fd)) (some (.int j)) (some (.str (wv s)))) none σ = some (elsAt rows t, σ) := by
      refine tst_c (ev_word (n := 29) I.r rfl (ev_i (ev_v rfl) ev_n h2) (ev_v rfl) hr (by omega)) ev_s ?_
      rw [elsAt_some' hr]
      cases rows[t].stm <;> rfl
    subst he
    exact tst_or2 hnot (fun _ => tst_and2 a1 (fun _ => a2))
  have stop : ∀ t h', h = t :: h' -> (wv s = 1 \/ wv s = 2) -> elsAt rows t = true -> ex C 39 armsS1 (B8 (some (.lst R)) (some (.lst Hp)) (some (.lst Fd)) (some (.int j)) (some (.str (wv s)))) σ = some (.ret .none σ) := fun t h' he hw hc => by
    refine (ex_if1 (into (by (exact om198 hw)))).trans ?_
    refine exs_retd ((ex_if1 (σ' := σ) ?_).trans (exs_one (ex_rt (v := .none) rfl)))
    rw [test t h' he, hc]
    rcases hw with hw | hw <;> rw [hw] <;> rfl
  have cut : ∀ t h', h = t :: h' -> (wv s = 1 \/ wv s = 2 \/ wv s = 3) -> (!decide (wv s = 3) && elsAt rows t) = false -> ∃ Hp' σ', ex C 39 armsS1 (B8 (some (.lst R)) (some (.lst Hp)) (some (.lst Fd)) (some (.int j)) (some (.str (wv s)))) σ = some (.next (B8 (some (.lst R)) (some (.lst Hp')) (some (.lst Fd)) (some (.int j)) (some (.str (wv s)))) σ') /\ ArmsI R Hp' Fd rows σ0 h' f σ' := fun t h' he hw hc => by
    have hFl : Fd < σ.length := lt_of_get I.f.choose_spec.1
    have t1 := test t h' he
    rw [hc] at t1
    subst he
    refine ⟨σ.length, σ ++ [.list (nums (t :: h').reverse).dropLast], ?_, get_app I.r, ?_, I.f.ext (Ext.app _ _), by (exact Nat.ne_of_gt (by assumption)), I.ext.trans (Ext.app _ _), I.fresh, I.rf⟩
    · refine (ex_if1 (into hw)).trans ?_
      refine (exs_next (ex_skip t1)).trans ?_
      exact exs_one (ex_asg rfl (ev_cut (ev_v rfl) I.h))
    · (refine Eq.trans (get_new ..) ?_); simp [nums]
  induction s using Stm.casesOn with
  | ifs => exact ⟨Hp, σ, skip (.inl rfl), I⟩
  | doo t => exact ⟨Hp, σ, skip (.inr (.inl rfl)), I⟩
  | cont => exact ⟨Hp, σ, skip (.inr (.inr rfl)), I⟩
  | endif =>
    induction h using List.casesOn with
    | nil => exact empty (by simp [wv]) rfl
    | cons t h' => exact cut t h' rfl (by simp [wv]) (by simp [wv])
  | elif =>
    induction h using List.casesOn with
    | nil => exact empty (by simp [wv]) rfl
    | cons t h' =>
      cases hc : elsAt rows t with
      | true => simp only [armsPop_1, hc, if_true]; exact stop t h' rfl (by simp [wv]) hc
      | false => simp only [armsPop_1, hc]; exact cut t h' rfl (by simp [wv]) (by simp [hc])
  | els =>
    induction h using List.casesOn with
    | nil => exact empty (by simp [wv]) rfl
    | cons t h' =>
      cases hc : elsAt rows t with
      | true => simp only [armsPop_2, hc, if_true]; exact stop t h' rfl (by simp [wv]) hc
      | false => simp only [armsPop_2, hc]; exact cut t h' rfl (by simp [wv]) (by simp [hc])
end
end
end Mine.PL
end
section
set_option tactic.hygienic false
open PySem Mine.Eqn
namespace Mine.PL
section
variable {C : Calls} {R : Nat} {rows : List Row} {σ σ0 σ1 σ2 : Sto} {n : Nat} {ls : Ls} {cv : Option V}
theorem armsStep_pop (j : Nat) (s : Stm) (h : List Nat) (f : List (List Nat)) : armsStep rows j s h f = (armsPop rows s h).map fun h' => (if s.isArm then j :: h' else h', f ++ [h']) := by
  induction s using Stm.casesOn with
  | ifs => rfl
  | doo t => rfl
  | cont => rfl
  | endif => induction h using List.casesOn <;> rfl
  | elif =>
    induction h using List.casesOn with
    | nil => rfl
    | cons t h' => cases hc : elsAt rows t <;> simp [armsStep_3, armsPop_1, hc, isArm_2]
  | els =>
    induction h using List.casesOn with
    | nil => rfl
    | cons t h' => cases hc : elsAt rows t <;> simp [armsStep_5, armsPop_2, hc, isArm_3]
theorem armsPop_mem {s : Stm} {h h' : List Nat} (e : armsPop rows s h = some h') : (∀ x ∈ h', x ∈ h) /\ h'.length <= h.length := by
  induction s using Stm.casesOn with
  | ifs => cases e; exact ⟨fun _ q => q, Nat.le_refl _⟩
  | doo t => cases e; exact ⟨fun _ q => q, Nat.le_refl _⟩
  | cont => cases e; exact ⟨fun _ q => q, Nat.le_refl _⟩
  | endif =>
    induction h using List.casesOn with
    | nil => cases e
    | cons t r => cases e; exact ⟨fun _ q => .tail _ q, by simp⟩
  | elif =>
    induction h using List.casesOn with
    | nil => cases e
    | cons t r =>
      cases hc : elsAt rows t <;> simp [armsPop_1, hc] at e
      subst e; exact ⟨fun _ q => .tail _ q, by simp⟩
  | els =>
    induction h using List.casesOn with
    | nil => cases e
    | cons t r =>
      cases hc : elsAt rows t <;> simp [armsPop_2, hc] at e
      subst e; exact ⟨fun _ q => .tail _ q, by simp⟩
theorem arms_step {Hp Fd j : Nat} {r : Row} {h : List Nat} {f : List (List Nat)} {b4 : Option V} (I : ArmsI R Hp Fd rows σ0 h f σ) (hr : rows[j]? = some r) (hlt : ∀ a ∈ h, a < j) (hn : rows.length < 1000) (hfl : f.length = j) (hhl : h.length <= j) :
    match armsStep rows j r.stm h f with
    | some (h', f') => ∃ Hp' b4' σ', exs (ex C 39) armsBody (B8 (some (.lst R)) (some (.lst Hp)) (some (.lst Fd)) (some (.int j)) b4) σ = some (.next (B8 (some (.lst R)) (some (.lst Hp')) (some (.lst Fd)) (some (.int j)) b4') σ') /\ ArmsI R Hp' Fd rows σ0 h' f' σ' /\ (∀ a ∈ h', a < j + 1) /\ f'.length = j + 1 /\ h'.length <= j + 1
    | none => exs (ex C 39) armsBody (B8 (some (.lst R)) (some (.lst Hp)) (some (.lst Fd)) (some (.int j)) b4) σ = some (.ret .none σ) := by
  have hj := (List.getElem?_eq_some_iff.mp hr).1
  have hw : ex C 39 (.assign 4 (.idx (.idx (.idx (.var 0) (.var 3)) (.int 1)) (.int 0))) (B8 (some (.lst R)) (some (.lst Hp)) (some (.lst Fd)) (some (.int j)) b4) σ = some (.next (B8 (some (.lst R)) (some (.lst Hp)) (some (.lst Fd)) (some (.int j)) (some (.str (wv r.stm)))) σ) :=
    ex_asg rfl (ev_word I.r rfl (ev_v rfl) (ev_v rfl) hr (by (exact om199 hn hj)))
  have hS : armsBody = [.assign 4 (.idx (.idx (.idx (.var 0) (.var 3)) (.int 1)) (.int 0)), armsS1, armsS2, armsS3] := rfl
  have h1 := arms_s1 (C := C) (j := j) (r := r) I (fun a q => Nat.lt_trans (hlt a q) hj) hn r.stm
  rw [armsStep_pop, hS, exs_next hw]
  cases hp : armsPop rows r.stm h with
  | none =>
    rw [hp] at h1
    exact exs_retd h1
  | some h' =>
    rw [hp] at h1
    refine el22 (h1) fun Hp1 σ1 e1 I1 => ?_
    refine el02 (armsPop_mem hp) fun m1 m2 => ?_
    refine el12 (arms_s2 (C := C) (j := j) (w := wv r.stm) I1 (by (exact om200 hn hj hfl))) fun σ2 e2 I2 => ?_
    refine el22 (arms_s3 (C := C) (j := j) (s := r.stm) I2 (by (exact om201 hn hj hhl m2))) fun Hp3 σ3 e3 I3 => ?_
    refine ⟨Hp3, some (.str (wv r.stm)), σ3, ?_, I3, ?_, ?_, ?_⟩
    · (refine Eq.trans (exs_next e1 ..) (Eq.trans (exs_next e2 ..) ?_))
      exact exs_one e3
    · intro a ha
      cases hs : r.stm.isArm <;> rw [hs] at ha
      · have := hlt a (m1 a (by simpa using ha)); (exact Nat.lt_succ_of_lt (by assumption))
      · rcases List.mem_cons.mp ha with rfl | ha
        · (exact Nat.lt_succ_self _)
        · have := hlt a (m1 a ha); (exact Nat.lt_succ_of_lt (by assumption))
    · simp [hfl]
    · cases hs : r.stm.isArm <;> simp <;> omega
theorem armsAt_none {i : Nat} (h : armsAt rows i = none) : ∀ k, armsAt rows (i + k) = none
  | 0 => h
  | k + 1 => by
    have := armsAt_none h k
    rw [<- Nat.add_assoc]
    simp only [armsAt_2, this]
theorem lawArms_spec (hR : Rw R rows σ) (hn : rows.length <= 100) :
    (∃ A m σ', armsAt rows rows.length = some ([], A) /\ runFn C F_lawArms [.lst R] σ = some (.ok (.lst m) σ') /\ Ext σ σ' /\ LL m A σ' /\ A.length = rows.length) \/
    ((¬ ∃ A, armsAt rows rows.length = some ([], A)) /\ ∃ σ', runFn C F_lawArms [.lst R] σ = some (.ok .none σ') /\ Ext σ σ') := by
  have hRl := lt_of_get hR
  have e1 : ex C 40 (.assign 1 (.lst [])) (B8 (some (.lst R)) none none none none) σ = some (.next (B8 (some (.lst R)) (some (.lst σ.length)) none none none) (σ ++ [.list []])) := ex_asg rfl (by (refine Eq.trans (ev_lst ..) ?_); rfl)
  have hl1 : (σ ++ [AO.list []]).length = σ.length + 1 := by simp
  have e2 : ex C 40 (.assign 2 (.lst [])) (B8 (some (.lst R)) (some (.lst σ.length)) none none none) (σ ++ [.list []]) = some (.next (B8 (some (.lst R)) (some (.lst σ.length)) (some (.lst (σ.length + 1))) none none) (σ ++ [.list []] ++ [.list []])) := ex_asg rfl (by rw [ev_lst, <- hl1]; rfl)
  have I0 : ArmsI R σ.length (σ.length + 1) rows σ [] [] (σ ++ [.list []] ++ [.list []]) :=
    ⟨(Ext.app _ _).rw ((Ext.app _ _).rw hR), get_app get_new, ⟨[], by rw [<- hl1]; exact get_new, rfl, fun k x l q => by simp at q⟩, by (exact on21), (Ext.app _ _).trans (Ext.app _ _), by (exact Nat.le_succ _), by (exact om202 hRl)⟩
  generalize (σ ++ [AO.list []] ++ [AO.list []]) = σ1 at *
  generalize hFd : σ.length + 1 = Fd at *
  have hrng : ev C 39 (.range1 (.len (.var 0))) (B8 (some (.lst R)) (some (.lst σ.length)) (some (.lst Fd)) none none) none σ1 = some (.rng 0 rows.length, σ1) := by
    have h2 : ev C 38 (.len (.var 0)) (B8 (some (.lst R)) (some (.lst σ.length)) (some (.lst Fd)) none none) none σ1 = some (.int rows.length, σ1) := by
      rw [ev_l (ev_v rfl) I0.r, List.length_map]
    rw [ev_range1, h2]
    simp only [tiny_of (i := (rows.length : Int)) (by (exact on15)) (by (exact om189 hn)), if_true]
  have loop := for_rule (C := C) (n := 39) (i := 3) (body := armsBody) (fun k ls σ' => ∃ h f Hp b3 b4, armsAt rows k = some (h, f) /\ ls = B8 (some (.lst R)) (some (.lst Hp)) (some (.lst Fd)) b3 b4 /\ ArmsI R Hp Fd rows σ h f σ' /\ (∀ a ∈ h, a < k) /\ f.length = k /\ h.length <= k)
    (fun o => (∃ σ', o = .ret .none σ' /\ Ext σ σ') /\ armsAt rows rows.length = none) hrng ⟨[], [], σ.length, none, none, rfl, rfl, I0, by simp, rfl, Nat.le_refl _⟩
    (fun k ls σ' hk hI => by
      refine cpf fun rq => ?_
      refine el56 (hI) fun h f Hp b3 b4 ha q102_6 I h1 h2 h3 => ?_
      subst q102_6
      have hlt : k < rows.length := by (exact om203 hk)
      have hr : rows[k]? = some rows[k] := List.getElem?_eq_getElem hlt
      refine rq ?_
      generalize rows[k] = r at hr
      have hA : armsAt rows (k + 1) = armsStep rows k r.stm h f := by rw [armsAt, ha, hr]
      have st := arms_step (C := C) (b4 := b4) I hr h1 (by (exact om85 hn)) h2 h3
      rw [Int.zero_add]
      refine cpf fun rq => ?_
      cases hs : armsStep rows k r.stm h f with
      | none =>
        rw [hs] at st
        refine rq ?_
        refine .inr ⟨_, st, trivial, ⟨_, rfl, I.ext⟩, ?_⟩
        have := armsAt_none (hA.trans hs) (rows.length - (k + 1))
        (refine Eq.trans (?_) (this ..)); congr 1; (exact om204 hk)
      | some y =>
        obtain ⟨h', f'⟩ := y
        rw [hs] at st
        refine el35 (st) fun Hp' b4' σ2 e I' g1 g2 g3 => ?_
        refine rq ?_
        exact .inl ⟨_, σ2, .inl e, h', f', Hp', _, b4', hA.trans hs, rfl, I', g1, g2, g3⟩)
  refine cpf fun rq => ?_
  rcases loop with ⟨ls', σ', e3, h, f, Hp, b3, b4, ha, rfl, I, h1, h2, h3⟩ | ⟨o, e3, _, ⟨σ', rfl, hE⟩, hA⟩
  · have hk : ((rows.length : Int) - 0).toNat = rows.length := by (rfl)
    rw [hk] at ha h2
    have fin : ∀ v, ev C 39 (.ite (.not (.var 1)) (.var 2) (.none)) (B8 (some (.lst R)) (some (.lst Hp)) (some (.lst Fd)) b3 b4) none σ' = some (v, σ') -> runFn C F_lawArms [.lst R] σ = some (.ok v σ') := fun v hv => by
      refine runFn_ret rfl ?_
      refine (exs_next e1).trans ?_
      (refine Eq.trans (exs_next e2 ..) ?_)
      refine (exs_next e3).trans ?_
      exact exs_one (ex_rt hv)
    have ht : tst C 38 (.not (.var 1)) (B8 (some (.lst R)) (some (.lst Hp)) (some (.lst Fd)) b3 b4) none σ' = some (h.isEmpty, σ') := by
      have : tst C 37 (.var 1) (B8 (some (.lst R)) (some (.lst Hp)) (some (.lst Fd)) b3 b4) none σ' = some (!h.isEmpty, σ') := by
        rw [tst_var, ev_v (v := .lst Hp) rfl]
        simp only [Eqn.truth_3, getL_of I.h, Option.map]
        induction h using List.casesOn <;> simp [nums]
      rw [tst_not, this]
      simp
    induction h using List.casesOn with
    | nil =>
      refine rq ?_
      refine .inl ⟨f, Fd, σ', ha, fin _ ?_, I.ext, I.f, h2⟩
      rw [ev_ite, ht]
      exact ev_v rfl
    | cons t h' =>
      refine rq ?_
      refine .inr ⟨?_, σ', fin _ ?_, I.ext⟩
      · rintro ⟨A, hA⟩
        (replace hA := Eq.trans (Eq.symm (ha ..)) (hA))
        cases hA
      · rw [ev_ite, ht]
        rfl
  · refine rq ?_
    refine .inr ⟨?_, σ', ?_, hE⟩
    · rintro ⟨A, hA'⟩
      (replace hA' := Eq.trans (Eq.symm (hA ..)) (hA')); cases hA'
    · refine runFn_ret rfl ?_
      refine (exs_next e1).trans ?_
      (refine Eq.trans (exs_next e2 ..) ?_)
      exact exs_retd e3
end
end Mine.PL
end
section
set_option tactic.hygienic false
open PySem Mine.Eqn
namespace Mine.PL
noncomputable section
section
variable {C : Calls} {R : Nat} {rows : List Row} {σ σ0 σ1 σ2 : Sto} {n : Nat} {ls : Ls} {cv : Option V}
theorem putI_new {es : List (Int × V)} {k : Int} {v : V} (h : lookI es k = none) : putI es k v = es ++ [(k, v)] := by
  induction es with
  | nil => rfl
  | cons x r ih =>
    obtain ⟨k', v'⟩ := x
    by_cases hk : k' = k
    · simp [Eqn.lookI_2, hk] at h
    · simp [Eqn.lookI_2, hk] at h
      simp [Eqn.putI_2, hk, ih h]
theorem lookI_putI {es : List (Int × V)} {k k' : Int} {v : V} : lookI (putI es k v) k' = if k = k' then some v else lookI es k' := by
  induction es with
  | nil => simp [Eqn.putI_1, Eqn.lookI_1, Eqn.lookI_2]
  | cons x r ih =>
    obtain ⟨k2, v2⟩ := x
    by_cases h : k2 = k
    · subst h
      by_cases h2 : k2 = k' <;> simp [Eqn.putI_2, Eqn.lookI_2, h2]
    · by_cases h2 : k2 = k'
      · subst h2; simp [Eqn.putI_2, Eqn.lookI_2, h, Ne.symm h]
      · simp [Eqn.putI_2, Eqn.lookI_2, h, h2, ih]
noncomputable def dosTo (rows : List Row) (j : Nat) : List Nat := (List.range j).filter fun s => (doAt rows s).isSome
theorem dosTo_succ (j : Nat) : dosTo rows (j + 1) = dosTo rows j ++ (if (doAt rows j).isSome then [j] else []) := by
  unfold dosTo
  rw [List.range_succ, List.filter_append]
  cases h : (doAt rows j).isSome <;> simp [h]
theorem dosTo_mem {j s : Nat} : s ∈ dosTo rows j ↔ s < j /\ (doAt rows s).isSome = true := by simp [dosTo]
theorem dosTo_len (j : Nat) : (dosTo rows j).length <= j := by
  have := List.length_filter_le (fun s => (doAt rows s).isSome) (List.range j)
  simpa [dosTo] using this
noncomputable def endsEs (rows : List Row) (j : Nat) : List (Int × V) := (dosTo rows j).map fun (s : Nat) => ((s : Int), V.int ((endOf rows s).getD 0 : Nat))
theorem lookI_map {l : List Nat} {g : Nat -> V} {k : Nat} : lookI (l.map fun (s : Nat) => ((s : Int), g s)) (k : Int) = if k ∈ l then some (g k) else none := by
  induction l with
  | nil => rfl
  | cons x r ih =>
    by_cases h : x = k
    · subst h; simp [Eqn.lookI_2]
    · have h1 : ¬ (x : Int) = (k : Int) := by (exact om205 h)
      simp [Eqn.lookI_2, h1, ih, Ne.symm h]
theorem endsEs_look {j s : Nat} : lookI (endsEs rows j) (s : Int) = if s ∈ dosTo rows j then some (V.int ((endOf rows s).getD 0 : Nat)) else none := lookI_map
noncomputable def labV (rows : List Row) (t : Int) : V -> Bool
  | .int p => decide (labAt rows p.toNat = t)
  | _ => false
theorem places_eq (s : Nat) (t : Int) (hs : s < rows.length) : (rng ((s : Int) + 1) rows.length).filter (labV rows t) = ((List.range rows.length).filter fun p => decide (s < p) && labAt rows p == t).map fun (p : Nat) => V.int p := by
  have h1 : rows.length = (s + 1) + (rows.length - (s + 1)) := by (exact om206 hs)
  generalize rows.length - (s + 1) = m at h1
  have h2 : List.range rows.length = List.range (s + 1) ++ (List.range m).map ((s + 1) + ·) := by rw [h1, List.range_add]
  have h3 : rng ((s : Int) + 1) rows.length = ((List.range m).map ((s + 1) + ·)).map fun (p : Nat) => V.int p := by
    unfold rng
    have : ((rows.length : Int) - ((s : Int) + 1)).toNat = m := by (exact om207 h1)
    rw [this, List.map_map]
    refine List.map_congr_left fun x _ => ?_
    simp only [Function.comp]
    congr 1
  rw [h2, h3, List.filter_append, List.filter_map]
  have h4 : (List.range (s + 1)).filter (fun p => decide (s < p) && labAt rows p == t) = [] := by
    rw [List.filter_eq_nil_iff]
    intro p hp
    have := List.mem_range.mp hp
    have h : ¬ s < p := by (exact om208 this)
    simp [h]
  rw [h4, List.nil_append]
  congr 1
  refine List.filter_congr fun p hp => ?_
  refine el12 (List.mem_map.mp hp) fun x _ q83_2 => ?_
  subst q83_2
  simp only [Function.comp, labV, Int.toNat_natCast]
  have h : s < s + 1 + x := by (exact om209)
  simp [h]
  rfl
noncomputable abbrev E9 (a b d j p e f : Option V) : Ls := [a, b, d, j, p, e, f, none, none]
theorem comp_places {A D s : Nat} {t : Int} {r : Row} {b4 b5 b6 : Option V} (hR : Rw R rows σ) (hr : rows[s]? = some r) (hs : r.stm = .doo t) (hn : rows.length <= 100) :
    ev C 37 (.comp (.cv) (.range2 (.bin (.add) (.var 3) (.int 1)) (.len (.var 0))) [.cmp (.eq) (.idx (.idx (.var 0) (.cv)) (.int 0)) (.idx (.idx (.idx (.var 0) (.var 3)) (.int 1)) (.int 1))] false) (E9 (some (.lst R)) (some (.lst A)) (some (.dct D)) (some (.int s)) b4 b5 b6) none σ =
      some (.lst σ.length, σ ++ [.list (((List.range rows.length).filter fun p => decide (s < p) && labAt rows p == t).map fun (p : Nat) => V.int p)]) := by
  have hlt := (List.getElem?_eq_some_iff.mp hr).1
  have hit : ev C 36 (.range2 (.bin (.add) (.var 3) (.int 1)) (.len (.var 0))) (E9 (some (.lst R)) (some (.lst A)) (some (.dct D)) (some (.int s)) b4 b5 b6) none σ = some (.rng ((s : Int) + 1) rows.length, σ) := by
    have h1 : ev C 35 (.bin (.add) (.var 3) (.int 1)) (E9 (some (.lst R)) (some (.lst A)) (some (.dct D)) (some (.int s)) b4 b5 b6) none σ = some (.int ((s : Int) + 1), σ) := ev_b (ev_v rfl) ev_n (add_int (by (exact on15)) (by (exact om187 hlt hn)) (by (decide)) (by (decide)))
    have h2 : ev C 35 (.len (.var 0)) (E9 (some (.lst R)) (some (.lst A)) (some (.dct D)) (some (.int s)) b4 b5 b6) none σ = some (.int rows.length, σ) := by
      rw [ev_l (ev_v rfl) hR, List.length_map]
    rw [ev_range2, h1]
    simp only [h2, tiny_of (i := (s : Int) + 1) (by (exact on17)) (by (exact om188 hlt hn)), tiny_of (i := (rows.length : Int)) (by (exact on15)) (by (exact om189 hn)), Bool.and_self, if_true]
  have hc := compGo_map (chk := chkItems (.rng ((s : Int) + 1) rows.length) (rng ((s : Int) + 1) rows.length)) (conds := fun x τ => allT (fun e τ => tst C 36 e (E9 (some (.lst R)) (some (.lst A)) (some (.dct D)) (some (.int s)) b4 b5 b6) (some x) τ) [.cmp (.eq) (.idx (.idx (.var 0) (.cv)) (.int 0)) (.idx (.idx (.idx (.var 0) (.var 3)) (.int 1)) (.int 1))] τ)
    (elt := fun x τ => ev C 36 .cv (E9 (some (.lst R)) (some (.lst A)) (some (.dct D)) (some (.int s)) b4 b5 b6) (some x) τ) (σ := σ) (fun v => v) (labV rows t) (chk_rng' σ) (items := rng ((s : Int) + 1) rows.length) (acc := [])
    (fun x hx => by
      refine el11 (List.mem_iff_getElem?.mp hx) fun k hk => ?_
      refine el02 (rng_at hk) fun q106_0 hk2 => ?_
      subst q106_0
      have hp : s + 1 + k < rows.length := by (exact om190 hk2)
      have hrp : rows[s + 1 + k]? = some rows[s + 1 + k] := List.getElem?_eq_getElem hp
      have e0 : ((s : Int) + 1 + (k : Int)) = ((s + 1 + k : Nat) : Int) := by (exact om191)
      rw [e0]
      have h1 : ev C 34 (.idx (.idx (.var 0) (.cv)) (.int 0)) (E9 (some (.lst R)) (some (.lst A)) (some (.dct D)) (some (.int s)) b4 b5 b6) (some (.int ((s + 1 + k : Nat) : Int))) σ = some (.int (rows[s + 1 + k]).lab, σ) :=
        ev_lab hR (by (exact (ev_cv ..))) (ev_v rfl) hrp (by omega)
      have h2 : ev C 34 (.idx (.idx (.idx (.var 0) (.var 3)) (.int 1)) (.int 1)) (E9 (some (.lst R)) (some (.lst A)) (some (.dct D)) (some (.int s)) b4 b5 b6) (some (.int ((s + 1 + k : Nat) : Int))) σ = some (.int t, σ) :=
        ev_tgt hR (ev_v rfl) (ev_v rfl) hr hs (by omega)
      have h3 : tst C 36 (.cmp (.eq) (.idx (.idx (.var 0) (.cv)) (.int 0)) (.idx (.idx (.idx (.var 0) (.var 3)) (.int 1)) (.int 1))) (E9 (some (.lst R)) (some (.lst A)) (some (.dct D)) (some (.int s)) b4 b5 b6) (some (.int ((s + 1 + k : Nat) : Int))) σ = some (labV rows t (.int ((s + 1 + k : Nat) : Int)), σ) := by
        refine tst_c h1 h2 ?_
        simp only [labV, Int.toNat_natCast, labAt_some hrp, eqS_int]
      simp only [Eqn.allT_1, Eqn.allT_2, h3]
      cases labV rows t (.int ((s + 1 + k : Nat) : Int)) <;> rfl)
    (fun x _ _ => by (exact (ev_cv ..))) (by rw [rng_len]; simp; show _ <= 4096; (exact om212 hn))
  rw [ev_comp, hit]
  have hio : itemsOf (.rng ((s : Int) + 1) rows.length) σ = some (rng ((s : Int) + 1) rows.length) := rfl
  simp only [hio, Bool.false_and, Bool.false_eq_true, if_false, hc]
  rw [List.nil_append, places_eq s t hlt]
  simp
end
end
end Mine.PL
end
section
set_option tactic.hygienic false
open PySem Mine.Eqn
namespace Mine.PL
noncomputable section
section
variable {C : Calls} {R : Nat} {rows : List Row} {σ σ0 σ1 σ2 : Sto} {n : Nat} {ls : Ls} {cv : Option V}
theorem Ext.ll {m : Nat} {A : List (List Nat)} {σ σ' : Sto} (h : Ext σ σ') (hl : LL m A σ) : LL m A σ' := hl.ext h
theorem intsOf_nums (l : List Nat) : intsOf (nums l) = some (l.map fun (i : Nat) => (i : Int)) := by
  induction l with
  | nil => rfl
  | cons x r ih => simp only [nums, List.map_cons] at ih ⊢; simp [Eqn.intsOf_2, ih]
theorem map_cast_inj {a b : List Nat} : (a.map fun (i : Nat) => (i : Int)) = (b.map fun (i : Nat) => (i : Int)) ↔ a = b := by
  constructor
  · intro h
    exact (List.map_inj_right (fun x y h => by exact Int.ofNat.inj h)).mp h
  · rintro rfl; rfl
theorem eqLI_nums {a b : Nat} {l m : List Nat} (h1 : σ[a]? = some (.list (nums l))) (h2 : σ[b]? = some (.list (nums m))) : eqLI σ a b = some (decide (l = m)) := by
  simp only [eqLI, getL_of h1, getL_of h2, bind, Option.bind, intsOf_nums, pure]
  rw [decide_eq_decide.mpr map_cast_inj]
theorem arms_ne {m i j : Nat} {A : List (List Nat)} {ei ej : CE} (h : LL m A σ) (hi : i < A.length) (hj : j < A.length) (hA : A.length < 1000) (hv : ls[1]? = some (some (.lst m)))
    (h1 : ev C (n + 1) ei ls none σ = some (.int (i : Int), σ)) (h2 : ev C (n + 1) ej ls none σ = some (.int (j : Int), σ)) :
    tst C (n + 4) (.cmp .ne (.idx (.var 1) ei) (.idx (.var 1) ej)) ls none σ = some (!decide (A[i]? = A[j]?), σ) := by
  refine el13 (h) fun refs g1 g2 g3 => ?_
  have hi' : refs[i]? = some refs[i] := List.getElem?_eq_getElem (by (exact om116 hi g2))
  have hj' : refs[j]? = some refs[j] := List.getElem?_eq_getElem (by omega)
  have ai : A[i]? = some A[i] := List.getElem?_eq_getElem hi
  have aj : A[j]? = some A[j] := List.getElem?_eq_getElem hj
  have k1 := (g3 i _ _ hi' ai).2
  have k2 := (g3 j _ _ hj' aj).2
  refine tst_c (ev_i (ev_v hv) h1 (idx_lst g1 (v := .lst refs[i]) (by rw [List.getElem?_map, hi']; rfl) (by omega))) (ev_i (ev_v hv) h2 (idx_lst g1 (v := .lst refs[j]) (by rw [List.getElem?_map, hj']; rfl) (by omega))) ?_
  simp only [cmpV, Eqn.eqV_1, eqLI_nums k1 k2, Option.map, ai, aj, Option.some.injEq, List.reverse_inj]
noncomputable def endsBody1 : List CS := match B_lawEnds with
  | [_, .forr _ _ b, _, _] => b
  | _ => []
noncomputable def endsThen : List CS := match endsBody1 with
  | [.ite _ b _] => b
  | _ => []
noncomputable def endsBody2 : List CS := match B_lawEnds with
  | [_, _, .forr _ _ b, _] => b
  | _ => []
noncomputable def endsBody3 : List CS := match endsBody2 with
  | [.forr _ _ b] => b
  | _ => []
structure EndI (R A D : Nat) (rows : List Row) (Al : List (List Nat)) (σ0 : Sto) (j : Nat) (σ : Sto) : Prop where
  r : Rw R rows σ
  a : LL A Al σ
  d : σ[D]? = some (.dict (endsEs rows j))
  ext : Ext σ0 σ
  each : ∀ s t, s < j -> doAt rows s = some t -> ∃ p, firstLab rows s t = some p /\ doAt rows p = none /\ Al[p]? = Al[s]?
theorem head_some {l : List Nat} {p : Nat} (h : l.head? = some p) : ∃ r, l = p :: r := by
  induction l using List.casesOn with
  | nil => cases h
  | cons x r => cases h; exact ⟨r, rfl⟩
theorem ends_step {A D s : Nat} {Al : List (List Nat)} {r : Row} {b4 b5 b6 : Option V} (I : EndI R A D rows Al σ0 s σ) (hr : rows[s]? = some r) (hn : rows.length <= 100) (hA : Al.length = rows.length) (hD : σ0.length <= D) (ha : A < σ0.length) (hR0 : R < σ0.length) (hLL0 : LL A Al σ0) (hRw0 : Rw R rows σ0) :
    (∃ c4 σ', exs (ex C 39) endsBody1 (E9 (some (.lst R)) (some (.lst A)) (some (.dct D)) (some (.int s)) b4 b5 b6) σ = some (.next (E9 (some (.lst R)) (some (.lst A)) (some (.dct D)) (some (.int s)) c4 b5 b6) σ') /\ EndI R A D rows Al σ0 (s + 1) σ') \/
    ((∃ σ', exs (ex C 39) endsBody1 (E9 (some (.lst R)) (some (.lst A)) (some (.dct D)) (some (.int s)) b4 b5 b6) σ = some (.ret .none σ') /\ Ext σ0 σ') /\ ¬ EndsOk rows Al) := by
  have hlt := (List.getElem?_eq_some_iff.mp hr).1
  have hw : tst C 38 (.cmp (.eq) (.idx (.idx (.idx (.var 0) (.var 3)) (.int 1)) (.int 0)) (.str 4)) (E9 (some (.lst R)) (some (.lst A)) (some (.dct D)) (some (.int s)) b4 b5 b6) none σ = some (decide (wv r.stm = 4), σ) :=
    tst_c (ev_word I.r rfl (ev_v rfl) (ev_v rfl) hr (by (exact om214 hlt hn))) ev_s rfl
  by_cases h4 : wv r.stm = 4
  · obtain ⟨t, hs⟩ : ∃ t, r.stm = .doo t := by cases h : r.stm <;> rw [h] at h4 <;> simp [wv] at h4; exact ⟨_, rfl⟩
    have hdo : doAt rows s = some t := by rw [doAt_some hr, hs]
    rw [h4] at hw
    have hB : endsBody1 = [.ite (.cmp (.eq) (.idx (.idx (.idx (.var 0) (.var 3)) (.int 1)) (.int 0)) (.str 4)) endsThen []] := rfl
    rw [hB]
    have e4 : ex C 38 (.assign 4 (.comp (.cv) (.range2 (.bin (.add) (.var 3) (.int 1)) (.len (.var 0))) [.cmp (.eq) (.idx (.idx (.var 0) (.cv)) (.int 0)) (.idx (.idx (.idx (.var 0) (.var 3)) (.int 1)) (.int 1))] false)) (E9 (some (.lst R)) (some (.lst A)) (some (.dct D)) (some (.int s)) b4 b5 b6) σ = some (.next (E9 (some (.lst R)) (some (.lst A)) (some (.dct D)) (some (.int s)) (some (.lst σ.length)) b5 b6) (σ ++ [.list (((List.range rows.length).filter fun p => decide (s < p) && labAt rows p == t).map fun (p : Nat) => V.int p)])) :=
      ex_asg rfl (comp_places I.r hr hs hn)
    have hE1 : Ext σ (σ ++ [.list (((List.range rows.length).filter fun p => decide (s < p) && labAt rows p == t).map fun (p : Nat) => V.int p)]) := Ext.app _ _
    have hP1 : (σ ++ [AO.list (((List.range rows.length).filter fun p => decide (s < p) && labAt rows p == t).map fun (p : Nat) => V.int p)])[σ.length]? = some (.list (((List.range rows.length).filter fun p => decide (s < p) && labAt rows p == t).map fun (p : Nat) => V.int p)) := get_new
    generalize hτ : (σ ++ [AO.list (((List.range rows.length).filter fun p => decide (s < p) && labAt rows p == t).map fun (p : Nat) => V.int p)]) = τ at *
    have hPD : D < σ.length := lt_of_get I.d
    generalize hP : σ.length = P at *
    have hlen : ((List.range rows.length).filter fun p => decide (s < p) && labAt rows p == t).length <= 100 := by
      have := List.length_filter_le (fun p => decide (s < p) && labAt rows p == t) (List.range rows.length)
      simp only [List.length_range] at this; (exact om215 hn this)
    have hfl : firstLab rows s t = ((List.range rows.length).filter fun p => decide (s < p) && labAt rows p == t).head? := rfl
    generalize ((List.range rows.length).filter fun p => decide (s < p) && labAt rows p == t) = pl at *
    have hnot : tst C 36 (.not (.var 4)) (E9 (some (.lst R)) (some (.lst A)) (some (.dct D)) (some (.int s)) (some (.lst P)) b5 b6) none τ = some (pl.isEmpty, τ) := by
      have : tst C 35 (.var 4) (E9 (some (.lst R)) (some (.lst A)) (some (.dct D)) (some (.int s)) (some (.lst P)) b5 b6) none τ = some (!pl.isEmpty, τ) := by
        rw [tst_var, ev_v (v := .lst P) rfl]
        simp only [Eqn.truth_3, getL_of hP1, Option.map]
        induction pl using List.casesOn <;> simp
      rw [tst_not, this]
      simp
    have bad : tst C 37 (.or [.not (.var 4), .cmp (.eq) (.idx (.idx (.idx (.var 0) (.idx (.var 4) (.int 0))) (.int 1)) (.int 0)) (.str 4)]) (E9 (some (.lst R)) (some (.lst A)) (some (.dct D)) (some (.int s)) (some (.lst P)) b5 b6) none τ = some (true, τ) ->
        ∃ σ', exs (ex C 39) [.ite (.cmp (.eq) (.idx (.idx (.idx (.var 0) (.var 3)) (.int 1)) (.int 0)) (.str 4)) endsThen []] (E9 (some (.lst R)) (some (.lst A)) (some (.dct D)) (some (.int s)) b4 b5 b6) σ = some (.ret .none σ') /\ Ext σ0 σ' := fun ht => by
      refine ⟨τ, exs_one ((ex_if1 hw).trans ?_), I.ext.trans hE1⟩
      refine (exs_next e4).trans ?_
      exact exs_retd ((ex_if1 ht).trans (exs_one (ex_rt (v := .none) rfl)))
    refine cpf fun rq => ?_
    cases hpl : pl.head? with
    | none =>
      have hem : pl = [] := List.head?_eq_none_iff.mp hpl
      refine rq ?_
      refine .inr ⟨bad ?_, fun q => ?_⟩
      · refine (tst_or2 (y := true) hnot ?_).trans ?_
        · rw [hem]; intro q; cases q
        · rw [hem]; rfl
      · refine el12 (q.each s t hdo) fun p h1 _ => ?_
        rw [hfl, hpl] at h1; cases h1
    | some p =>
      refine el11 (head_some hpl) fun rest hre => ?_
      have hfp : firstLab rows s t = some p := hfl.trans hpl
      refine el03 (firstLab_some hfp) fun g1 g2 g3 => ?_
      have hrp : rows[p]? = some rows[p] := List.getElem?_eq_getElem g2
      have hi0 : ∀ n, ev C (n + 2) (.idx (.var 4) (.int 0)) (E9 (some (.lst R)) (some (.lst A)) (some (.dct D)) (some (.int s)) (some (.lst P)) b5 b6) none τ = some (.int p, τ) := fun n => by
        refine ev_i (ev_v rfl) ev_n ?_
        rw [hre] at hP1
        exact idx_lst (j := 0) hP1 rfl (by (decide))
      have htw : tst C 37 (.or [.not (.var 4), .cmp (.eq) (.idx (.idx (.idx (.var 0) (.idx (.var 4) (.int 0))) (.int 1)) (.int 0)) (.str 4)]) (E9 (some (.lst R)) (some (.lst A)) (some (.dct D)) (some (.int s)) (some (.lst P)) b5 b6) none τ = some ((doAt rows p).isSome, τ) := by
        have h2 : tst C 36 (.cmp (.eq) (.idx (.idx (.idx (.var 0) (.idx (.var 4) (.int 0))) (.int 1)) (.int 0)) (.str 4)) (E9 (some (.lst R)) (some (.lst A)) (some (.dct D)) (some (.int s)) (some (.lst P)) b5 b6) none τ = some ((doAt rows p).isSome, τ) := by
          refine tst_c (ev_word (hE1.rw I.r) rfl (hi0 29) (ev_v rfl) hrp (by omega)) ev_s ?_
          rw [doAt_some hrp]
          cases rows[p].stm <;> rfl
        refine (tst_or2 hnot (fun _ => h2)).trans ?_
        rw [hre]; rfl
      cases hdp : doAt rows p with
      | some t' =>
        rw [hdp] at htw
        refine rq ?_
        refine .inr ⟨bad htw, fun q => ?_⟩
        refine el13 (q.each s t hdo) fun p' h1 h2 _ => ?_
        (replace h1 := Eq.trans (Eq.symm (hfp ..)) (h1)); cases h1; (replace h2 := Eq.trans (Eq.symm (hdp ..)) (h2)); cases h2
      | none =>
        rw [hdp] at htw
        have hdD : τ[D]? = some (.dict (endsEs rows s)) := hE1 _ _ I.d
        have hnew : lookI (endsEs rows s) (s : Int) = none := by
          rw [endsEs_look, if_neg]
          intro q; have := (dosTo_mem.mp q).1; (exact absurd (by assumption) (Nat.lt_irrefl _))
        have hput : putI (endsEs rows s) (s : Int) (.int p) = endsEs rows (s + 1) := by
          (refine Eq.trans (putI_new hnew ..) ?_)
          unfold endsEs
          rw [dosTo_succ, hdo]
          simp [endOf, hdo, hfp]
        have hesl : (endsEs rows s).length <= 100 := by
          have := dosTo_len (rows := rows) s
          simp only [endsEs, List.length_map]; (exact om216 hlt hn this)
        have e6 : ex C 38 (.setIdx (.var 2) (.var 3) (.idx (.var 4) (.int 0))) (E9 (some (.lst R)) (some (.lst A)) (some (.dct D)) (some (.int s)) (some (.lst P)) b5 b6) τ = some (.next (E9 (some (.lst R)) (some (.lst A)) (some (.dct D)) (some (.int s)) (some (.lst P)) b5 b6) (τ.set D (.dict (endsEs rows (s + 1))))) := by
          refine ex_sidx (hi0 35) (ev_v rfl) (ev_v rfl) ?_
          simp only [Eqn.setV_2, getD_of hdD, bind, Option.bind, hput]
          exact if_pos (show (endsEs rows s).length < 4096 by (exact om217 hesl))
        have hE2 : Ext σ0 (τ.set D (.dict (endsEs rows (s + 1)))) := (I.ext.trans hE1).set hD
        have hPP : (τ.set D (.dict (endsEs rows (s + 1))))[P]? = some (.list (pl.map fun (p : Nat) => V.int p)) := by (refine Eq.trans (get_set_ne (by (exact Nat.ne_of_lt (by assumption))) ..) ?_); exact hP1
        have hDD : (τ.set D (.dict (endsEs rows (s + 1))))[D]? = some (.dict (endsEs rows (s + 1))) := get_set_eq hdD
        refine rq ?_
        generalize (τ.set D (.dict (endsEs rows (s + 1)))) = υ at *
        have hi1 : ev C 34 (.idx (.var 4) (.int 0)) (E9 (some (.lst R)) (some (.lst A)) (some (.dct D)) (some (.int s)) (some (.lst P)) b5 b6) none υ = some (.int p, υ) := by
          refine ev_i (ev_v rfl) ev_n ?_
          rw [hre] at hPP
          exact idx_lst (j := 0) hPP rfl (by (decide))
        have hta := arms_ne (C := C) (n := 33) (ls := (E9 (some (.lst R)) (some (.lst A)) (some (.dct D)) (some (.int s)) (some (.lst P)) b5 b6)) (hE2.ll hLL0) (i := p) (j := s) (ej := .var 3) (by omega) (by (exact om116 hlt hA)) (by (exact om219 hA hn)) rfl hi1 (ev_v rfl)
        have run : ∀ o, ex C 38 (.ite (.cmp (.ne) (.idx (.var 1) (.idx (.var 4) (.int 0))) (.idx (.var 1) (.var 3))) [.ret (.none)] []) (E9 (some (.lst R)) (some (.lst A)) (some (.dct D)) (some (.int s)) (some (.lst P)) b5 b6) υ = some o -> exs (ex C 39) [.ite (.cmp (.eq) (.idx (.idx (.idx (.var 0) (.var 3)) (.int 1)) (.int 0)) (.str 4)) endsThen []] (E9 (some (.lst R)) (some (.lst A)) (some (.dct D)) (some (.int s)) b4 b5 b6) σ = some o := fun o ho => by
          refine exs_one ((ex_if1 hw).trans ?_)
          refine (exs_next e4).trans ?_
          refine (exs_next (ex_skip htw)).trans ?_
          refine (exs_next e6).trans ?_
          exact exs_one ho
        by_cases hAA : Al[p]? = Al[s]?
        · refine .inl ⟨some (.lst P), υ, run _ (ex_skip (by (refine Eq.trans (hta ..) ?_); simp [hAA])), hE2.rw hRw0, hE2.ll hLL0, hDD, hE2, ?_⟩
          intro s' t' h1 h2
          by_cases q : s' = s
          · subst q; (replace h2 := Eq.trans (Eq.symm (hdo ..)) (h2)); cases h2; exact ⟨p, hfp, hdp, hAA⟩
          · exact I.each s' t' (by (exact om115 q h1)) h2
        · refine .inr ⟨⟨υ, run _ ((ex_if1 (σ' := υ) (by (refine Eq.trans (hta ..) ?_); simp [hAA])).trans (exs_one (ex_rt (v := .none) rfl))), hE2⟩, fun q => ?_⟩
          refine el13 (q.each s t hdo) fun p' h1 _ h3 => ?_
          (replace h1 := Eq.trans (Eq.symm (hfp ..)) (h1)); cases h1; exact hAA h3
  · have hdo : doAt rows s = none := by (refine Eq.trans (doAt_some hr ..) ?_); cases h : r.stm <;> rw [h] at h4 <;> simp [wv] at h4 ⊢
    refine .inl ⟨b4, σ, exs_one (ex_skip (by (refine Eq.trans (hw ..) ?_); simp [h4])), I.r, I.a, ?_, I.ext, ?_⟩
    · (refine Eq.trans (I.d ..) ?_)
      unfold endsEs
      rw [dosTo_succ, hdo]
      simp
    · intro s' t' h1 h2
      refine cpf fun rq => ?_
      by_cases q : s' = s
      · subst q; (replace h2 := Eq.trans (Eq.symm (hdo ..)) (h2)); cases h2
      · refine rq ?_
        exact I.each s' t' (by (exact om115 q h1)) h2
end
end
end Mine.PL
end
section
set_option tactic.hygienic false
open PySem Mine.Eqn
namespace Mine.PL
section
variable {C : Calls} {R : Nat} {rows : List Row} {σ σ0 σ1 σ2 : Sto} {n : Nat} {ls : Ls} {cv : Option V}
theorem for_dict {i : Nat} {it : CE} {body : List CS} {m : Nat} {es : List (Int × V)} (hp : pureSs body = true) (h : ev C n it ls none σ = some (.dct m, σ1)) (hd : σ1[m]? = some (.dict es)) :
    ex C (n + 1) (.forr i it body) ls σ = forGo (fun _ => true) (fun x ls σ => exs (ex C n) body (ls.set i (some x)) σ) (es.map fun p => .int p.1) ls σ1 := by
  rw [ex_forr, h]
  simp only [hp, if_true, getD_of hd]
theorem dict_rule {i : Nat} {it : CE} {body : List CS} {m : Nat} {l : List Nat} {es : List (Int × V)} (Inv : Nat -> Ls -> Sto -> Prop) (Fin : Out -> Prop) (hp : pureSs body = true) (h : ev C n it ls none σ = some (.dct m, σ1)) (hd : σ1[m]? = some (.dict es)) (hl : es.map (·.1) = l.map fun (s : Nat) => (s : Int)) (h0 : Inv 0 ls σ1)
    (hstep : ∀ (j s : Nat) ls σ, l[j]? = some s -> Inv j ls σ -> (∃ ls' σ', (exs (ex C n) body (ls.set i (some (.int s))) σ = some (.next ls' σ') \/ exs (ex C n) body (ls.set i (some (.int s))) σ = some (.cont ls' σ')) /\ Inv (j + 1) ls' σ') \/ (∃ o, exs (ex C n) body (ls.set i (some (.int s))) σ = some o /\ isStop o /\ Fin o)) :
    (∃ ls' σ', ex C (n + 1) (.forr i it body) ls σ = some (.next ls' σ') /\ Inv l.length ls' σ') \/ (∃ o, ex C (n + 1) (.forr i it body) ls σ = some o /\ isStop o /\ Fin o) := by
  rw [for_dict hp h hd]
  have hk : (es.map fun p => V.int p.1) = l.map fun (s : Nat) => V.int s := by
    rw [show (fun p : Int × V => V.int p.1) = V.int ∘ (fun p : Int × V => p.1) from rfl, <- List.map_map, hl, List.map_map]
    rfl
  rw [hk]
  have := forGo_rule (chk := fun _ => true) (step := fun x ls σ => exs (ex C n) body (ls.set i (some x)) σ) (items := l.map fun (s : Nat) => V.int s) Inv Fin (fun j x ls σ hx hI => by
    (replace hx := Eq.trans (Eq.symm (List.getElem?_map ..)) (hx))
    cases hj : l[j]? with
    | none => rw [hj] at hx; cases hx
    | some s =>
      rw [hj] at hx; cases hx
      exact ⟨rfl, hstep j s ls σ hj hI⟩) (fun ls σ _ => rfl) h0
  rw [List.length_map] at this
  exact this
theorem tst_chain {a b c d : CE} {i j k l : Int} (h1 : ev C n a ls none σ = some (.int i, σ)) (h2 : ev C n b ls none σ = some (.int j, σ)) (h3 : ev C n c ls none σ = some (.int k, σ)) (h4 : ev C n d ls none σ = some (.int l, σ)) :
    tst C (n + 1) (.chain a b c d) ls none σ = some (decide (i < j /\ j < k /\ k < l), σ) := by
  have e : tst C (n + 1) (.chain a b c d) ls none σ = match ev C n a ls none σ with
      | some (.int i, σ) => (match ev C n b ls none σ with
        | some (.int j, σ) => if i < j then (match ev C n c ls none σ with
          | some (.int k, σ) => if j < k then (match ev C n d ls none σ with
            | some (.int l, σ) => some (decide (k < l), σ)
            | _ => none) else some (false, σ)
          | _ => none) else some (false, σ)
        | _ => none)
      | _ => none := rfl
  rw [e, h1]
  simp only [h2, h3, h4]
  by_cases q1 : i < j
  · by_cases q2 : j < k
    · simp [q1, q2]
    · simp [q1, q2]
  · simp [q1]
theorem ends_cross {A D : Nat} {es : List (Int × V)} {l : List Nat} {g : Nat -> Nat} {b3 b4 b5 b6 : Option V} (hd : σ[D]? = some (.dict es)) (hl : es.map (·.1) = l.map fun (s : Nat) => (s : Int)) (hg : ∀ s ∈ l, lookI es (s : Int) = some (.int (g s : Nat))) :
    (∃ ls', ex C 40 (.forr 5 (.var 2) endsBody2) (E9 (some (.lst R)) (some (.lst A)) (some (.dct D)) b3 b4 b5 b6) σ = some (.next ls' σ) /\ ls'[2]? = some (some (.dct D)) /\ ∀ s ∈ l, ∀ s' ∈ l, ¬ (s < s' /\ s' < g s /\ g s < g s')) \/
    (ex C 40 (.forr 5 (.var 2) endsBody2) (E9 (some (.lst R)) (some (.lst A)) (some (.dct D)) b3 b4 b5 b6) σ = some (.ret .none σ) /\ ∃ s ∈ l, ∃ s' ∈ l, (s < s' /\ s' < g s /\ g s < g s')) := by
  have outer := dict_rule (C := C) (n := 39) (i := 5) (body := endsBody2) (fun j ls τ => τ = σ /\ (∃ b5 b6, ls = E9 (some (.lst R)) (some (.lst A)) (some (.dct D)) b3 b4 b5 b6) /\ ∀ i s, i < j -> l[i]? = some s -> ∀ s' ∈ l, ¬ (s < s' /\ s' < g s /\ g s < g s'))
    (fun o => o = .ret .none σ /\ ∃ s ∈ l, ∃ s' ∈ l, (s < s' /\ s' < g s /\ g s < g s')) rfl (ls := E9 (some (.lst R)) (some (.lst A)) (some (.dct D)) b3 b4 b5 b6) (it := .var 2) (σ := σ) (ev_v rfl) hd hl ⟨rfl, ⟨b5, b6, rfl⟩, fun i s h => by omega⟩
    (fun j s ls τ hj hI => by
      obtain ⟨rfl, ⟨b5, b6, rfl⟩, hI⟩ := hI
      have hs := List.mem_of_getElem? hj
      have inner := dict_rule (C := C) (n := 38) (i := 6) (body := endsBody3) (fun k ls υ => υ = τ /\ (∃ b6, ls = E9 (some (.lst R)) (some (.lst A)) (some (.dct D)) b3 b4 (some (.int s)) b6) /\ ∀ i s', i < k -> l[i]? = some s' -> ¬ (s < s' /\ s' < g s /\ g s < g s'))
        (fun o => o = .ret .none τ /\ ∃ s' ∈ l, (s < s' /\ s' < g s /\ g s < g s')) rfl (ls := E9 (some (.lst R)) (some (.lst A)) (some (.dct D)) b3 b4 (some (.int s)) b6) (it := .var 2) (σ := τ) (ev_v rfl) hd hl ⟨rfl, ⟨b6, rfl⟩, fun i s' h => by omega⟩
        (fun k s' ls υ hk hJ => by
          obtain ⟨rfl, ⟨b6, rfl⟩, hJ⟩ := hJ
          have hs' := List.mem_of_getElem? hk
          have ht : tst C 37 (.chain (.var 5) (.var 6) (.idx (.var 2) (.var 5)) (.idx (.var 2) (.var 6))) (E9 (some (.lst R)) (some (.lst A)) (some (.dct D)) b3 b4 (some (.int s)) (some (.int s'))) none υ = some (decide ((s : Int) < s' /\ (s' : Int) < g s /\ (g s : Int) < g s'), υ) :=
            tst_chain (ev_v rfl) (ev_v rfl) (ev_i (ev_v rfl) (ev_v rfl) (by simp only [Eqn.idxV_3, getD_of hd, Option.bind, hg s hs])) (ev_i (ev_v rfl) (ev_v rfl) (by simp only [Eqn.idxV_3, getD_of hd, Option.bind, hg s' hs']))
          by_cases q : s < s' /\ s' < g s /\ g s < g s'
          · rw [decide_eq_true (by (exact om220 q))] at ht
            exact .inr ⟨_, exs_one ((ex_if1 ht).trans (exs_one (ex_rt (v := .none) rfl))), trivial, rfl, s', hs', q⟩
          · rw [decide_eq_false (by (exact om221 q))] at ht
            refine .inl ⟨_, υ, .inl (exs_one (ex_skip ht)), rfl, ⟨_, rfl⟩, ?_⟩
            intro i s2 hi h2
            by_cases e : i = k
            · subst e; (replace h2 := Eq.trans (Eq.symm (hk ..)) (h2)); (replace h2 := Option.some.inj h2; subst h2); exact q
            · exact hJ i s2 (by (exact om115 e hi)) h2)
      rcases inner with ⟨ls', υ, e, rfl, ⟨b6, rfl⟩, hJ⟩ | ⟨o, e, h1, rfl, s', h2, h3⟩
      · refine .inl ⟨_, υ, .inl (exs_one e), rfl, ⟨_, _, rfl⟩, ?_⟩
        intro i s2 hi h2 s' hs'
        by_cases q : i = j
        · subst q; rw [hj] at h2; (replace h2 := Option.some.inj h2; subst h2)
          obtain ⟨k, hk⟩ := List.mem_iff_getElem?.mp hs'
          exact hJ k s' (List.getElem?_eq_some_iff.mp hk).1 hk
        · exact hI i s2 (by (exact om115 q hi)) h2 s' hs'
      · exact .inr ⟨_, exs_retd e, h1, rfl, s, hs, s', h2, h3⟩)
  rcases outer with ⟨ls', τ, e, rfl, ⟨b5, b6, rfl⟩, hI⟩ | ⟨o, e, h1, rfl, h2⟩
  · refine .inl ⟨_, e, rfl, ?_⟩
    intro s hs s' hs'
    refine el11 (List.mem_iff_getElem?.mp hs) fun k hk => ?_
    exact hI k s (List.getElem?_eq_some_iff.mp hk).1 hk s' hs'
  · exact .inr ⟨e, h2⟩
theorem endsEs_keys (j : Nat) : (endsEs rows j).map (·.1) = (dosTo rows j).map fun (s : Nat) => (s : Int) := by
  unfold endsEs; (refine Eq.trans (List.map_map ..) ?_); rfl
theorem lawEnds_spec {A : Nat} {Al : List (List Nat)} (hR : Rw R rows σ) (hn : rows.length <= 100) (hL : LL A Al σ) (hA : Al.length = rows.length) :
    (EndsOk rows Al /\ ∃ D σ', runFn C F_lawEnds [.lst R, .lst A] σ = some (.ok (.dct D) σ') /\ Ext σ σ' /\ σ'[D]? = some (.dict (endsEs rows rows.length))) \/
    (¬ EndsOk rows Al /\ ∃ σ', runFn C F_lawEnds [.lst R, .lst A] σ = some (.ok .none σ') /\ Ext σ σ') := by
  have hRl := lt_of_get hR
  have hAl : A < σ.length := lt_of_get hL.choose_spec.1
  have e1 : ex C 40 (.assign 2 .dict0) (E9 (some (.lst R)) (some (.lst A)) none none none none none) σ = some (.next (E9 (some (.lst R)) (some (.lst A)) (some (.dct σ.length)) none none none none) (σ ++ [.dict []])) := ex_asg rfl (by (exact (ev_dict0 ..)))
  have I0 : EndI R A σ.length rows Al σ 0 (σ ++ [.dict []]) :=
    ⟨(Ext.app _ _).rw hR, (Ext.app _ _).ll hL, get_new, Ext.app _ _, fun s t h => by omega⟩
  generalize (σ ++ [AO.dict []]) = σ1 at *
  generalize hD : σ.length = D at *
  have hrng : ev C 39 (.range1 (.len (.var 0))) (E9 (some (.lst R)) (some (.lst A)) (some (.dct D)) none none none none) none σ1 = some (.rng 0 rows.length, σ1) := by
    have h2 : ev C 38 (.len (.var 0)) (E9 (some (.lst R)) (some (.lst A)) (some (.dct D)) none none none none) none σ1 = some (.int rows.length, σ1) := by
      rw [ev_l (ev_v rfl) I0.r, List.length_map]
    rw [ev_range1, h2]
    simp only [tiny_of (i := (rows.length : Int)) (by (exact on15)) (by (exact om189 hn)), if_true]
  have loop := for_rule (C := C) (n := 39) (i := 3) (body := endsBody1) (fun k ls σ' => ∃ b3 b4, ls = E9 (some (.lst R)) (some (.lst A)) (some (.dct D)) b3 b4 none none /\ EndI R A D rows Al σ k σ')
    (fun o => (∃ σ', o = .ret .none σ' /\ Ext σ σ') /\ ¬ EndsOk rows Al) hrng ⟨none, none, rfl, I0⟩
    (fun k ls σ' hk hI => by
      refine cpf fun rq => ?_
      refine el22 (hI) fun b3 b4 q112_2 I => ?_
      subst q112_2
      have hlt : k < rows.length := by (exact om203 hk)
      have hr : rows[k]? = some rows[k] := List.getElem?_eq_getElem hlt
      refine rq ?_
      rw [Int.zero_add]
      rcases ends_step (C := C) (b4 := b4) (b5 := none) (b6 := none) I hr hn hA (by (exact on26 hD)) (by (exact om116 hAl hD)) (by (exact om116 hRl hD)) hL hR with ⟨c4, σ2, e, I'⟩ | ⟨⟨σ2, e, hE⟩, hne⟩
      · exact .inl ⟨_, σ2, .inl e, _, c4, rfl, I'⟩
      · exact .inr ⟨_, e, trivial, ⟨σ2, rfl, hE⟩, hne⟩)
  refine cpf fun rq => ?_
  rcases loop with ⟨ls', σ', e3, b3, b4, rfl, I⟩ | ⟨o, e3, _, ⟨σ', rfl, hE⟩, hne⟩
  · have hk : ((rows.length : Int) - 0).toNat = rows.length := by (rfl)
    rw [hk] at I
    have hend : ∀ s, s ∈ dosTo rows rows.length -> endOf rows s = some ((endOf rows s).getD 0) := fun s hs => by
      refine el02 (dosTo_mem.mp hs) fun h1 h2 => ?_
      cases hd : doAt rows s with
      | none => rw [hd] at h2; cases h2
      | some t =>
        refine el12 (I.each s t h1 hd) fun p h3 _ => ?_
        unfold endOf; rw [hd]
        show firstLab rows s t = some ((firstLab rows s t).getD 0)
        rw [h3]; rfl
    have hmem : ∀ s p, endOf rows s = some p -> s ∈ dosTo rows rows.length /\ (endOf rows s).getD 0 = p := fun s p hs => by
      refine ⟨?_, by rw [hs]; rfl⟩
      unfold endOf at hs
      cases hd : doAt rows s with
      | none => rw [hd] at hs; cases hs
      | some t => exact dosTo_mem.mpr ⟨doAt_lt hd, by rw [hd]; rfl⟩
    rcases ends_cross (C := C) (R := R) (A := A) (b3 := b3) (b4 := b4) (b5 := none) (b6 := none) I.d (endsEs_keys _) (g := fun s => (endOf rows s).getD 0) (fun s hs => by (exact Eq.trans (endsEs_look ..) ((if_pos hs ..)))) with ⟨ls', e, h2, hno⟩ | ⟨e, s, hs, s', hs', hc⟩
    · refine rq ?_
      refine .inl ⟨⟨fun s t h => I.each s t (doAt_lt h) h, ?_⟩, D, σ', runFn_ret rfl ?_, I.ext, I.d⟩
      · intro s s' p p' h3 h4 h5
        refine el02 (hmem s p h3) fun m1 g1 => ?_
        refine el02 (hmem s' p' h4) fun m2 g2 => ?_
        refine hno s m1 s' m2 ?_
        simp only [g1, g2]
        exact h5
      · refine (exs_next e1).trans ?_
        refine (exs_next e3).trans ?_
        refine (exs_next e).trans ?_
        exact exs_one (ex_rt (by rw [ev_var, h2]))
    · refine rq ?_
      refine .inr ⟨fun q => q.cross s s' _ _ (hend s hs) (hend s' hs') hc, σ', runFn_ret rfl ?_, I.ext⟩
      refine (exs_next e1).trans ?_
      refine (exs_next e3).trans ?_
      exact exs_retd e
  · refine rq ?_
    refine .inr ⟨hne, σ', runFn_ret rfl ?_, hE⟩
    refine (exs_next e1).trans ?_
    exact exs_retd e3
end
end Mine.PL
end
section
set_option tactic.hygienic false
open PySem Mine.Eqn
namespace Mine.PL
noncomputable section
structure DI (es : List (Int × V)) (f : Int -> Option V) : Prop where
  nd : (es.map (·.1)).Nodup
  look : ∀ k, lookI es k = f k
theorem lookI_none {es : List (Int × V)} {k : Int} : lookI es k = none ↔ k ∉ es.map (·.1) := by
  induction es with
  | nil => simp [Eqn.lookI_1]
  | cons x r ih =>
    obtain ⟨k', v⟩ := x
    by_cases h : k' = k
    · simp [Eqn.lookI_2, h]
    · simp [Eqn.lookI_2, h, Ne.symm h] at ih ⊢; exact ih
theorem putI_keys {es : List (Int × V)} {k : Int} {v : V} : (putI es k v).map (·.1) = if k ∈ es.map (·.1) then es.map (·.1) else es.map (·.1) ++ [k] := by
  induction es with
  | nil => simp [Eqn.putI_1]
  | cons x r ih =>
    obtain ⟨k', v'⟩ := x
    by_cases h : k' = k
    · simp [Eqn.putI_2, h]
    · simp only [Eqn.putI_2, h, if_false, List.map_cons, ih, List.mem_cons, Ne.symm h, false_or]
      split <;> simp
theorem DI.put {es : List (Int × V)} {f : Int -> Option V} (h : DI es f) (k : Int) (v : V) : DI (putI es k v) (upd f k v) where
  nd := by
    rw [putI_keys]
    split
    · exact h.nd
    · rename_i hk
      rw [List.nodup_append]
      exact ⟨h.nd, by simp, fun a ha b hb => by rw [List.mem_singleton] at hb; rintro rfl; exact hk (hb ▸ ha)⟩
  look := fun k' => by
    rw [lookI_putI, h.look]
    simp only [upd, eq_comm]
theorem putI_len {es : List (Int × V)} {k : Int} {v : V} : (putI es k v).length <= es.length + 1 := by
  induction es with
  | nil => simp [Eqn.putI_1]
  | cons x r ih =>
    obtain ⟨k', v'⟩ := x
    by_cases h : k' = k
    · simp [Eqn.putI_2, h]
    · simp [Eqn.putI_2, h]; exact ih
theorem DI.congr {es : List (Int × V)} {f g : Int -> Option V} (h : DI es f) (e : ∀ k, f k = g k) : DI es g := ⟨h.nd, fun k => (h.look k).trans (e k)⟩
noncomputable def iV (o : Option Nat) : Option V := o.map fun (x : Nat) => V.int x
noncomputable def liftN {β : Type} (f : Nat -> Option β) : Int -> Option β := fun i => if 0 <= i then f i.toNat else none
theorem liftN_nat {β : Type} (f : Nat -> Option β) (k : Nat) : liftN f (k : Int) = f k := by simp [liftN]
theorem liftN_upd {β : Type} (f : Nat -> Option β) (k : Nat) (v : β) (i : Int) : liftN (upd f k v) i = upd (liftN f) (k : Int) v i := by
  unfold liftN upd
  by_cases h : 0 <= i
  · by_cases h2 : i = (k : Int)
    · subst h2; simp
    · have : i.toNat ≠ k := by (exact om222 h h2)
      simp [h, h2, this]
  · have : i ≠ (k : Int) := by (exact om223 h)
    simp [h, this]
noncomputable def DN (es : List (Int × V)) (f : Nat -> Option Nat) : Prop := DI es (fun i => iV (liftN f i))
noncomputable def DL (es : List (Int × V)) (f : Int -> Option Nat) : Prop := DI es (fun i => iV (f i))
theorem DN.put {es : List (Int × V)} {f : Nat -> Option Nat} (h : DN es f) (k v : Nat) : DN (putI es (k : Int) (.int v)) (upd f k v) :=
  (DI.put h (k : Int) (.int v)).congr fun i => by
    rw [liftN_upd]
    simp only [upd]
    by_cases q : i = (k : Int)
    · simp [q, iV]
    · simp [q]
theorem DL.put {es : List (Int × V)} {f : Int -> Option Nat} (h : DL es f) (k : Int) (v : Nat) : DL (putI es k (.int v)) (upd f k v) :=
  (DI.put h k (.int v)).congr fun i => by
    simp only [upd]
    by_cases q : i = k
    · simp [q, iV]
    · simp [q]
noncomputable def oaI : Option Nat -> Int
  | none => -1
  | some a => a
theorem oaI_inj {a b : Option Nat} : oaI a = oaI b ↔ a = b := by
  induction a using Option.casesOn <;> induction b using Option.casesOn <;> simp [oaI] <;> (exact om224)
noncomputable def lpV (x : Lp) : V := .tup [.int x.1, .int x.2.1, .int (oaI x.2.2)]
structure FCore (n m : Nat) (σ0 : Sto) (fs : FS) (br : List Nat) (er : Nat -> Nat) (obj : Nat -> Option AO) (σ : Sto) : Prop where
  ext : Ext σ0 σ
  len : σ0.length = n
  fix : ∀ (j : Nat) (o : AO), obj j = some o -> σ[n + j]? = some o
  f : obj 5 = some (.attrs [n, n + 1, n + 2, n + 3, n + 4])
  d0 : ∃ es, obj 0 = some (.dict es) /\ DL es fs.labels /\ es.length <= m
  d1 : ∃ es, obj 1 = some (.dict es) /\ DN es fs.nextArm /\ es.length <= m
  d2 : ∃ es, obj 2 = some (.dict es) /\ DN es fs.blockEnd /\ es.length <= m
  d3 : ∃ es, obj 3 = some (.dict es) /\ DN es fs.doEnd /\ es.length <= m
  d4 : ∃ es, obj 4 = some (.dict es) /\ DI es (fun i => (liftN fs.ending i).map fun _ => V.lst (er i.toNat)) /\ es.length <= m
  bl : obj 6 = some (.list (br.reverse.map .lst))
  lp : obj 7 = some (.list (fs.loops.reverse.map lpV))
  el : ∀ (k : Nat) (l : List Nat), fs.ending k = some l -> n + 8 <= er k /\ er k ∉ br /\ σ[er k]? = some (.list (nums l)) /\ l.length <= m
  einj : ∀ k k', fs.ending k ≠ none -> fs.ending k' ≠ none -> er k = er k' -> k = k'
  blen : br.length = fs.blocks.length
  bnd : br.Nodup
  bge : ∀ x ∈ br, n + 8 <= x
  bs : ∀ (k x : Nat) (b : List Nat), br[k]? = some x -> fs.blocks[k]? = some b -> σ[x]? = some (.list (nums b.reverse))
  bne : ∀ b ∈ fs.blocks, b ≠ []
noncomputable def FInv (n m : Nat) (σ0 : Sto) (fs : FS) (br : List Nat) (er : Nat -> Nat) (σ : Sto) : Prop := ∃ obj, FCore n m σ0 fs br er obj σ
theorem ge_ne {n x j : Nat} (h : n + 8 <= x) (hj : j < 8) : x ≠ n + j := Nat.ne_of_gt (Nat.lt_of_lt_of_le (Nat.add_lt_add_left hj n) h)
theorem set_other (σ : Sto) (k : Nat) (o : AO) (i : Nat) (h : i ≠ k) : (σ.set k o)[i]? = σ[i]? := get_set_ne (Ne.symm h)
section
variable {n m : Nat} {σ0 σ : Sto} {fs : FS} {br : List Nat} {er : Nat -> Nat} {obj : Nat -> Option AO}
theorem FCore.lt (I : FCore n m σ0 fs br er obj σ) : n + 7 < σ.length := lt_of_get (I.fix 7 _ I.lp)
theorem FInv.ext (I : FInv n m σ0 fs br er σ) : Ext σ0 σ := let ⟨_, I⟩ := I; I.ext
theorem FInv.f (I : FInv n m σ0 fs br er σ) : σ[n + 5]? = some (.attrs [n, n + 1, n + 2, n + 3, n + 4]) := let ⟨_, I⟩ := I; I.fix 5 _ I.f
theorem FInv.d0 (I : FInv n m σ0 fs br er σ) : ∃ es, σ[n]? = some (.dict es) /\ DL es fs.labels /\ es.length <= m := let ⟨_, I⟩ := I; let ⟨es, a, b⟩ := I.d0; ⟨es, I.fix 0 _ a, b⟩
theorem FInv.d1 (I : FInv n m σ0 fs br er σ) : ∃ es, σ[n + 1]? = some (.dict es) /\ DN es fs.nextArm /\ es.length <= m := let ⟨_, I⟩ := I; let ⟨es, a, b⟩ := I.d1; ⟨es, I.fix 1 _ a, b⟩
theorem FInv.d2 (I : FInv n m σ0 fs br er σ) : ∃ es, σ[n + 2]? = some (.dict es) /\ DN es fs.blockEnd /\ es.length <= m := let ⟨_, I⟩ := I; let ⟨es, a, b⟩ := I.d2; ⟨es, I.fix 2 _ a, b⟩
theorem FInv.d3 (I : FInv n m σ0 fs br er σ) : ∃ es, σ[n + 3]? = some (.dict es) /\ DN es fs.doEnd /\ es.length <= m := let ⟨_, I⟩ := I; let ⟨es, a, b⟩ := I.d3; ⟨es, I.fix 3 _ a, b⟩
theorem FInv.d4 (I : FInv n m σ0 fs br er σ) : ∃ es, σ[n + 4]? = some (.dict es) /\ DI es (fun i => (liftN fs.ending i).map fun _ => V.lst (er i.toNat)) /\ es.length <= m := let ⟨_, I⟩ := I; let ⟨es, a, b⟩ := I.d4; ⟨es, I.fix 4 _ a, b⟩
theorem FInv.bl (I : FInv n m σ0 fs br er σ) : σ[n + 6]? = some (.list (br.reverse.map .lst)) := let ⟨_, I⟩ := I; I.fix 6 _ I.bl
theorem FInv.lp (I : FInv n m σ0 fs br er σ) : σ[n + 7]? = some (.list (fs.loops.reverse.map lpV)) := let ⟨_, I⟩ := I; I.fix 7 _ I.lp
theorem FInv.el (I : FInv n m σ0 fs br er σ) : ∀ (k : Nat) (l : List Nat), fs.ending k = some l -> n + 8 <= er k /\ er k ∉ br /\ σ[er k]? = some (.list (nums l)) /\ l.length <= m := let ⟨_, I⟩ := I; I.el
theorem FInv.blen (I : FInv n m σ0 fs br er σ) : br.length = fs.blocks.length := let ⟨_, I⟩ := I; I.blen
theorem FInv.bge (I : FInv n m σ0 fs br er σ) : ∀ x ∈ br, n + 8 <= x := let ⟨_, I⟩ := I; I.bge
theorem FInv.bs (I : FInv n m σ0 fs br er σ) : ∀ (k x : Nat) (b : List Nat), br[k]? = some x -> fs.blocks[k]? = some b -> σ[x]? = some (.list (nums b.reverse)) := let ⟨_, I⟩ := I; I.bs
theorem FInv.bne (I : FInv n m σ0 fs br er σ) : ∀ b ∈ fs.blocks, b ≠ [] := let ⟨_, I⟩ := I; I.bne
theorem le1 {α : Type} {l : List α} {m : Nat} (h : l.length <= m) : l.length <= m + 1 := Nat.le_succ_of_le h
theorem FCore.mono1 (I : FCore n m σ0 fs br er obj σ) : FCore n (m + 1) σ0 fs br er obj σ :=
  { I with
    d0 := let ⟨es, a, b, c⟩ := I.d0; ⟨es, a, b, le1 c⟩
    d1 := let ⟨es, a, b, c⟩ := I.d1; ⟨es, a, b, le1 c⟩
    d2 := let ⟨es, a, b, c⟩ := I.d2; ⟨es, a, b, le1 c⟩
    d3 := let ⟨es, a, b, c⟩ := I.d3; ⟨es, a, b, le1 c⟩
    d4 := let ⟨es, a, b, c⟩ := I.d4; ⟨es, a, b, le1 c⟩
    el := fun k l h => let ⟨a, b, c, d⟩ := I.el k l h; ⟨a, b, c, le1 d⟩ }
theorem FInv.mono (I : FInv n m σ0 fs br er σ) {m' : Nat} (h : m <= m') : FInv n m' σ0 fs br er σ := by
  induction h with
  | refl => exact I
  | step _ ih => exact let ⟨obj, I⟩ := ih; ⟨obj, I.mono1⟩
theorem FCore.of_ext {σ' : Sto} (I : FCore n m σ0 fs br er obj σ) (h : Ext σ σ') : FCore n m σ0 fs br er obj σ' :=
  { I with
    ext := I.ext.trans h
    fix := fun j o e => h _ _ (I.fix j o e)
    el := fun k l q => let ⟨a, b, c, d⟩ := I.el k l q; ⟨a, b, h _ _ c, d⟩
    bs := fun k x b h1 h2 => h _ _ (I.bs k x b h1 h2) }
theorem FInv.of_ext {σ' : Sto} (I : FInv n m σ0 fs br er σ) (h : Ext σ σ') : FInv n m σ0 fs br er σ' := let ⟨obj, I⟩ := I; ⟨obj, I.of_ext h⟩
theorem FInv.app (I : FInv n m σ0 fs br er σ) (τ : Sto) : FInv n m σ0 fs br er (σ ++ τ) := I.of_ext (Ext.app _ _)
theorem FInv.ge (I : FInv n m σ0 fs br er σ) : n + 8 <= σ.length := let ⟨_, I⟩ := I; I.lt
theorem fix_set (hf : ∀ (j : Nat) (o : AO), obj j = some o -> σ[n + j]? = some o) {A : Nat} (hA : n + A < σ.length) (o : AO) : ∀ (j : Nat) (o' : AO), upd obj A o j = some o' -> (σ.set (n + A) o)[n + j]? = some o' := fun j o' e => by
  by_cases h : j = A
  · subst h
    have e : some o = some o' := by simpa [upd] using e
    (replace e := Option.some.inj e; subst e)
    exact List.getElem?_set_self hA
  · (refine Eq.trans (set_other _ _ _ _ (fun q => h (Nat.add_left_cancel q)) ..) ?_)
    exact hf j o' (by simpa [upd, h] using e)
theorem ext_set (h : Ext σ0 σ) {A : Nat} (o : AO) : Ext σ0 (σ.set (σ0.length + A) o) := h.set (Nat.le_add_right _ _)
theorem at_set {x A : Nat} {o o' : AO} (h : n + 8 <= x) (hA : A < 8) (hx : σ[x]? = some o') : (σ.set (n + A) o)[x]? = some o' := (set_other _ _ _ _ (ge_ne h hA)).trans hx
theorem FCore.wr (I : FCore n m σ0 fs br er obj σ) {A : Nat} (hA : A < 8) (o : AO) : Ext σ0 (σ.set (n + A) o) /\ (∀ (j : Nat) (o' : AO), upd obj A o j = some o' -> (σ.set (n + A) o)[n + j]? = some o') /\
    (∀ (k : Nat) (l : List Nat), fs.ending k = some l -> n + 8 <= er k /\ er k ∉ br /\ (σ.set (n + A) o)[er k]? = some (.list (nums l)) /\ l.length <= m) /\ (∀ (k x : Nat) (b : List Nat), br[k]? = some x -> fs.blocks[k]? = some b -> (σ.set (n + A) o)[x]? = some (.list (nums b.reverse))) :=
  ⟨by have := ext_set I.ext (A := A) o; rw [I.len] at this; exact this, fix_set I.fix (Nat.lt_of_le_of_lt (Nat.add_le_add_left (Nat.le_of_lt_succ hA) n) I.lt) o,
    fun k l h => let ⟨a, b, c, d⟩ := I.el k l h; ⟨a, b, at_set a hA c, d⟩, fun k x b h1 h2 => at_set (I.bge x (List.mem_of_getElem? h1)) hA (I.bs k x b h1 h2)⟩
theorem put_le {es : List (Int × V)} {k : Int} {v : V} (h : es.length <= m) : (putI es k v).length <= m + 1 := Nat.le_trans putI_len (Nat.succ_le_succ h)
theorem same_es {es es' : List (Int × V)} (hf : ∀ (j : Nat) (o : AO), obj j = some o -> σ[n + j]? = some o) {j : Nat} (h : σ[n + j]? = some (.dict es)) (h' : obj j = some (.dict es')) : es' = es := by
  have := hf j _ h'
  (replace this := Eq.trans (Eq.symm (h ..)) (this))
  (replace this := Mine.AO.dict.inj (Option.some.inj this); subst this)
  rfl
theorem FInv.lab (I : FInv n m σ0 fs br er σ) {es : List (Int × V)} (h : σ[n]? = some (.dict es)) {l : Int} {i : Nat} :
    FInv n (m + 1) σ0 { fs with labels := upd fs.labels l i } br er (σ.set n (.dict (putI es l (.int i)))) := by
  refine el11 (I) fun obj I => ?_
  have J := I.mono1
  refine el04 (J.wr (A := 0) (by decide) (.dict (putI es l (.int i)))) fun w1 w2 w3 w4 => ?_
  refine el13 (I.d0) fun es' a b c => ?_
  obtain rfl := same_es I.fix (j := 0) h a
  exact ⟨upd obj 0 _, { J with ext := w1, fix := w2, el := w3, bs := w4, d0 := ⟨_, rfl, b.put l i, put_le c⟩ }⟩
theorem FInv.next (I : FInv n m σ0 fs br er σ) {es : List (Int × V)} (h : σ[n + 1]? = some (.dict es)) {a i : Nat} :
    FInv n (m + 1) σ0 { fs with nextArm := upd fs.nextArm a i } br er (σ.set (n + 1) (.dict (putI es a (.int i)))) := by
  refine el11 (I) fun obj I => ?_
  have J := I.mono1
  refine el04 (J.wr (A := 1) (by decide) (.dict (putI es a (.int i)))) fun w1 w2 w3 w4 => ?_
  refine el13 (I.d1) fun es' a' b c => ?_
  obtain rfl := same_es I.fix h a'
  exact ⟨upd obj 1 _, { J with ext := w1, fix := w2, el := w3, bs := w4, d1 := ⟨_, rfl, b.put a i, put_le c⟩ }⟩
theorem FInv.bend (I : FInv n m σ0 fs br er σ) {es : List (Int × V)} (h : σ[n + 2]? = some (.dict es)) {a i : Nat} :
    FInv n (m + 1) σ0 { fs with blockEnd := upd fs.blockEnd a i } br er (σ.set (n + 2) (.dict (putI es a (.int i)))) := by
  refine el11 (I) fun obj I => ?_
  have J := I.mono1
  refine el04 (J.wr (A := 2) (by decide) (.dict (putI es a (.int i)))) fun w1 w2 w3 w4 => ?_
  refine el13 (I.d2) fun es' a' b c => ?_
  obtain rfl := same_es I.fix h a'
  exact ⟨upd obj 2 _, { J with ext := w1, fix := w2, el := w3, bs := w4, d2 := ⟨_, rfl, b.put a i, put_le c⟩ }⟩
theorem FInv.dend (I : FInv n m σ0 fs br er σ) {es : List (Int × V)} (h : σ[n + 3]? = some (.dict es)) {a i : Nat} :
    FInv n (m + 1) σ0 { fs with doEnd := upd fs.doEnd a i } br er (σ.set (n + 3) (.dict (putI es a (.int i)))) := by
  refine el11 (I) fun obj I => ?_
  have J := I.mono1
  refine el04 (J.wr (A := 3) (by decide) (.dict (putI es a (.int i)))) fun w1 w2 w3 w4 => ?_
  refine el13 (I.d3) fun es' a' b c => ?_
  obtain rfl := same_es I.fix h a'
  exact ⟨upd obj 3 _, { J with ext := w1, fix := w2, el := w3, bs := w4, d3 := ⟨_, rfl, b.put a i, put_le c⟩ }⟩
theorem FInv.setL (I : FInv n m σ0 fs br er σ) (L : List Lp) : FInv n m σ0 { fs with loops := L } br er (σ.set (n + 7) (.list (L.reverse.map lpV))) := by
  refine el11 (I) fun obj I => ?_
  refine el04 (I.wr (A := 7) (by decide) (.list (L.reverse.map lpV))) fun w1 w2 w3 w4 => ?_
  exact ⟨upd obj 7 _, { I with ext := w1, fix := w2, el := w3, bs := w4, lp := rfl }⟩
theorem FInv.close (I : FInv n m σ0 fs br er σ) {b : List Nat} {bs : List (List Nat)} {x : Nat} {br' : List Nat} (hb : fs.blocks = b :: bs) (hx : br = x :: br') :
    FInv n m σ0 { fs with blocks := bs } br' er (σ.set (n + 6) (.list (br'.reverse.map .lst))) := by
  refine el11 (I) fun obj I => ?_
  refine el04 (I.wr (A := 6) (by decide) (.list (br'.reverse.map .lst))) fun w1 w2 w3 w4 => ?_
  have hnd := I.bnd
  have hbl := I.blen
  rw [hx, List.nodup_cons] at hnd
  rw [hb, hx] at hbl
  exact ⟨upd obj 6 _, { I with ext := w1, fix := w2, bl := rfl, blen := Nat.succ.inj hbl, bnd := hnd.2
                               el := fun k l h => let ⟨a, b, c, d⟩ := w3 k l h; ⟨a, fun q => b (by rw [hx]; exact .tail _ q), c, d⟩
                               bge := fun y hy => I.bge y (by rw [hx]; exact .tail _ hy)
                               bs := fun k y b' h1 h2 => w4 (k + 1) y b' (by rw [hx]; exact h1) (by rw [hb]; exact h2)
                               bne := fun b' h => I.bne b' (by rw [hb]; exact .tail _ h) }⟩
theorem FInv.arm (I : FInv n m σ0 fs br er σ) {b : List Nat} {bs : List (List Nat)} {x : Nat} {br' : List Nat} (hb : fs.blocks = b :: bs) (hx : br = x :: br') (i : Nat) :
    FInv n m σ0 { fs with blocks := (i :: b) :: bs } br er (σ.set x (.list (nums b.reverse ++ [.int i]))) := by
  refine el11 (I) fun obj I => ?_
  have hnd := I.bnd
  rw [hx, List.nodup_cons] at hnd
  have hge := I.bge x (by rw [hx]; exact .head _)
  have h0 := I.bs 0 x b (by rw [hx]; rfl) (by rw [hb]; rfl)
  have hl := I.len
  have fixed : ∀ (j : Nat) (o : AO), obj j = some o -> j < 8 -> (σ.set x (.list (nums b.reverse ++ [.int i])))[n + j]? = some o := fun j o e hj => (set_other _ _ _ _ (Ne.symm (ge_ne hge hj))).trans (I.fix j o e)
  exact ⟨fun j => if j < 8 then obj j else none, { I with
    ext := I.ext.set (by rw [hl]; exact Nat.le_trans (Nat.le_add_right _ _) hge)
    fix := fun j o e => by
      by_cases hj : j < 8
      · exact fixed j o ((if_pos hj).symm.trans e) hj
      · rw [if_neg hj] at e; (exact no_so e)
    el := fun k l h => by obtain ⟨a, b, c, d⟩ := I.el k l h; exact ⟨a, b, (set_other _ _ _ _ (fun q => b (by rw [q, hx]; exact .head _))).trans c, d⟩
    blen := by have := I.blen; rw [hb] at this; exact this
    bs := fun k y b' h1 h2 => by
      induction k using Nat.casesOn with
      | zero =>
        rw [hx] at h1
        cases h1
        cases h2
        rw [get_set_eq h0, List.reverse_cons, nums, nums, List.map_append]; rfl
      | succ k =>
        have h1' : br'[k]? = some y := by rw [hx] at h1; exact h1
        exact (set_other _ _ _ _ (fun q : y = x => hnd.1 (by rw [<- q]; exact List.mem_of_getElem? h1'))).trans (I.bs (k + 1) y b' h1 (by rw [hb]; exact h2))
    bne := fun b' h => by
      rcases List.mem_cons.mp h with rfl | h
      · exact List.cons_ne_nil _ _
      · exact I.bne b' (by rw [hb]; exact .tail _ h) }⟩
theorem FCore.br_lt (I : FCore n m σ0 fs br er obj σ) {x : Nat} (h : x ∈ br) : x < σ.length := by
  refine el11 (List.mem_iff_getElem?.mp h) fun k hk => ?_
  have hk2 : k < fs.blocks.length := by rw [<- I.blen]; exact (List.getElem?_eq_some_iff.mp hk).1
  exact lt_of_get (I.bs k _ _ hk (List.getElem?_eq_getElem hk2))
theorem FInv.open_ (I : FInv n m σ0 fs br er σ) (i : Nat) :
    FInv n m σ0 { fs with blocks := [i] :: fs.blocks } (σ.length :: br) er (List.set (σ ++ [AO.list [.int i]]) (n + 6) (.list (br.reverse.map .lst ++ [.lst σ.length]))) := by
  have hg := I.ge
  refine el11 (I) fun obj I => ?_
  have J := I.of_ext (Ext.app σ [AO.list [.int i]])
  refine el04 (J.wr (A := 6) (by decide) (.list (br.reverse.map .lst ++ [.lst σ.length]))) fun w1 w2 w3 w4 => ?_
  exact ⟨upd obj 6 _, { J with
    ext := w1
    fix := w2
    bl := by show some _ = some _; rw [List.reverse_cons, List.map_append]; rfl
    el := fun k l h => let ⟨a, b, c, d⟩ := w3 k l h; ⟨a, fun q => (List.mem_cons.mp q).elim (fun q => Nat.ne_of_lt (lt_of_get (I.el k l h).2.2.1) q) b, c, d⟩
    blen := congrArg Nat.succ I.blen
    bnd := List.nodup_cons.mpr ⟨fun q => Nat.lt_irrefl _ (I.br_lt q), I.bnd⟩
    bge := fun y hy => (List.mem_cons.mp hy).elim (fun q => q ▸ hg) (I.bge y)
    bs := fun k y b' h1 h2 => by
      induction k using Nat.casesOn with
      | zero =>
        cases h1
        cases h2
        exact at_set hg (by decide) get_new
      | succ k => exact w4 k y b' h1 h2
    bne := fun b' h => (List.mem_cons.mp h).elim (fun q => by rw [q]; exact List.cons_ne_nil _ _) (I.bne b') }⟩
theorem FInv.newE (I : FInv n m σ0 fs br er σ) {es : List (Int × V)} (h : σ[n + 4]? = some (.dict es)) {k : Nat} (hk : fs.ending k = none) :
    FInv n (m + 1) σ0 { fs with ending := upd fs.ending k [] } br (fun x => if x = k then σ.length else er x) (List.set (σ ++ [AO.list []]) (n + 4) (.dict (putI es k (.lst σ.length)))) := by
  have hg := I.ge
  refine el11 (I) fun obj I => ?_
  refine el13 (I.d4) fun es' a' b c => ?_
  obtain rfl := same_es I.fix h a'
  have J := I.mono1.of_ext (Ext.app σ [AO.list []])
  refine el04 (J.wr (A := 4) (by decide) (.dict (putI es' k (.lst σ.length)))) fun w1 w2 w3 w4 => ?_
  have old : ∀ k', k' ≠ k -> fs.ending k' ≠ none -> er k' < σ.length := fun k' _ q2 => by
    cases e : fs.ending k' with
    | none => exact absurd e q2
    | some l => exact lt_of_get (I.el k' l e).2.2.1
  have nz : ∀ k', k' ≠ k -> upd fs.ending k [] k' = fs.ending k' := fun k' q => if_neg q
  exact ⟨upd obj 4 _, { J with
    ext := w1
    fix := w2
    bs := w4
    d4 := ⟨_, rfl, (b.put k _).congr fun i => by
      rw [liftN_upd]
      by_cases q : i = (k : Int)
      · subst q
        simp only [upd, if_true, Int.toNat_natCast, Option.map]
      · rw [upd, if_neg q, upd, if_neg q]
        by_cases q2 : 0 <= i
        · rw [if_neg (fun e => q (by rw [<- e]; exact (Int.toNat_of_nonneg q2).symm))]
        · rw [liftN, if_neg q2]; rfl, put_le c⟩
    el := fun k' l h' => by
      by_cases q : k' = k
      · subst q
        have h' : some [] = some l := (if_pos rfl).symm.trans h'
        cases h'
        simp only [if_true]
        exact ⟨hg, fun q => Nat.lt_irrefl _ (I.br_lt q), at_set hg (by decide) get_new, Nat.zero_le _⟩
      · simp only [if_neg q]
        exact w3 k' l ((nz k' q).symm.trans h')
    einj := fun k1 k2 h1 h2 h3 => by
      by_cases q1 : k1 = k
      · by_cases q2 : k2 = k
        · rw [q1, q2]
        · simp only [if_pos q1, if_neg q2] at h3
          exact absurd h3 (Nat.ne_of_gt (old k2 q2 (fun e => h2 ((nz k2 q2).trans e))))
      · by_cases q2 : k2 = k
        · simp only [if_neg q1, if_pos q2] at h3
          exact absurd h3 (Nat.ne_of_lt (old k1 q1 (fun e => h1 ((nz k1 q1).trans e))))
        · simp only [if_neg q1, if_neg q2] at h3
          exact I.einj k1 k2 (fun e => h1 ((nz k1 q1).trans e)) (fun e => h2 ((nz k2 q2).trans e)) h3 }⟩
theorem FInv.addE (I : FInv n m σ0 fs br er σ) {k : Nat} {l : List Nat} (hk : fs.ending k = some l) (s : Nat) :
    FInv n (m + 1) σ0 { fs with ending := upd fs.ending k (l ++ [s]) } br er (σ.set (er k) (.list (nums l ++ [.int s]))) := by
  refine el11 (I) fun obj I => ?_
  have J := I.mono1
  have hl := I.len
  refine el04 (I.el k l hk) fun k1 k2 k3 k4 => ?_
  have nn : ∀ k', upd fs.ending k (l ++ [s]) k' ≠ none -> fs.ending k' ≠ none := fun k' h e => by
    by_cases q : k' = k
    · rw [q, hk] at e; (exact some_no e)
    · exact h ((if_neg q).trans e)
  exact ⟨fun j => if j < 8 then obj j else none, { J with
    ext := I.ext.set (by rw [hl]; exact Nat.le_trans (Nat.le_add_right _ _) k1)
    fix := fun j o e => by
      by_cases hj : j < 8
      · exact (set_other _ _ _ _ (Ne.symm (ge_ne k1 hj))).trans (I.fix j o ((if_pos hj).symm.trans e))
      · rw [if_neg hj] at e; (exact no_so e)
    d4 := by
      refine el13 (J.d4) fun es a b c => ?_
      refine ⟨es, a, b.congr fun i => ?_, c⟩
      rw [liftN_upd]
      by_cases q : i = (k : Int)
      · subst q; rw [liftN_nat, hk, upd, if_pos rfl]; rfl
      · rw [upd, if_neg q]
    el := fun k' l' h' => by
      by_cases q : k' = k
      · subst q
        have h' : some (l ++ [s]) = some l' := (if_pos rfl).symm.trans h'
        (replace h' := Option.some.inj h'; subst h')
        refine ⟨k1, k2, ?_, ?_⟩
        · rw [get_set_eq k3, nums, nums, List.map_append]; rfl
        · rw [List.length_append]; exact Nat.succ_le_succ k4
      · refine el04 (J.el k' l' ((if_neg q).symm.trans h')) fun a b c d => ?_
        exact ⟨a, b, (set_other _ _ _ _ (fun e => q (I.einj k' k (fun e2 => by rw [show fs.ending k' = some l' from (if_neg q).symm.trans h'] at e2; (exact some_no e2)) (fun e2 => by rw [hk] at e2; (exact some_no e2)) e))).trans c, d⟩
    einj := fun a b h1 h2 h3 => I.einj a b (nn a h1) (nn b h2) h3
    bs := fun j y b' h1 h2 => (set_other _ _ _ _ (fun q : y = er k => k2 (by rw [<- q]; exact List.mem_of_getElem? h1))).trans (I.bs j y b' h1 h2) }⟩
end
end
end Mine.PL
end
section
set_option tactic.hygienic false
open PySem Mine.Eqn
namespace Mine.PL
noncomputable section
section
variable {C : Calls} {n m N : Nat} {σ0 σ σ1 : Sto} {fs : FS} {br : List Nat} {er : Nat -> Nat} {ls : Ls} {cv : Option V} {rows : List Row} {R : Nat}
theorem idx_last {x : Nat} {vs : List V} {v : V} (h : σ[x]? = some (.list vs)) (hv : vs.getLast? = some v) : idxV (.lst x) (.int (-1)) σ = some v := by
  simp only [Eqn.idxV_1, atL, getL_of h, Option.bind]
  (refine Eq.trans (if_neg (by (decide)) ..) ?_)
  simp only [if_true]
  exact hv
theorem last_ref {x : Nat} {r : List Nat} : ((x :: r).reverse.map V.lst).getLast? = some (.lst x) := by simp
theorem last_num {x : Nat} {r : List Nat} : (nums (x :: r).reverse).getLast? = some (.int x) := by simp [nums]
theorem not_lst {i x : Nat} {vs : List V} (h : ls[i]? = some (some (.lst x))) (hx : σ[x]? = some (.list vs)) : tst C (N + 3) (.not (.var i)) ls cv σ = some (vs.isEmpty, σ) := by
  have : tst C (N + 2) (.var i) ls cv σ = some (!vs.isEmpty, σ) := by
    rw [tst_var, ev_v h]
    simp only [Eqn.truth_3, getL_of hx, Option.map]
  rw [tst_not, this]
  simp
theorem is_lst {i x : Nat} {vs : List V} (h : ls[i]? = some (some (.lst x))) (hx : σ[x]? = some (.list vs)) : tst C (N + 2) (.var i) ls cv σ = some (!vs.isEmpty, σ) := by
  rw [tst_var, ev_v h]
  simp only [Eqn.truth_3, getL_of hx, Option.map]
theorem ev_at {i f : Nat} {ds : List Nat} {k d : Nat} (h : ls[i]? = some (some (.flow f))) (hf : σ[f]? = some (.attrs ds)) (hd : ds[k]? = some d) : ev C (N + 2) (.attr (.var i) k) ls cv σ = some (.dct d, σ) := by
  rw [ev_attr, ev_v h]
  simp only [hf, hd]
  rfl
theorem set_dct {d : Nat} {es : List (Int × V)} {k : Int} {v : V} (h : σ[d]? = some (.dict es)) (hl : es.length < 4096) : setV (.dct d) (.int k) v σ = some (σ.set d (.dict (putI es k v))) := by
  simp only [Eqn.setV_2, getD_of h, bind, Option.bind]
  exact if_pos hl
theorem lst_rule {i x : Nat} {it : CE} {body : List CS} {vs : List V} (Inv : Nat -> Ls -> Sto -> Prop) (Fin : Out -> Prop) (h : ev C N it ls none σ = some (.lst x, σ1)) (hx : σ1[x]? = some (.list vs)) (h0 : Inv 0 ls σ1)
    (hkeep : ∀ j ls σ, Inv j ls σ -> σ[x]? = some (.list vs))
    (hstep : ∀ (j : Nat) (v : V) ls σ, vs[j]? = some v -> Inv j ls σ -> (∃ ls' σ', (exs (ex C N) body (ls.set i (some v)) σ = some (.next ls' σ') \/ exs (ex C N) body (ls.set i (some v)) σ = some (.cont ls' σ')) /\ Inv (j + 1) ls' σ') \/ (∃ o, exs (ex C N) body (ls.set i (some v)) σ = some o /\ isStop o /\ Fin o)) :
    (∃ ls' σ', ex C (N + 1) (.forr i it body) ls σ = some (.next ls' σ') /\ Inv vs.length ls' σ') \/ (∃ o, ex C (N + 1) (.forr i it body) ls σ = some o /\ isStop o /\ Fin o) := by
  have e : ex C (N + 1) (.forr i it body) ls σ = forGo (chkItems (.lst x) vs) (fun x ls σ => exs (ex C N) body (ls.set i (some x)) σ) vs ls σ1 := by
    rw [ex_forr, h]
    simp only [Eqn.itemsOf_1, getL_of hx]
  rw [e]
  exact forGo_rule (chk := chkItems (.lst x) vs) (step := fun x ls σ => exs (ex C N) body (ls.set i (some x)) σ) (items := vs) Inv Fin (fun j v ls σ hv hI => ⟨chk_lst (getL_of (hkeep j ls σ hI)), hstep j v ls σ hv hI⟩) (fun ls σ hI => chk_lst (getL_of (hkeep _ ls σ hI))) h0
theorem openArm_spec (I : FInv n m σ0 fs br er σ) : runFn C F_openArm [.lst (n + 6)] σ = some (.ok (.int (oaI (openArm fs.blocks))) σ) := by
  have hn : tst C 39 (.not (.var 0)) [some (.lst (n + 6))] none σ = some ((br.reverse.map V.lst).isEmpty, σ) := not_lst rfl I.bl
  cases hb : fs.blocks with
  | nil =>
    have hbr : br = [] := by have := I.blen; rw [hb] at this; exact List.eq_nil_of_length_eq_zero this
    subst hbr
    refine runFn_ret rfl ?_
    exact exs_retd ((ex_if1 hn).trans (exs_one (ex_rt ev_n)))
  | cons b bs =>
    cases hbr : br with
    | nil => have := I.blen; rw [hb, hbr] at this; simp at this
    | cons x br' =>
      induction b using List.casesOn with
      | nil => exact absurd rfl (I.bne [] (by rw [hb]; exact .head _))
      | cons a arms =>
        rw [hbr] at hn
        have hn' : tst C 39 (.not (.var 0)) [some (.lst (n + 6))] none σ = some (false, σ) := by (refine Eq.trans (hn ..) ?_); simp
        have h1 := I.bl
        rw [hbr] at h1
        have h2 := I.bs 0 x (a :: arms) (by rw [hbr]; rfl) (by rw [hb]; rfl)
        refine runFn_ret rfl ?_
        refine (exs_next (ex_skip hn')).trans ?_
        exact exs_one (ex_rt (ev_i (ev_i (ev_v rfl) ev_n (idx_last h1 last_ref)) ev_n (idx_last h2 last_num)))
noncomputable abbrev N9 (a b c d e f g h : Option V) : Ls := [a, b, c, d, e, f, g, h, none]
theorem noteArm_spec {w i : Nat} (I : FInv n m σ0 fs br er σ) (hR : Rw R rows σ0) (hn : rows.length <= 100) (hw : w = 1 \/ w = 2 \/ w = 3) (hi : i < 1000) (hlt : ∀ a ∈ fs.blocks.flatten, a < rows.length) (hm : m + fs.blocks.flatten.length <= 2000) :
    match armP rows i (decide (w = 3)) fs with
    | none => runFn C F_noteArm [.flow (n + 5), .lst (n + 6), .str w, .int i, .lst R] σ = some .exc
    | some fs' => ∃ σ' br' m', runFn C F_noteArm [.flow (n + 5), .lst (n + 6), .str w, .int i, .lst R] σ = some (.ok .none σ') /\ FInv n m' σ0 fs' br' er σ' /\ m' + fs'.blocks.flatten.length <= m + fs.blocks.flatten.length + 2 := by
  have hnot : tst C 39 (.not (.var 1)) (N9 (some (.flow (n + 5))) (some (.lst (n + 6))) (some (.str w)) (some (.int i)) (some (.lst R)) none none none) none σ = some ((br.reverse.map V.lst).isEmpty, σ) := not_lst rfl I.bl
  refine cpf fun rq => ?_
  cases hb : fs.blocks with
  | nil =>
    have hbr : br = [] := by have := I.blen; rw [hb] at this; exact List.eq_nil_of_length_eq_zero this
    subst hbr
    refine rq ?_
    simp only [armP, hb]
    refine runFn_exc rfl ?_
    exact exs_excd ((ex_if1 hnot).trans (exs_one ex_raise))
  | cons b bs =>
    induction b using List.casesOn with
    | nil => exact absurd rfl (I.bne [] (by rw [hb]; exact .head _))
    | cons a arms =>
    cases hbr : br with
    | nil => refine rq ?_; have := I.blen; rw [hb, hbr] at this; simp at this
    | cons x br' =>
      have hxin : x ∈ br := by rw [hbr]; exact .head _
      have hxge := I.bge x hxin
      have hnot' : tst C 39 (.not (.var 1)) (N9 (some (.flow (n + 5))) (some (.lst (n + 6))) (some (.str w)) (some (.int i)) (some (.lst R)) none none none) none σ = some (false, σ) := by rw [hnot, hbr]; simp
      have h1 := I.bl
      rw [hbr] at h1
      have h2 := I.bs 0 x (a :: arms) (by rw [hbr]; rfl) (by rw [hb]; rfl)
      have ha : a < rows.length := hlt a (by rw [hb]; exact .head _)
      have hra : rows[a]? = some rows[a] := List.getElem?_eq_getElem ha
      have hRσ := I.ext.rw hR
      have s1 : ex C 40 (.ite (.not (.var 1)) [.raise] []) (N9 (some (.flow (n + 5))) (some (.lst (n + 6))) (some (.str w)) (some (.int i)) (some (.lst R)) none none none) σ = some (.next (N9 (some (.flow (n + 5))) (some (.lst (n + 6))) (some (.str w)) (some (.int i)) (some (.lst R)) none none none) σ) := ex_skip hnot'
      have s2 : ex C 40 (.assign 5 (.idx (.var 1) (.int (-1)))) (N9 (some (.flow (n + 5))) (some (.lst (n + 6))) (some (.str w)) (some (.int i)) (some (.lst R)) none none none) σ = some (.next (N9 (some (.flow (n + 5))) (some (.lst (n + 6))) (some (.str w)) (some (.int i)) (some (.lst R)) (some (.lst x)) none none) σ) :=
        ex_asg rfl (ev_i (ev_v rfl) ev_n (idx_last h1 last_ref))
      have s3 : ex C 40 (.assign 6 (.idx (.var 5) (.int (-1)))) (N9 (some (.flow (n + 5))) (some (.lst (n + 6))) (some (.str w)) (some (.int i)) (some (.lst R)) (some (.lst x)) none none) σ = some (.next (N9 (some (.flow (n + 5))) (some (.lst (n + 6))) (some (.str w)) (some (.int i)) (some (.lst R)) (some (.lst x)) (some (.int a)) none) σ) :=
        ex_asg rfl (ev_i (ev_v rfl) ev_n (idx_last h2 last_num))
      have te : tst C 39 (.cmp (.eq) (.idx (.idx (.idx (.var 4) (.var 6)) (.int 1)) (.int 0)) (.str 2)) (N9 (some (.flow (n + 5))) (some (.lst (n + 6))) (some (.str w)) (some (.int i)) (some (.lst R)) (some (.lst x)) (some (.int a)) none) none σ = some (elsAt rows a, σ) := by
        refine tst_c (ev_i (ev_i (ev_i (ev_v rfl) (ev_v rfl) (idx_row hRσ hra (by omega))) ev_n (idx_row1 _ _)) ev_n (idx_word _ _)) ev_s ?_
        rw [elsAt_some' hra]
        cases rows[a].stm <;> rfl
      have tw : tst C 38 (.cmp (.ne) (.var 2) (.str 3)) (N9 (some (.flow (n + 5))) (some (.lst (n + 6))) (some (.str w)) (some (.int i)) (some (.lst R)) (some (.lst x)) (some (.int a)) none) none σ = some (!decide (w = 3), σ) := tst_c (ev_v rfl) ev_s rfl
      have tw' : ∀ τ, tst C 39 (.cmp (.eq) (.var 2) (.str 3)) (N9 (some (.flow (n + 5))) (some (.lst (n + 6))) (some (.str w)) (some (.int i)) (some (.lst R)) (some (.lst x)) (some (.int a)) none) none τ = some (decide (w = 3), τ) := fun τ => tst_c (ev_v rfl) ev_s rfl
      refine el13 (I.d1) fun es1 g1 g2 g3 => ?_
      refine rq ?_
      have st4 : (elsAt rows a && !decide (w = 3)) = false -> ∃ τ, ex C 40 (.ite (.cmp (.eq) (.idx (.idx (.idx (.var 4) (.var 6)) (.int 1)) (.int 0)) (.str 2)) [.ite (.cmp (.ne) (.var 2) (.str 3)) [.raise] []] [.setIdx (.attr (.var 0) 1) (.var 6) (.var 3)]) (N9 (some (.flow (n + 5))) (some (.lst (n + 6))) (some (.str w)) (some (.int i)) (some (.lst R)) (some (.lst x)) (some (.int a)) none) σ = some (.next (N9 (some (.flow (n + 5))) (some (.lst (n + 6))) (some (.str w)) (some (.int i)) (some (.lst R)) (some (.lst x)) (some (.int a)) none) τ) /\ FInv n (m + 1) σ0 { fs with nextArm := if elsAt rows a then fs.nextArm else upd fs.nextArm a i } br er τ := by
        intro hc
        cases he : elsAt rows a with
        | true =>
          rw [he] at te hc
          have hw3 : w = 3 := by simpa using hc
          refine ⟨σ, (ex_if1 te).trans (exs_one (ex_skip (by (refine Eq.trans (tw ..) ?_); simp [hw3]))), by simpa using I.mono (Nat.le_succ m)⟩
        | false =>
          rw [he] at te
          refine ⟨_, (ex_if0 te).trans (exs_one (ex_sidx (ev_v rfl) (ev_at rfl I.f rfl) (ev_v rfl) (set_dct g1 (by (exact om225 hm g3))))), by simpa using I.next g1 (a := a) (i := i)⟩
      cases hc : (elsAt rows a && !decide (w = 3)) with
      | true =>
        simp only [armP, hb, hc, if_true]
        refine el02 (Bool.and_eq_true_iff.mp hc) fun c1 c2 => ?_
        refine runFn_exc rfl ?_
        refine (exs_next s1).trans ?_
        refine (exs_next s2).trans ?_
        refine (exs_next s3).trans ?_
        refine exs_excd ?_
        refine (ex_if1 (σ' := σ) (by rw [te, c1])).trans ?_
        exact exs_one ((ex_if1 (σ' := σ) (by rw [tw, c2])).trans (exs_one ex_raise))
      | false =>
        refine el12 (st4 hc) fun τ e4 I4 => ?_
        simp only [armP, hb, hc, Bool.false_eq_true, if_false]
        have h2τ := I4.bs 0 x (a :: arms) (by rw [hbr]; rfl) (by simp only [hb]; rfl)
        have chain : ∀ o, ex C 40 (.ite (.cmp (.eq) (.var 2) (.str 3)) [.forr 7 (.var 5) [.setIdx (.attr (.var 0) 2) (.var 7) (.var 3)], .expr (.pop (.var 1))] [.expr (.app (.var 5) (.var 3))]) (N9 (some (.flow (n + 5))) (some (.lst (n + 6))) (some (.str w)) (some (.int i)) (some (.lst R)) (some (.lst x)) (some (.int a)) none) τ = some o ->
            exs (ex C 40) F_noteArm.body (initLs F_noteArm [.flow (n + 5), .lst (n + 6), .str w, .int i, .lst R]) σ = some o := fun o ho => by
          refine (exs_next s1).trans ?_
          refine (exs_next s2).trans ?_
          refine (exs_next s3).trans ?_
          refine (exs_next e4).trans ?_
          exact exs_one ho
        by_cases hw3 : w = 3
        · -- END IF
          simp only [hw3, decide_true, if_true]
          subst hw3
          have loop := lst_rule (C := C) (N := 38) (i := 7) (body := [.setIdx (.attr (.var 0) 2) (.var 7) (.var 3)]) (ls := N9 (some (.flow (n + 5))) (some (.lst (n + 6))) (some (.str 3)) (some (.int i)) (some (.lst R)) (some (.lst x)) (some (.int a)) none) (it := .var 5) (σ := τ)
            (fun j ls υ => (∃ b7, ls = N9 (some (.flow (n + 5))) (some (.lst (n + 6))) (some (.str 3)) (some (.int i)) (some (.lst R)) (some (.lst x)) (some (.int a)) b7) /\ FInv n (m + 1 + j) σ0 { fs with nextArm := if elsAt rows a then fs.nextArm else upd fs.nextArm a i, blockEnd := fun y => if y ∈ (a :: arms).reverse.take j then some i else fs.blockEnd y } br er υ)
            (fun _ => False) (ev_v rfl) h2τ ⟨⟨none, rfl⟩, by simpa using I4⟩ (fun j ls υ hI => hI.2.bs 0 x (a :: arms) (by rw [hbr]; rfl) (by simp only [hb]; rfl))
            (fun j v ls υ hv hI => by
              refine el02 (hI) fun z151_0 J => ?_
              obtain ⟨b7, rfl⟩ := z151_0
              have hjl : j < (a :: arms).length := by have := (List.getElem?_eq_some_iff.mp hv).1; simpa [nums] using this
              have hjf : (a :: arms).length <= fs.blocks.flatten.length := by rw [hb]; simp
              obtain ⟨y, hy, rfl⟩ : ∃ y, (a :: arms).reverse[j]? = some y /\ v = V.int (y : Nat) := by
                unfold nums at hv
                rw [List.getElem?_map] at hv
                cases hq : (a :: arms).reverse[j]? with
                | none => rw [hq] at hv; cases hv
                | some y => rw [hq] at hv; cases hv; exact ⟨y, rfl, rfl⟩
              refine el13 (J.d2) fun es2 k1 k2 k3 => ?_
              refine .inl ⟨_, _, .inl (exs_one (ex_sidx (ev_v rfl) (ev_at rfl J.f rfl) (ev_v rfl) (set_dct k1 (by (exact om226 hm hjl k3 hjf))))), ⟨_, rfl⟩, ?_⟩
              have J2 := J.bend k1 (a := y) (i := i)
              have hf : (upd (fun z => if z ∈ (a :: arms).reverse.take j then some i else fs.blockEnd z) y i) = (fun z => if z ∈ (a :: arms).reverse.take (j + 1) then some i else fs.blockEnd z) := by
                funext z
                rw [List.take_succ, hy]
                simp only [upd, Option.toList, List.mem_append, List.mem_singleton]
                by_cases q1 : z = y
                · simp [q1]
                · simp [q1]
              simp only [hf] at J2
              exact J2)
          rcases loop with ⟨ls', υ, e5, ⟨b7, rfl⟩, J⟩ | ⟨o, _, _, hF⟩
          · have hjl : (nums (a :: arms).reverse).length = (a :: arms).length := by simp [nums]
            rw [hjl, List.take_of_length_le (by simp)] at J
            have hbl := J.bl
            rw [hbr] at hbl
            have J2 := J.close (b := a :: arms) (bs := bs) hb hbr
            have e6 : ex C 39 (.expr (.pop (.var 1))) (N9 (some (.flow (n + 5))) (some (.lst (n + 6))) (some (.str 3)) (some (.int i)) (some (.lst R)) (some (.lst x)) (some (.int a)) b7) υ = some (.next (N9 (some (.flow (n + 5))) (some (.lst (n + 6))) (some (.str 3)) (some (.int i)) (some (.lst R)) (some (.lst x)) (some (.int a)) b7) (υ.set (n + 6) (.list (br'.reverse.map .lst)))) := by
              refine ex_xp rfl (v := .lst x) ?_
              rw [ev_pop, ev_v (v := .lst (n + 6)) rfl]
              simp only [getL_of hbl, last_ref]
              simp
            refine ⟨υ.set (n + 6) (.list (br'.reverse.map .lst)), br', m + 1 + (a :: arms).length, runFn_next (ls' := N9 (some (.flow (n + 5))) (some (.lst (n + 6))) (some (.str 3)) (some (.int i)) (some (.lst R)) (some (.lst x)) (some (.int a)) b7) rfl (chain _ ?_), ?_, ?_⟩
            · refine (ex_if1 (by (refine Eq.trans (tw' τ ..) ?_); rfl)).trans ?_
              refine (exs_next e5).trans ?_
              exact exs_one e6
            · have hf : (fun y => if y ∈ (a :: arms).reverse then some i else fs.blockEnd y) = (fun y => if y ∈ a :: arms then some i else fs.blockEnd y) := by
                funext y; simp only [List.mem_reverse]
              rw [hf] at J2
              exact J2
            · simp only [List.flatten_cons, List.length_append]; (exact om227)
          · exact hF.elim
        · -- another arm
          simp only [hw3, decide_false, Bool.false_eq_true, if_false]
          have J2 := I4.arm (b := a :: arms) (bs := bs) (by simp only [hb]) hbr i
          have hlen : (nums (a :: arms).reverse).length < 4096 := by
            have : (a :: arms).length <= fs.blocks.flatten.length := by rw [hb]; simp
            simp only [nums, List.length_map, List.length_reverse]; (exact om228 hm this)
          refine ⟨_, br, m + 1, runFn_next rfl (chain _ ((ex_if0 (σ' := τ) (by (refine Eq.trans (tw' τ ..) ?_); simp [hw3])).trans (exs_one (ex_xp rfl (ev_ap (ev_v rfl) h2τ (ev_v rfl) h2τ hlen))))), by rw [<- hbr] at *; exact J2, ?_⟩
          simp only [List.flatten_cons, List.length_append, List.length_cons]; (exact om229)
end
end
end Mine.PL
end
section
set_option tactic.hygienic false
open PySem Mine.Eqn
namespace Mine.PL
noncomputable section
section
variable {C C' : Calls} {n m N : Nat} {σ0 σ σ1 : Sto} {fs : FS} {br : List Nat} {er : Nat -> Nat} {ls : Ls} {cv : Option V} {rows : List Row} {R : Nat}
theorem whileGo_out {test : Ls -> Sto -> Option (Bool × Sto)} {step : Ls -> Sto -> Option Out} {k : Nat} {σ' : Sto} (h : test ls σ = some (false, σ')) : whileGo test step (k + 1) ls σ = some (.next ls σ') := by
  simp only [Eqn.whileGo_2, h]
theorem whileGo_in {test : Ls -> Sto -> Option (Bool × Sto)} {step : Ls -> Sto -> Option Out} {k : Nat} {σ' σ'' : Sto} {ls' : Ls} (h : test ls σ = some (true, σ')) (h2 : step ls σ' = some (.next ls' σ'')) : whileGo test step (k + 1) ls σ = whileGo test step k ls' σ'' := by
  simp only [Eqn.whileGo_2, h, h2]
theorem whileGo_exc {test : Ls -> Sto -> Option (Bool × Sto)} {step : Ls -> Sto -> Option Out} {k : Nat} {σ' : Sto} (h : test ls σ = some (true, σ')) (h2 : step ls σ' = some .exc) : whileGo test step (k + 1) ls σ = some .exc := by
  simp only [Eqn.whileGo_2, h, h2]
theorem ex_unp {i j k : Nat} {e : CE} {a b c : V} {σ' : Sto} (h : ev C N e ls none σ = some (.tup [a, b, c], σ')) : ex C (N + 1) (.unpack3 i j k e) ls σ = some (.next (((ls.set i (some a)).set j (some b)).set k (some c)) σ') := by
  simp only [ex_unpack3, h]
theorem ev_pp {o : CE} {x : Nat} {vs : List V} {v : V} (h : ev C N o ls cv σ = some (.lst x, σ1)) (hx : σ1[x]? = some (.list vs)) (hv : vs.getLast? = some v) : ev C (N + 1) (.pop o) ls cv σ = some (v, σ1.set x (.list vs.dropLast)) := by
  rw [ev_pop, h]
  simp only [getL_of hx, hv]
theorem ev_ca {f : Nat} {args : List CE} {vs : List V} {v : V} {σ' σ'' : Sto} (h : evs (fun e σ => ev C N e ls cv σ) args σ = some (vs, σ')) (hc : C f vs σ' = some (.ok v σ'')) : ev C (N + 1) (.call f args) ls cv σ = some (v, σ'') := by
  rw [ev_call, h]
  simp only [hc]
noncomputable def endsT : CE := match B_noteEnds with
  | [.whil t _] => t
  | _ => .none
noncomputable def endsB : List CS := match B_noteEnds with
  | [.whil _ b] => b
  | _ => []
noncomputable abbrev M10 (n : Nat) (l : Int) (i : Nat) (f g h : Option V) : Ls := [some (.flow (n + 5)), some (.lst (n + 7)), some (.lst (n + 6)), some (.int l), some (.int i), f, g, h, none, none]
theorem ends_test {l : Int} {i : Nat} {f g h : Option V} (I : FInv n m σ0 fs br er σ) :
    tst C 39 endsT (M10 n l i f g h) none σ = some ((match fs.loops with | [] => false | x :: _ => decide (l ≠ 0) && decide (x.1 = l)), σ) := by
  have t1 : tst C 38 (.var 1) (M10 n l i f g h) none σ = some (!(fs.loops.reverse.map lpV).isEmpty, σ) := is_lst rfl I.lp
  have t2 : tst C 38 (.cmp (.ne) (.var 3) (.int 0)) (M10 n l i f g h) none σ = some (!decide (l = 0), σ) := tst_c (ev_v rfl) ev_n rfl
  have hlp := I.lp
  cases hL : fs.loops with
  | nil =>
    rw [hL] at t1
    refine (tst_and3 (y := true) (z := true) t1 ?_ ?_).trans ?_
    · intro q; simp at q
    · intro q; simp at q
    · rfl
  | cons x L =>
    obtain ⟨t, s, a⟩ := x
    rw [hL] at t1 hlp
    have t3 : tst C 38 (.cmp (.eq) (.idx (.idx (.var 1) (.int (-1))) (.int 0)) (.var 3)) (M10 n l i f g h) none σ = some (decide (t = l), σ) := by
      refine tst_c (ev_i (ev_i (ev_v rfl) ev_n (idx_last (v := lpV (t, s, a)) hlp (by simp))) ev_n (v := .int t) rfl) (ev_v rfl) rfl
    refine (tst_and3 t1 (fun _ => t2) (fun _ _ => t3)).trans ?_
    simp [isEmpty_snoc]
theorem ends_body {t : Int} {s : Nat} {a : Option Nat} {L : List Lp} {l : Int} {i : Nat} {f g h : Option V} (hC : ∀ σ, C 0 [.lst (n + 6)] σ = runFn C' F_openArm [.lst (n + 6)] σ) (I : FInv n m σ0 fs br er σ) (hL : fs.loops = (t, s, a) :: L) (hm : m <= 2000) :
    if a = openArm fs.blocks then ∃ σ' er', exs (ex C 39) endsB (M10 n l i f g h) σ = some (.next (M10 n l i (some (.int t)) (some (.int s)) (some (.int (oaI a)))) σ') /\
      FInv n (m + 3) σ0 { fs with loops := L, doEnd := upd fs.doEnd s i, ending := upd fs.ending i ((fs.ending i).getD [] ++ [s]) } br er' σ'
    else exs (ex C 39) endsB (M10 n l i f g h) σ = some .exc := by
  have hlp := I.lp
  rw [hL] at hlp
  have I1 := I.setL L
  have hpop : ((((t, s, a) :: L).reverse.map lpV).dropLast) = L.reverse.map lpV := by simp
  have s1 : ex C 39 (.unpack3 5 6 7 (.pop (.var 1))) (M10 n l i f g h) σ = some (.next (M10 n l i (some (.int t)) (some (.int s)) (some (.int (oaI a)))) (σ.set (n + 7) (.list (L.reverse.map lpV)))) := by
    rw [<- hpop]
    exact ex_unp (ev_pp (v := lpV (t, s, a)) (ev_v rfl) hlp (by simp))
  generalize (σ.set (n + 7) (.list (L.reverse.map lpV))) = σ1 at *
  have t2 : tst C 38 (.cmp (.ne) (.var 7) (.call 0 [.var 2])) (M10 n l i (some (.int t)) (some (.int s)) (some (.int (oaI a)))) none σ1 = some (!decide (a = openArm fs.blocks), σ1) := by
    refine tst_c (ev_v rfl) (ev_ca (vs := [.lst (n + 6)]) (σ' := σ1) (by simp [Eqn.evs_1, Eqn.evs_2, ev_var]) ((hC σ1).trans (openArm_spec I1))) ?_
    rw [neS_int, decide_eq_decide.mpr oaI_inj]
  by_cases ha : a = openArm fs.blocks
  · rw [if_pos ha]
    have s2 : ex C 39 (.ite (.cmp (.ne) (.var 7) (.call 0 [.var 2])) [.raise] []) (M10 n l i (some (.int t)) (some (.int s)) (some (.int (oaI a)))) σ1 = some (.next (M10 n l i (some (.int t)) (some (.int s)) (some (.int (oaI a)))) σ1) := ex_skip (by rw [t2, decide_eq_true ha]; rfl)
    refine el13 (I1.d3) fun es3 k1 k2 k3 => ?_
    have s3 : ex C 39 (.setIdx (.attr (.var 0) 3) (.var 6) (.var 4)) (M10 n l i (some (.int t)) (some (.int s)) (some (.int (oaI a)))) σ1 = some (.next (M10 n l i (some (.int t)) (some (.int s)) (some (.int (oaI a)))) (σ1.set (n + 3) (.dict (putI es3 s (.int i))))) :=
      ex_sidx (ev_v rfl) (ev_at rfl I1.f rfl) (ev_v rfl) (set_dct k1 (by (exact om230 hm k3)))
    have I2 := I1.dend k1 (a := s) (i := i)
    generalize (σ1.set (n + 3) (.dict (putI es3 s (.int i)))) = σ2 at *
    refine el13 (I2.d4) fun es4 j1 j2 j3 => ?_
    have hlook : lookI es4 (i : Int) = (fs.ending i).map fun _ => V.lst (er i) := by rw [j2.look, liftN_nat]; simp
    have t4 : tst C 38 (.cmp (.notin) (.var 4) (.attr (.var 0) 4)) (M10 n l i (some (.int t)) (some (.int s)) (some (.int (oaI a)))) none σ2 = some (!(fs.ending i).isSome, σ2) := by
      refine tst_c (ev_v rfl) (ev_at rfl I2.f rfl) ?_
      simp only [cmpV, Eqn.inV_2, getD_of j1, Option.map, hlook]
      cases fs.ending i <;> rfl
    have last : ∀ {m2 : Nat} {fs2 : FS} {er2 : Nat -> Nat} {τ : Sto} {l0 : List Nat}, FInv n m2 σ0 fs2 br er2 τ -> fs2.ending i = some l0 -> m2 <= 3000 -> ∃ σ', ex C 39 (.expr (.app (.idx (.attr (.var 0) 4) (.var 4)) (.var 6))) (M10 n l i (some (.int t)) (some (.int s)) (some (.int (oaI a)))) τ = some (.next (M10 n l i (some (.int t)) (some (.int s)) (some (.int (oaI a)))) σ') /\ FInv n (m2 + 1) σ0 { fs2 with ending := upd fs2.ending i (l0 ++ [s]) } br er2 σ' := by
      intro m2 fs2 er2 τ l0 J he hm2
      refine cpf fun rq => ?_
      refine el13 (J.d4) fun es h1 h2 h3 => ?_
      refine el04 (J.el i l0 he) fun e1 e2 e3 e4 => ?_
      have hlk : lookI es (i : Int) = some (.lst (er2 i)) := by rw [h2.look, liftN_nat, he]; simp
      have ho : ev C 37 (.idx (.attr (.var 0) 4) (.var 4)) (M10 n l i (some (.int t)) (some (.int s)) (some (.int (oaI a)))) none τ = some (.lst (er2 i), τ) :=
        ev_i (ev_at rfl J.f rfl) (ev_v rfl) (by simp only [Eqn.idxV_3, getD_of h1, Option.bind, hlk])
      refine rq ?_
      exact ⟨_, ex_xp rfl (ev_ap ho e3 (ev_v rfl) e3 (by simp only [nums, List.length_map]; (exact om231 hm2 e4))), J.addE he s⟩
    cases he : fs.ending i with
    | some l0 =>
      rw [he] at t4
      refine el12 (last I2 he (by (exact om232 hm))) fun σ' e5 J => ?_
      refine ⟨σ', er, ?_, J.mono (by (exact Nat.le_succ _))⟩
      refine (exs_next s1).trans ?_
      refine (exs_next s2).trans ?_
      refine (exs_next s3).trans ?_
      refine (exs_next (ex_skip t4)).trans ?_
      exact exs_one e5
    | none =>
      rw [he] at t4
      have I3 := I2.newE j1 he
      have s4 : ex C 39 (.ite (.cmp (.notin) (.var 4) (.attr (.var 0) 4)) [.setIdx (.attr (.var 0) 4) (.var 4) (.lst [])] []) (M10 n l i (some (.int t)) (some (.int s)) (some (.int (oaI a)))) σ2 = some (.next (M10 n l i (some (.int t)) (some (.int s)) (some (.int (oaI a)))) (List.set (σ2 ++ [AO.list []]) (n + 4) (.dict (putI es4 i (.lst σ2.length))))) := by
        refine (ex_if1 t4).trans (exs_one ?_)
        have hl0 : ev C 37 (.lst []) (M10 n l i (some (.int t)) (some (.int s)) (some (.int (oaI a)))) none σ2 = some (.lst σ2.length, σ2 ++ [AO.list []]) := by (refine Eq.trans (ev_lst ..) ?_); rfl
        exact ex_sidx hl0 (ev_at rfl (get_app I2.f) rfl) (ev_v rfl) (set_dct (get_app j1) (by (exact om233 hm j3)))
      generalize (List.set (σ2 ++ [AO.list []]) (n + 4) (.dict (putI es4 i (.lst σ2.length)))) = σ3 at *
      refine el12 (last I3 (l0 := []) (by simp [upd]) (by (exact om234 hm))) fun σ' e5 J => ?_
      have hu : upd (upd fs.ending i []) i ([] ++ [s]) = upd fs.ending i ([] ++ [s]) := by
        funext x
        simp only [upd]
        by_cases q : x = i <;> simp [q]
      simp only [hu] at J
      refine ⟨σ', _, ?_, by simpa using J⟩
      refine (exs_next s1).trans ?_
      refine (exs_next s2).trans ?_
      refine (exs_next s3).trans ?_
      refine (exs_next s4).trans ?_
      exact exs_one e5
  · rw [if_neg ha]
    refine (exs_next s1).trans ?_
    exact exs_excd ((ex_if1 (σ' := σ1) (by rw [t2, decide_eq_false ha]; rfl)).trans (exs_one ex_raise))
theorem ends_loop {l : Int} {i : Nat} (hl : l ≠ 0) (hC : ∀ σ, C 0 [.lst (n + 6)] σ = runFn C' F_openArm [.lst (n + 6)] σ) :
    ∀ (k : Nat) (L : List Lp) (m : Nat) (fs : FS) (er : Nat -> Nat) (σ : Sto) (f g h : Option V), fs.loops = L -> L.length < k -> m + 3 * L.length <= 2000 -> FInv n m σ0 fs br er σ ->
    match endsGo l i (openArm fs.blocks) L fs.doEnd fs.ending with
    | none => whileGo (fun ls σ => tst C 39 endsT ls none σ) (fun ls σ => exs (ex C 39) endsB ls σ) k (M10 n l i f g h) σ = some .exc
    | some (L', d, e) => ∃ ls' σ' er' m', whileGo (fun ls σ => tst C 39 endsT ls none σ) (fun ls σ => exs (ex C 39) endsB ls σ) k (M10 n l i f g h) σ = some (.next ls' σ') /\ FInv n m' σ0 { fs with loops := L', doEnd := d, ending := e } br er' σ' /\ m' + 3 * L'.length <= m + 3 * L.length
  | 0, L, m, fs, er, σ, f, g, h, hL, hk, _, _ => by omega
  | k + 1, [], m, fs, er, σ, f, g, h, hL, hk, hm, I => by
    have ht := ends_test (C := C) (l := l) (i := i) (f := f) (g := g) (h := h) I
    rw [hL] at ht
    simp only [endsGo_1]
    refine ⟨_, σ, er, m, whileGo_out ht, ?_, Nat.le_refl _⟩
    have : ({ fs with loops := [], doEnd := fs.doEnd, ending := fs.ending } : FS) = fs := by rw [<- hL]
    rw [this]; exact I
  | k + 1, (t, s, a) :: L, m, fs, er, σ, f, g, h, hL, hk, hm, I => by
    have ht := ends_test (C := C) (l := l) (i := i) (f := f) (g := g) (h := h) I
    rw [hL] at ht
    simp only [List.length_cons] at hk hm
    by_cases htl : t = l
    · have ht' : tst C 39 endsT (M10 n l i f g h) none σ = some (true, σ) := by (refine Eq.trans (ht ..) ?_); simp [hl, htl]
      have hb := ends_body (C := C) (C' := C') (l := l) (i := i) (f := f) (g := g) (h := h) hC I hL (by (exact om235 hm))
      by_cases ha : a = openArm fs.blocks
      · rw [if_pos ha] at hb
        refine el22 (hb) fun σ1 er1 e1 I1 => ?_
        have ih := ends_loop (i := i) hl hC k L (m + 3) { fs with loops := L, doEnd := upd fs.doEnd s i, ending := upd fs.ending i ((fs.ending i).getD [] ++ [s]) } er1 σ1 (some (.int t)) (some (.int s)) (some (.int (oaI a))) rfl (by (exact Nat.le_of_lt_succ (by assumption))) (by (exact om236 hm)) I1
        have hgo : endsGo l i (openArm fs.blocks) ((t, s, a) :: L) fs.doEnd fs.ending = endsGo l i (openArm fs.blocks) L (upd fs.doEnd s i) (upd fs.ending i ((fs.ending i).getD [] ++ [s])) := by
          rw [endsGo, if_pos htl, if_pos ha]
        rw [hgo]
        have hw := whileGo_in (k := k) (step := fun ls σ => exs (ex C 39) endsB ls σ) (test := fun ls σ => tst C 39 endsT ls none σ) ht' e1
        simp only at ih
        cases hq : endsGo l i (openArm fs.blocks) L (upd fs.doEnd s i) (upd fs.ending i ((fs.ending i).getD [] ++ [s])) with
        | none =>
          rw [hq] at ih
          exact hw.trans ih
        | some y =>
          obtain ⟨L', d, e⟩ := y
          rw [hq] at ih
          refine el43 (ih) fun ls' σ' er' m' e2 J hm' => ?_
          refine ⟨ls', σ', er', m', hw.trans e2, J, ?_⟩
          simp only [List.length_cons]; (exact om237 hm')
      · rw [if_neg ha] at hb
        have hgo : endsGo l i (openArm fs.blocks) ((t, s, a) :: L) fs.doEnd fs.ending = none := by
          rw [endsGo, if_pos htl, if_neg ha]
        rw [hgo]
        exact whileGo_exc ht' hb
    · have ht' : tst C 39 endsT (M10 n l i f g h) none σ = some (false, σ) := by (refine Eq.trans (ht ..) ?_); simp [htl]
      have hgo : endsGo l i (openArm fs.blocks) ((t, s, a) :: L) fs.doEnd fs.ending = some ((t, s, a) :: L, fs.doEnd, fs.ending) := by
        rw [endsGo, if_neg htl]
      rw [hgo]
      refine ⟨_, σ, er, m, whileGo_out ht', ?_, Nat.le_refl _⟩
      have : ({ fs with loops := (t, s, a) :: L, doEnd := fs.doEnd, ending := fs.ending } : FS) = fs := by rw [<- hL]
      rw [this]; exact I
theorem noteEnds_spec {l : Int} {i : Nat} (hl : l ≠ 0) (hC : ∀ σ, C 0 [.lst (n + 6)] σ = runFn C' F_openArm [.lst (n + 6)] σ) (I : FInv n m σ0 fs br er σ) (hk : fs.loops.length < 64) (hm : m + 3 * fs.loops.length <= 2000) :
    match endsGo l i (openArm fs.blocks) fs.loops fs.doEnd fs.ending with
    | none => runFn C F_noteEnds [.flow (n + 5), .lst (n + 7), .lst (n + 6), .int l, .int i] σ = some .exc
    | some (L', d, e) => ∃ σ' er' m', runFn C F_noteEnds [.flow (n + 5), .lst (n + 7), .lst (n + 6), .int l, .int i] σ = some (.ok .none σ') /\ FInv n m' σ0 { fs with loops := L', doEnd := d, ending := e } br er' σ' /\ m' + 3 * L'.length <= m + 3 * fs.loops.length := by
  have h := ends_loop (C := C) (C' := C') (i := i) hl hC 64 fs.loops m fs er σ none none none rfl hk hm I
  cases hq : endsGo l i (openArm fs.blocks) fs.loops fs.doEnd fs.ending with
  | none =>
    rw [hq] at h
    exact runFn_exc rfl (exs_one (ex_whil.trans h))
  | some y =>
    obtain ⟨L', d, e⟩ := y
    rw [hq] at h
    refine el43 (h) fun ls' σ' er' m' e2 J hm' => ?_
    exact ⟨σ', er', m', runFn_next rfl (exs_one (ex_whil.trans e2)), J, hm'⟩
theorem noteEnds_zero {i : Nat} (I : FInv n m σ0 fs br er σ) : runFn C F_noteEnds [.flow (n + 5), .lst (n + 7), .lst (n + 6), .int 0, .int i] σ = some (.ok .none σ) := by
  have ht := ends_test (C := C) (l := 0) (i := i) (f := none) (g := none) (h := none) I
  refine runFn_next rfl (exs_one (ex_whil.trans (whileGo_out ?_)))
  refine ht.trans ?_
  cases fs.loops <;> rfl
end
end
end Mine.PL
end
section
set_option tactic.hygienic false
open PySem Mine.Eqn
namespace Mine.PL
noncomputable section
section
variable {C C' C'' : Calls} {n m N : Nat} {σ0 σ σ1 : Sto} {fs : FS} {br : List Nat} {er : Nat -> Nat} {ls : Ls} {cv : Option V} {rows : List Row} {R : Nat}
noncomputable abbrev F15 (n R : Nat) (a b c : Option V) : Ls := [some (.lst R), some (.flow (n + 5)), some (.lst (n + 6)), some (.lst (n + 7)), a, b, c, none, none, none, none, none, none, none, none]
noncomputable def flowBody : List CS := match B_flowOf with
  | [_, _, _, .forr _ _ b, _, _, _] => b
  | _ => []
noncomputable def flowB4 : CS := match flowBody with
  | [_, _, _, s, _] => s
  | _ => .cont
noncomputable def flowB5 : CS := match flowBody with
  | [_, _, _, _, s] => s
  | _ => .cont
noncomputable def pot (m : Nat) (fs : FS) : Nat := m + 3 * fs.loops.length + fs.blocks.flatten.length
structure FlowRes (n R i m : Nat) (σ0 : Sto) (fs fs' : FS) (o : Option Out) : Prop where
  ex : ∃ b' c' σ' br' er' m', (o = some (.next (F15 n R (some (.int i)) b' c') σ') \/ o = some (.cont (F15 n R (some (.int i)) b' c') σ')) /\ FInv n m' σ0 fs' br' er' σ' /\ pot m' fs' <= pot m fs + 10 /\ fs'.loops.length <= fs.loops.length + 1
theorem FlowRes.of_eq {i : Nat} {fs' : FS} {o o' : Option Out} (h : FlowRes n R i m σ0 fs fs' o') (e : o = o') : FlowRes n R i m σ0 fs fs' o := e ▸ h
section
variable {i : Nat} {r : Row} {b c : Option V}
noncomputable abbrev Fr (n R i : Nat) (r : Row) : Ls := F15 n R (some (.int i)) (some (.int r.lab)) (some (stmV r.stm))
theorem fl_word {w N : Nat} {τ : Sto} : tst C (N + 4) (.cmp (.eq) (.idx (.var 6) (.int 0)) (.str w)) (Fr n R i r) none τ = some (decide (wv r.stm = w), τ) :=
  tst_c (ev_i (ev_v rfl) ev_n (idx_word _ _)) ev_s rfl
theorem fl_in {τ : Sto} : tst C 37 (.cmp (.isin) (.idx (.var 6) (.int 0)) (.tup [.str 1, .str 2, .str 3])) (Fr n R i r) none τ = some (decide (wv r.stm = 1 \/ wv r.stm = 2 \/ wv r.stm = 3), τ) := by
  refine tst_c (ev_i (ev_v rfl) ev_n (idx_word _ _)) (vb := .tup [.str 1, .str 2, .str 3]) (by (refine Eq.trans (ev_tup ..) ?_); rfl) ?_
  cases r.stm <;> rfl
theorem fl_head (hR : Rw R rows σ) (hr : rows[i]? = some r) (hi : i < 1000000) {o : Option Out} (h : exs (ex C 39) (flowBody.drop 2) (Fr n R i r) σ = o) : exs (ex C 39) flowBody (F15 n R (some (.int i)) b c) σ = o := by
  refine (exs_next (ex_asg rfl (ev_lab hR (ev_v rfl) (ev_v rfl) hr hi))).trans ?_
  exact (exs_next (ex_asg rfl (ev_i (ev_i (ev_v rfl) (ev_v rfl) (idx_row hR hr hi)) ev_n (idx_row1 _ _)))).trans h
theorem fl_args1 : evs (fun e σ => ev C 38 e (Fr n R i r) none σ) [.var 1, .var 5, .var 4] σ = some ([.flow (n + 5), .int r.lab, .int i], σ) := rfl
theorem fl_args3 : evs (fun e σ => ev C 38 e (Fr n R i r) none σ) [.var 1, .var 3, .var 2, .var 5, .var 4] σ = some ([.flow (n + 5), .lst (n + 7), .lst (n + 6), .int r.lab, .int i], σ) := rfl
theorem fl_lab {σ1 : Sto} {o : Option Out} (hC : ∀ f F args σ, fns f = some F -> C f args σ = runFn C' F args σ) (h1 : runFn C' F_noteLabel [.flow (n + 5), .int r.lab, .int i] σ = some (.ok .none σ1)) (h : exs (ex C 39) [flowB4, flowB5] (Fr n R i r) σ1 = o) : exs (ex C 39) (flowBody.drop 2) (Fr n R i r) σ = o :=
  (exs_next (ex_xpC fl_args1 ((hC 1 _ _ _ fns_noteLabel).trans h1))).trans h
theorem fl_lab0 (hC : ∀ f F args σ, fns f = some F -> C f args σ = runFn C' F args σ) (I : FInv n m σ0 fs br er σ) (hm : m <= 4000) (h0 : r.lab = 0) {o : Option Out} (h : exs (ex C 39) [flowB4, flowB5] (Fr n R i r) σ = o) : exs (ex C 39) (flowBody.drop 2) (Fr n R i r) σ = o := by
  obtain ⟨es0, k1, k2, k3⟩ := I.d0
  exact fl_lab hC ((noteLabel_spec (C := C') (l := r.lab) (a := (i : Int)) I.f k1 (show es0.length < 4096 by (exact om238 hm k3))).trans (if_pos h0)) h
theorem fl_ends0 (hC : ∀ f F args σ, fns f = some F -> C f args σ = runFn C' F args σ) (I : FInv n m σ0 fs br er σ) (h0 : r.lab = 0) : ex C 39 flowB5 (Fr n R i r) σ = some (.next (Fr n R i r) σ) := by
  have := noteEnds_zero (C := C') (i := i) I
  rw [<- h0] at this
  exact ex_xpC fl_args3 ((hC 3 _ _ _ fns_noteEnds).trans this)
theorem fl_done (hC : ∀ f F args σ, fns f = some F -> C f args σ = runFn C' F args σ) {m' : Nat} {fs' : FS} {br' : List Nat} {er' : Nat -> Nat} {σ1 : Sto} (h0 : r.lab = 0) (h4 : ex C 39 flowB4 (Fr n R i r) σ = some (.next (Fr n R i r) σ1)) (I : FInv n m' σ0 fs' br' er' σ1) (hp : pot m' fs' <= pot m fs + 10) (hl : fs'.loops.length <= fs.loops.length + 1) :
    FlowRes n R i m σ0 fs fs' (exs (ex C 39) [flowB4, flowB5] (Fr n R i r) σ) :=
  ⟨_, _, σ1, br', er', m', .inl ((exs_next h4).trans (exs_one (fl_ends0 hC I h0))), I, hp, hl⟩
theorem flatten_ge : ∀ bs : List (List Nat), (∀ b ∈ bs, b ≠ []) -> bs.length <= bs.flatten.length
  | [], _ => Nat.le_refl _
  | [] :: _, h => absurd rfl (h [] (.head _))
  | (y :: z) :: t, h => by
    have := flatten_ge t (fun b hb => h b (.tail _ hb))
    simp only [List.length_cons, List.flatten_cons, List.length_append]
    (exact om239 this)
theorem fl_if (I : FInv n m σ0 fs br er σ) (hpot : pot m fs <= 2000) (hs : r.stm = .ifs) : ex C 39 flowB4 (Fr n R i r) σ = some (.next (Fr n R i r) (List.set (σ ++ [AO.list [.int i]]) (n + 6) (.list (br.reverse.map .lst ++ [.lst σ.length])))) := by
  refine (ex_if1 ((fl_word (N := 34)).trans (by rw [hs]; rfl))).trans (exs_one ?_)
  refine ex_xp rfl (ev_ap (ev_v rfl) I.bl (ev_l1 (ev_v rfl)) (get_app I.bl) ?_)
  have h1 := I.blen
  have h2 := flatten_ge fs.blocks I.bne
  unfold pot at hpot
  rw [List.length_map, List.length_reverse]
  (exact om240 hpot h1 h2)
theorem fl_not0 (h0 : wv r.stm ≠ 0) {o : Option Out} (h : exs (ex C 38) (elssOf flowB4) (Fr n R i r) σ = o) : ex C 39 flowB4 (Fr n R i r) σ = o := (ex_if0 ((fl_word (N := 34)).trans (by rw [decide_eq_false h0]))).trans h
theorem fl_args2 {w : Nat} (hw : wv r.stm = w) : evs (fun e σ => ev C 36 e (Fr n R i r) none σ) [.var 1, .var 2, .idx (.var 6) (.int 0), .var 4, .var 0] σ = some ([.flow (n + 5), .lst (n + 6), .str w, .int i, .lst R], σ) := by
  have hx : ev C 36 (.idx (.var 6) (.int 0)) (Fr n R i r) none σ = some (.str w, σ) := by
    rw [<- hw]; exact ev_i (ev_v rfl) ev_n (idx_word _ _)
  simp only [Eqn.evs_1, Eqn.evs_2, hx, ev_v (C := C) (n := 35) (ls := Fr n R i r) (cv := none) (σ := σ) (i := 1) (v := .flow (n + 5)) rfl, ev_v (C := C) (n := 35) (ls := Fr n R i r) (cv := none) (σ := σ) (i := 2) (v := .lst (n + 6)) rfl, ev_v (C := C) (n := 35) (ls := Fr n R i r) (cv := none) (σ := σ) (i := 4) (v := .int i) rfl, ev_v (C := C) (n := 35) (ls := Fr n R i r) (cv := none) (σ := σ) (i := 0) (v := .lst R) rfl]
theorem fl_armX (hC : ∀ f F args σ, fns f = some F -> C f args σ = runFn C' F args σ) {w : Nat} (hw : wv r.stm = w) (hw3 : w = 1 \/ w = 2 \/ w = 3) (h : runFn C' F_noteArm [.flow (n + 5), .lst (n + 6), .str w, .int i, .lst R] σ = some .exc) : ex C 39 flowB4 (Fr n R i r) σ = some .exc :=
  fl_not0 (by (exact om241 hw3 hw)) (exs_one ((ex_if1 (fl_in.trans (by rw [decide_eq_true (by (exact om242 hw3 hw))]))).trans (exs_one (ex_xpX (fl_args2 hw) ((hC 2 _ _ _ fns_noteArm).trans h)))))
theorem fl_armO (hC : ∀ f F args σ, fns f = some F -> C f args σ = runFn C' F args σ) {w : Nat} {σ1 : Sto} (hw : wv r.stm = w) (hw3 : w = 1 \/ w = 2 \/ w = 3) (h : runFn C' F_noteArm [.flow (n + 5), .lst (n + 6), .str w, .int i, .lst R] σ = some (.ok .none σ1)) : ex C 39 flowB4 (Fr n R i r) σ = some (.next (Fr n R i r) σ1) :=
  fl_not0 (by (exact om241 hw3 hw)) (exs_one ((ex_if1 (fl_in.trans (by rw [decide_eq_true (by (exact om242 hw3 hw))]))).trans (exs_one (ex_xpC (fl_args2 hw) ((hC 2 _ _ _ fns_noteArm).trans h)))))
theorem armP_loops {fin : Bool} {fs' : FS} (h : armP rows i fin fs = some fs') : fs'.loops = fs.loops := by
  unfold armP at h
  cases hb : fs.blocks with
  | nil => rw [hb] at h; cases h
  | cons bl bs =>
    induction bl using List.casesOn with
    | nil => rw [hb] at h; cases h
    | cons a arms =>
      rw [hb] at h
      simp only at h
      split at h
      · cases h
      · split at h <;> cases h <;> rfl
theorem fl_arm (hC : ∀ f F args σ, fns f = some F -> C f args σ = runFn C' F args σ) (I : FInv n m σ0 fs br er σ) (hR : Rw R rows σ0) (hn : rows.length <= 60) (hi : i < rows.length) (h0 : r.lab = 0) (hlt : ∀ a ∈ fs.blocks.flatten, a < i) (hpot : pot m fs <= 2000) (w : Nat) (hw : wv r.stm = w) (hw3 : w = 1 \/ w = 2 \/ w = 3) :
    match armP rows i (decide (w = 3)) fs with
    | none => exs (ex C 39) [flowB4, flowB5] (Fr n R i r) σ = some .exc
    | some fs' => FlowRes n R i m σ0 fs fs' (exs (ex C 39) [flowB4, flowB5] (Fr n R i r) σ) := by
  unfold pot at hpot
  have sp := noteArm_spec (C := C') (w := w) (i := i) (rows := rows) (R := R) I hR (by (exact om243 hn)) hw3 (by (exact om244 hi hn)) (fun a ha => Nat.lt_trans (hlt a ha) hi) (by (exact om245 hpot))
  cases hp : armP rows i (decide (w = 3)) fs with
  | none => rw [hp] at sp; exact exs_excd (fl_armX hC hw hw3 sp)
  | some fs' =>
    rw [hp] at sp
    obtain ⟨σ', br', m', e, J, hm'⟩ := sp
    have hl := armP_loops hp
    exact fl_done hC h0 (fl_armO hC hw hw3 e) J (by unfold pot; rw [hl]; (exact om246 hm')) (by rw [hl]; exact Nat.le_succ _)
theorem fl_do (hC : ∀ f F args σ, fns f = some F -> C f args σ = runFn C' F args σ) (I : FInv n m σ0 fs br er σ) (hL : fs.loops.length <= 100) {t : Int} (hs : r.stm = .doo t) :
    FlowRes n R i m σ0 fs { fs with loops := (t, i, openArm fs.blocks) :: fs.loops } (exs (ex C 39) [flowB4, flowB5] (Fr n R i r) σ) := by
  have htup : ev C 34 (.tup [.idx (.var 6) (.int 1), .var 4, .call 0 [.var 2]]) (Fr n R i r) none σ = some (lpV (t, i, openArm fs.blocks), σ) := by
    have hx1 : ev C 33 (.idx (.var 6) (.int 1)) (Fr n R i r) none σ = some (.int t, σ) := ev_i (ev_v rfl) ev_n (by rw [hs]; rfl)
    have hx2 : ev C 33 (.call 0 [.var 2]) (Fr n R i r) none σ = some (.int (oaI (openArm fs.blocks)), σ) := ev_ca (vs := [.lst (n + 6)]) (σ' := σ) rfl ((hC 0 _ _ _ fns_openArm).trans (openArm_spec I))
    (refine Eq.trans (ev_tup ..) ?_)
    simp only [Eqn.evs_1, Eqn.evs_2, hx1, ev_v (C := C) (n := 32) (ls := Fr n R i r) (cv := none) (σ := σ) (i := 4) (v := .int i) rfl, hx2]
    rfl
  have J := I.setL ((t, i, openArm fs.blocks) :: fs.loops)
  rw [show ((t, i, openArm fs.blocks) :: fs.loops).reverse.map lpV = fs.loops.reverse.map lpV ++ [lpV (t, i, openArm fs.blocks)] by rw [List.reverse_cons, List.map_append]; rfl] at J
  refine ⟨some (.int r.lab), some (stmV r.stm), _, br, er, m, .inr (exs_contd (fl_not0 (by rw [hs]; exact Nat.succ_ne_zero 3) (exs_one ?_))), J, ?_, Nat.le_refl _⟩
  · refine (ex_if0 (fl_in.trans (by rw [hs]; rfl))).trans (exs_one ?_)
    refine (ex_if1 ((fl_word (N := 32)).trans (by rw [hs]; rfl))).trans ?_
    refine (exs_next (ex_xp rfl (ev_ap (ev_v rfl) I.lp htup I.lp (by rw [List.length_map, List.length_reverse]; (exact om217 hL))))).trans ?_
    exact exs_contd ex_cont
  · show m + 3 * (fs.loops.length + 1) + fs.blocks.flatten.length <= m + 3 * fs.loops.length + fs.blocks.flatten.length + 10
    (exact om247)
theorem fl_cont4 (hs : r.stm = .cont) : ex C 39 flowB4 (Fr n R i r) σ = some (.next (Fr n R i r) σ) :=
  fl_not0 (by rw [hs]; decide) (exs_one ((ex_if0 (fl_in.trans (by rw [hs]; rfl))).trans (exs_one (ex_skip ((fl_word (N := 32)).trans (by rw [hs]; rfl))))))
theorem fl_label (hC : ∀ f F args σ, fns f = some F -> C f args σ = runFn C' F args σ) (hC' : ∀ f F args σ, fns f = some F -> C' f args σ = runFn C'' F args σ)
    (I : FInv n m σ0 fs br er σ) (hs : r.stm = .cont) (hlab : r.lab ≠ 0) (hpot : pot m fs <= 1000) (hL : fs.loops.length < 64) :
    match flowStep rows i r fs with
    | none => exs (ex C 39) (flowBody.drop 2) (Fr n R i r) σ = some .exc
    | some fs' => FlowRes n R i m σ0 fs fs' (exs (ex C 39) (flowBody.drop 2) (Fr n R i r) σ) := by
  obtain ⟨es0, k1, k2, k3⟩ := I.d0
  unfold pot at hpot
  have nl := noteLabel_spec (C := C') (l := r.lab) (a := (i : Int)) I.f k1 (show es0.length < 4096 by (exact om248 hpot k3))
  have hiso : (lookI es0 r.lab).isSome = (fs.labels r.lab).isSome := by rw [k2.look]; cases fs.labels r.lab <;> rfl
  rw [if_neg hlab, hiso] at nl
  simp only [flowStep, hs, if_neg hlab]
  cases hl : (fs.labels r.lab).isSome with
  | true =>
    rw [hl, if_pos rfl] at nl
    exact exs_excd (ex_xpX fl_args1 ((hC 1 _ _ _ fns_noteLabel).trans nl))
  | false =>
    rw [hl, if_neg Bool.false_ne_true] at nl
    rw [if_neg Bool.false_ne_true]
    have I1 := I.lab k1 (l := r.lab) (i := i)
    have sp := noteEnds_spec (C := C') (C' := C'') (i := i) hlab (fun σ => hC' 0 _ _ _ fns_openArm) I1 hL (show m + 1 + 3 * fs.loops.length <= 2000 by (exact om249 hpot))
    simp only at sp
    cases hq : endsGo r.lab i (openArm fs.blocks) fs.loops fs.doEnd fs.ending with
    | none =>
      rw [hq] at sp
      exact fl_lab hC nl ((exs_next (fl_cont4 hs)).trans (exs_excd (ex_xpX fl_args3 ((hC 3 _ _ _ fns_noteEnds).trans sp))))
    | some y =>
      obtain ⟨L', d, e⟩ := y
      rw [hq] at sp
      obtain ⟨σ', er', m', e2, J, hm'⟩ := sp
      obtain ⟨pre, h1, _⟩ := endsGo_some hq
      refine ⟨_, _, σ', br, er', m', .inl (fl_lab hC nl ((exs_next (fl_cont4 hs)).trans (exs_one (ex_xpC fl_args3 ((hC 3 _ _ _ fns_noteEnds).trans e2))))), J, ?_, ?_⟩
      · unfold pot; simp only; (exact om250 hm')
      · simp only [h1, List.length_append]; (exact om251)
theorem flow_step (hC : ∀ f F args σ, fns f = some F -> C f args σ = runFn C' F args σ) (hC' : ∀ f F args σ, fns f = some F -> C' f args σ = runFn C'' F args σ)
    (I : FInv n m σ0 fs br er σ) (hR : Rw R rows σ0) (hn : rows.length <= 60) (hr : rows[i]? = some r) (good : ∀ r ∈ rows, GoodRow r) (hlt : ∀ a ∈ fs.blocks.flatten, a < i) (hpot : pot m fs <= 10 * i) (hL : fs.loops.length <= i) :
    match flowStep rows i r fs with
    | none => exs (ex C 39) flowBody (F15 n R (some (.int i)) b c) σ = some .exc
    | some fs' => FlowRes n R i m σ0 fs fs' (exs (ex C 39) flowBody (F15 n R (some (.int i)) b c) σ) := by
  have hi := (List.getElem?_eq_some_iff.mp hr).1
  rw [fl_head (I.ext.rw hR) hr (by (exact om252 hi hn)) rfl]
  by_cases hs : r.stm = .cont /\ r.lab ≠ 0
  · exact fl_label hC hC' I hs.1 hs.2 (by (exact om253 hi hpot hn)) (by (exact om254 hi hn hL))
  · have h0 : r.lab = 0 := Classical.byContradiction fun q => hs ⟨lab_cont good hr q, q⟩
    have hm : m <= 4000 := by unfold pot at hpot; (exact om255 hpot hi hn)
    rw [fl_lab0 hC I hm h0 rfl]
    have arm := fl_arm (C := C) hC I hR hn hi h0 hlt (by (exact om256 hi hpot hn))
    cases hst : r.stm with
    | ifs =>
      simp only [flowStep, hst]
      exact fl_done hC h0 (fl_if I (by (exact om256 hi hpot hn)) hst) (I.open_ i) (by unfold pot; simp only [List.flatten_cons, List.length_append, List.length_cons, List.length_nil]; (exact om257)) (Nat.le_succ _)
    | elif => simp only [flowStep, hst]; exact arm 1 (by rw [hst]; rfl) (.inl rfl)
    | els => simp only [flowStep, hst]; exact arm 2 (by rw [hst]; rfl) (.inr (.inl rfl))
    | endif => simp only [flowStep, hst]; exact arm 3 (by rw [hst]; rfl) (.inr (.inr rfl))
    | doo t => simp only [flowStep, hst]; exact fl_do hC I (by (exact om258 hi hn hL)) hst
    | cont =>
      simp only [flowStep, hst, h0, if_true]
      exact fl_done hC h0 (fl_cont4 hst) I (Nat.le_add_right _ _) (Nat.le_succ _)
end
end
end
end Mine.PL
end
section
set_option tactic.hygienic false
open PySem Mine.Eqn
namespace Mine.PL
section
variable {C C' C'' : Calls} {rows : List Row} {R : Nat} {σ : Sto}
theorem flowAt_none {i : Nat} (h : flowAt rows i = none) : ∀ k, flowAt rows (i + k) = none
  | 0 => h
  | k + 1 => by
    have := flowAt_none h k
    rw [<- Nat.add_assoc]
    simp only [flowAt_2, this]
theorem get_at {σ τ : Sto} {k : Nat} : (σ ++ τ)[σ.length + k]? = τ[k]? := by
  rw [List.getElem?_append_right (Nat.le_add_right _ _), Nat.add_sub_cancel_left]
theorem DN.nil : DN [] (fun _ => none) := ⟨List.nodup_nil, fun k => by unfold liftN; split <;> rfl⟩
theorem FInv.zero (σ : Sto) : FInv σ.length 0 σ FS0 [] (fun _ => 0) (σ ++ [.dict [], .dict [], .dict [], .dict [], .dict [], .attrs [σ.length, σ.length + 1, σ.length + 2, σ.length + 3, σ.length + 4], .list [], .list []]) := ⟨fun j => [AO.dict [], .dict [], .dict [], .dict [], .dict [], .attrs [σ.length, σ.length + 1, σ.length + 2, σ.length + 3, σ.length + 4], .list [], .list []][j]?, {
  ext := Ext.app _ _
  len := rfl
  fix := fun j o e => get_at.trans e
  f := rfl
  d0 := ⟨[], rfl, ⟨List.nodup_nil, fun _ => rfl⟩, Nat.le_refl _⟩
  d1 := ⟨[], rfl, DN.nil, Nat.le_refl _⟩
  d2 := ⟨[], rfl, DN.nil, Nat.le_refl _⟩
  d3 := ⟨[], rfl, DN.nil, Nat.le_refl _⟩
  d4 := ⟨[], rfl, ⟨List.nodup_nil, fun k => by unfold liftN; split <;> rfl⟩, Nat.le_refl _⟩
  el := fun k l h => nomatch h
  einj := fun k k' h => absurd rfl h
  bl := rfl
  blen := rfl
  bnd := List.nodup_nil
  bge := fun x h => nomatch h
  bs := fun k x b h => nomatch h
  bne := fun b h => nomatch h
  lp := rfl }⟩
theorem flowOf_spec (hC : ∀ f F args σ, fns f = some F -> C f args σ = runFn C' F args σ) (hC' : ∀ f F args σ, fns f = some F -> C' f args σ = runFn C'' F args σ)
    (hR : Rw R rows σ) (hn : rows.length <= 60) (good : ∀ r ∈ rows, GoodRow r) :
    (∃ fs σ' br er m, flowAt rows rows.length = some fs /\ fs.blocks = [] /\ fs.loops = [] /\ runFn C F_flowOf [.lst R] σ = some (.ok (.flow (σ.length + 5)) σ') /\ FInv σ.length m σ fs br er σ') \/
    ((¬ ∃ fs, flowAt rows rows.length = some fs /\ fs.blocks = [] /\ fs.loops = []) /\ runFn C F_flowOf [.lst R] σ = some .exc) := by
  have I0 := FInv.zero σ
  have e1 : ex C 40 (.assign 1 .newflow) [some (.lst R), none, none, none, none, none, none, none, none, none, none, none, none, none, none] σ = some (.next [some (.lst R), some (.flow (σ.length + 5)), none, none, none, none, none, none, none, none, none, none, none, none, none] (σ ++ [.dict [], .dict [], .dict [], .dict [], .dict [], .attrs [σ.length, σ.length + 1, σ.length + 2, σ.length + 3, σ.length + 4]])) :=
    ex_asg rfl ev_newflow
  generalize hσ1 : (σ ++ [AO.dict [], .dict [], .dict [], .dict [], .dict [], .attrs [σ.length, σ.length + 1, σ.length + 2, σ.length + 3, σ.length + 4]]) = σ1 at *
  have hl1 : σ1.length = σ.length + 6 := by rw [<- hσ1]; simp
  have e2 : ex C 40 (.assign 2 (.lst [])) [some (.lst R), some (.flow (σ.length + 5)), none, none, none, none, none, none, none, none, none, none, none, none, none] σ1 = some (.next [some (.lst R), some (.flow (σ.length + 5)), some (.lst (σ.length + 6)), none, none, none, none, none, none, none, none, none, none, none, none] (σ1 ++ [.list []])) :=
    ex_asg rfl (by rw [ev_lst, <- hl1]; rfl)
  have hl2 : (σ1 ++ [AO.list []]).length = σ.length + 7 := by simp [hl1]
  have e3 : ex C 40 (.assign 3 (.lst [])) [some (.lst R), some (.flow (σ.length + 5)), some (.lst (σ.length + 6)), none, none, none, none, none, none, none, none, none, none, none, none] (σ1 ++ [.list []]) = some (.next (F15 σ.length R none none none) (σ1 ++ [.list []] ++ [.list []])) :=
    ex_asg rfl (by rw [ev_lst, <- hl2]; rfl)
  have hσ3 : σ1 ++ [AO.list []] ++ [AO.list []] = σ ++ [.dict [], .dict [], .dict [], .dict [], .dict [], .attrs [σ.length, σ.length + 1, σ.length + 2, σ.length + 3, σ.length + 4], .list [], .list []] := by
    rw [<- hσ1]; simp
  rw [hσ3] at e3
  generalize hσ4 : (σ ++ [AO.dict [], .dict [], .dict [], .dict [], .dict [], .attrs [σ.length, σ.length + 1, σ.length + 2, σ.length + 3, σ.length + 4], .list [], .list []]) = σ4 at *
  have hrng : ev C 39 (.range1 (.len (.var 0))) (F15 σ.length R none none none) none σ4 = some (.rng 0 rows.length, σ4) := by
    have h2 : ev C 38 (.len (.var 0)) (F15 σ.length R none none none) none σ4 = some (.int rows.length, σ4) := by
      rw [ev_l (ev_v rfl) (I0.ext.rw hR), List.length_map]
    rw [ev_range1, h2]
    simp only [tiny_of (i := (rows.length : Int)) (by (exact on15)) (by (exact om259 hn)), if_true]
  have loop := for_rule (C := C) (n := 39) (i := 4) (body := flowBody) (fun k ls σ' => ∃ fs a b c br er m, flowAt rows k = some fs /\ ls = F15 σ.length R a b c /\ FInv σ.length m σ fs br er σ' /\ pot m fs <= 10 * k /\ fs.loops.length <= k)
    (fun o => o = .exc /\ flowAt rows rows.length = none) hrng ⟨FS0, none, none, none, [], _, 0, rfl, rfl, I0, by simp [pot, FS0], by simp [FS0]⟩
    (fun k ls σ' hk hI => by
      obtain ⟨fs, a, b, c, br, er, m, hfs, rfl, I, hp, hL⟩ := hI
      have hlt : k < rows.length := by (exact om203 hk)
      have hr : rows[k]? = some rows[k] := List.getElem?_eq_getElem hlt
      generalize rows[k] = r at hr
      have hS : flowAt rows (k + 1) = flowStep rows k r fs := by rw [flowAt, hfs, hr]
      have st := flow_step (C := C) (b := b) (c := c) hC hC' I hR hn hr good (fun a ha => ((flowAt_AI hfs).lt a ha).1) hp hL
      rw [Int.zero_add]
      refine cpf fun rq => ?_
      cases hq : flowStep rows k r fs with
      | none =>
        rw [hq] at st
        refine rq ?_
        refine .inr ⟨_, st, trivial, rfl, ?_⟩
        have := flowAt_none (hS.trans hq) (rows.length - (k + 1))
        (refine Eq.trans (?_) (this ..)); congr 1; (exact om204 hk)
      | some fs' =>
        rw [hq] at st
        obtain ⟨b', c', σ2, br', er', m', e, I', g1, g2⟩ := st.ex
        refine rq ?_
        exact .inl ⟨_, σ2, e, fs', _, b', c', br', er', m', hS.trans hq, rfl, I', by (exact om260 hp g1), by (exact om72 g2 hL)⟩)
  refine cpf fun rq => ?_
  rcases loop with ⟨ls', σ', e4, fs, a, b, c, br, er, m, hfs, rfl, I, _, _⟩ | ⟨o, e4, _, rfl, hA⟩
  · have hk : ((rows.length : Int) - 0).toNat = rows.length := by (rfl)
    rw [hk] at hfs
    have run : ∀ o, exs (ex C 40) [.ite (.var 2) [.raise] [], .ite (.var 3) [.raise] [], .ret (.var 1)] (F15 σ.length R a b c) σ' = some o -> exs (ex C 40) F_flowOf.body (initLs F_flowOf [.lst R]) σ = some o := fun o ho => by
      refine (exs_next e1).trans ?_
      refine (exs_next e2).trans ?_
      refine (exs_next e3).trans ?_
      exact (exs_next e4).trans ho
    have t2 : tst C 39 (.var 2) (F15 σ.length R a b c) none σ' = some (!(br.reverse.map V.lst).isEmpty, σ') := is_lst rfl I.bl
    have t3 : tst C 39 (.var 3) (F15 σ.length R a b c) none σ' = some (!(fs.loops.reverse.map lpV).isEmpty, σ') := is_lst rfl I.lp
    by_cases hb : fs.blocks = []
    · have hbr : br = [] := by have := I.blen; rw [hb] at this; exact List.eq_nil_of_length_eq_zero this
      rw [hbr] at t2
      by_cases hl : fs.loops = []
      · rw [hl] at t3
        refine rq ?_
        refine .inl ⟨fs, σ', br, er, m, hfs, hb, hl, runFn_ret rfl (run _ ?_), I⟩
        refine (exs_next (ex_skip t2)).trans ?_
        refine (exs_next (ex_skip t3)).trans ?_
        exact exs_one (ex_rt (ev_v rfl))
      · refine rq ?_
        refine .inr ⟨fun ⟨fs', h1, _, h3⟩ => ?_, runFn_exc rfl (run _ ?_)⟩
        · (replace h1 := Eq.trans (Eq.symm (hfs ..)) (h1)); cases h1; exact hl h3
        · refine (exs_next (ex_skip t2)).trans ?_
          refine exs_excd ((ex_if1 (σ' := σ') ?_).trans (exs_one ex_raise))
          (refine Eq.trans (t3 ..) ?_)
          cases hq : fs.loops with
          | nil => exact absurd hq hl
          | cons x L => simp [isEmpty_snoc]
    · refine rq ?_
      refine .inr ⟨fun ⟨fs', h1, h2, _⟩ => ?_, runFn_exc rfl (run _ ?_)⟩
      · (replace h1 := Eq.trans (Eq.symm (hfs ..)) (h1)); cases h1; exact hb h2
      · refine exs_excd ((ex_if1 (σ' := σ') ?_).trans (exs_one ex_raise))
        (refine Eq.trans (t2 ..) ?_)
        cases hq : br with
        | nil => have := I.blen; rw [hq] at this; exact absurd (List.eq_nil_of_length_eq_zero this.symm) hb
        | cons x L => simp [isEmpty_snoc]
  · refine rq ?_
    refine .inr ⟨fun ⟨fs', h1, _, _⟩ => ?_, runFn_exc rfl ?_⟩
    · (replace h1 := Eq.trans (Eq.symm (hA ..)) (h1)); cases h1
    · refine (exs_next e1).trans ?_
      refine (exs_next e2).trans ?_
      refine (exs_next e3).trans ?_
      exact exs_excd e4
end
end Mine.PL
end
section
set_option tactic.hygienic false
open PySem Mine.Eqn
namespace Mine.PL
noncomputable section
section
variable {rows : List Row} {σ : Sto}
theorem eqGo_of {b : List (Int × V)} (heq : ∀ v w : V, v = w -> ∀ f : V, True) : ∀ (a : List (Int × V)), (∀ p ∈ a, ∃ w, lookI b p.1 = some w /\ eqD σ p.2 w = some true) -> eqDicts.go σ b a = some true
  | [], _ => rfl
  | (k, v) :: r, h => by
    refine el12 (h (k, v) (.head _)) fun w h1 h2 => ?_
    have ih := eqGo_of heq r (fun p hp => h p (.tail _ hp))
    simp only [Eqn.eqGo_2, h1, h2, ih, Bool.and_self]
theorem lookI_of_mem {a : List (Int × V)} (hn : (a.map (·.1)).Nodup) {p : Int × V} (hp : p ∈ a) : lookI a p.1 = some p.2 := by
  induction a with
  | nil => cases hp
  | cons x r ih =>
    obtain ⟨k, v⟩ := x
    rw [List.map_cons, List.nodup_cons] at hn
    rcases List.mem_cons.mp hp with rfl | hp
    · simp [Eqn.lookI_2]
    · have : k ≠ p.1 := fun q => hn.1 (by show k ∈ _; rw [q]; exact List.mem_map_of_mem (f := fun x : Int × V => x.1) hp)
      simp only [Eqn.lookI_2, if_neg this]
      exact ih hn.2 hp
theorem eqDicts_of {a b : List (Int × V)} (ha : (a.map (·.1)).Nodup) (hb : (b.map (·.1)).Nodup)
    (h : ∀ k, match lookI a k, lookI b k with | none, none => True | some v, some w => eqD σ v w = some true | _, _ => False) : eqDicts σ a b = some true := by
  have hk : ∀ k, k ∈ a.map (·.1) ↔ k ∈ b.map (·.1) := fun k => by
    have := h k
    refine cpf fun rq => ?_
    cases h1 : lookI a k with
    | none =>
      cases h2 : lookI b k with
      | none => refine rq ?_; exact ⟨fun q => absurd q (lookI_none.mp h1), fun q => absurd q (lookI_none.mp h2)⟩
      | some w => refine rq ?_; rw [h1, h2] at this; exact this.elim
    | some v =>
      cases h2 : lookI b k with
      | none => refine rq ?_; rw [h1, h2] at this; exact this.elim
      | some w =>
        refine rq ?_
        constructor
        · intro _; exact Classical.byContradiction fun q => by (replace h2 := Eq.trans (Eq.symm (lookI_none.mpr q ..)) (h2)); cases h2
        · intro _; exact Classical.byContradiction fun q => by rw [lookI_none.mpr q] at h1; cases h1
  have hl : a.length = b.length := by
    have := ((List.perm_ext_iff_of_nodup ha hb).mpr hk).length_eq
    simpa using this
  unfold eqDicts
  (refine Eq.trans (if_neg (by simp [hl]) ..) ?_)
  refine eqGo_of (fun _ _ _ _ => trivial) a fun p hp => ?_
  have h1 := lookI_of_mem ha hp
  have := h p.1
  rw [h1] at this
  cases h2 : lookI b p.1 with
  | none => rw [h2] at this; exact this.elim
  | some w => rw [h2] at this; exact ⟨w, rfl, this⟩
theorem eqDicts_int {a b : List (Int × V)} {f : Int -> Option Nat} (ha : DI a (fun i => iV (f i))) (hb : DI b (fun i => iV (f i))) : eqDicts σ a b = some true :=
  eqDicts_of ha.nd hb.nd fun k => by
    rw [ha.look, hb.look]
    cases f k with
    | none => trivial
    | some v => simp [iV, Eqn.eqD_1]
noncomputable def dictOf (d ps : List (Int × V)) : List (Int × V) := ps.foldl (fun d p => putI d p.1 p.2) d
theorem dictOf_nodup : ∀ (ps d : List (Int × V)), ((d ++ ps).map (·.1)).Nodup -> dictOf d ps = d ++ ps
  | [], d, _ => by simp [dictOf]
  | (k, v) :: r, d, h => by
    have hk : lookI d k = none := lookI_none.mpr fun q => by
      rw [List.map_append, List.nodup_append] at h
      exact h.2.2 k q k (by simp) rfl
    have ih := dictOf_nodup r (d ++ [(k, v)]) (by simpa using h)
    show dictOf (putI d k v) r = _
    rw [putI_new hk, ih]
    simp
theorem dictOf_len : ∀ (ps d : List (Int × V)), (dictOf d ps).length <= d.length + ps.length /\ ((dictOf d ps).length = d.length + ps.length -> (∀ k ∈ ps.map (·.1), k ∉ d.map (·.1)) /\ (ps.map (·.1)).Nodup)
  | [], d => ⟨Nat.le_refl _, fun _ => ⟨fun k h => (nomatch h), List.nodup_nil⟩⟩
  | (k, v) :: r, d => by
    refine el02 (dictOf_len r (putI d k v)) fun h1 h2 => ?_
    have e : dictOf d ((k, v) :: r) = dictOf (putI d k v) r := rfl
    have hp := putI_len (es := d) (k := k) (v := v)
    have hkeys := putI_keys (es := d) (k := k) (v := v)
    rw [e]
    simp only [List.length_cons]
    refine ⟨by (exact om261 hp h1), fun hl => ?_⟩
    by_cases hk : k ∈ d.map (·.1)
    · (replace hkeys := Eq.trans (hkeys) (if_pos hk ..))
      have : (putI d k v).length = d.length := by have := congrArg List.length hkeys; simpa using this
      omega
    · (replace hkeys := Eq.trans (hkeys) (if_neg hk ..))
      have hle : (putI d k v).length = d.length + 1 := by have := congrArg List.length hkeys; simpa using this
      refine el02 (h2 (by (exact om262 hl hp h1))) fun h3 h4 => ?_
      rw [hkeys] at h3
      constructor
      · intro k' hk'
        rcases List.mem_cons.mp hk' with rfl | hk'
        · exact hk
        · intro q; exact h3 k' hk' (List.mem_append_left _ q)
      · rw [List.map_cons, List.nodup_cons]
        exact ⟨fun q => h3 k q (by simp), h4⟩
theorem dictOf_iff (ps : List (Int × V)) : (dictOf [] ps).length = ps.length ↔ (ps.map (·.1)).Nodup := by
  constructor
  · intro h
    exact ((dictOf_len ps []).2 (by simpa using h)).2
  · intro h
    rw [dictOf_nodup ps [] (by simpa using h)]
    simp
noncomputable def labsOf (rows : List Row) : List Int := (rows.filter fun r => decide (r.lab ≠ 0)).map (·.lab)
theorem told_iff : (labsOf rows).Nodup ↔ Told rows := by
  unfold labsOf Told
  rw [List.nodup_iff_pairwise_ne, List.pairwise_map, List.pairwise_filter, List.pairwise_iff_getElem]
  constructor
  · intro h i j h0 h1
    have hi := labAt_lt h0
    have hj : j < rows.length := labAt_lt (by rw [<- h1]; exact h0)
    have ei := labAt_some (List.getElem?_eq_getElem hi)
    have ej := labAt_some (List.getElem?_eq_getElem hj)
    rw [ei] at h0
    rw [ei, ej] at h1
    rcases Nat.lt_trichotomy i j with q | q | q
    · exact absurd h1 (h i j hi hj q (by simpa using h0) (by rw [<- h1]; simpa using h0))
    · exact q
    · exact absurd h1.symm (h j i hj hi q (by rw [<- h1]; simpa using h0) (by simpa using h0))
  · intro h i j hi hj hij h0 h1 he
    have ei := labAt_some (List.getElem?_eq_getElem hi)
    have ej := labAt_some (List.getElem?_eq_getElem hj)
    have := h i j (by rw [ei]; simpa using h0) (by rw [ei, ej, he])
    (exact om263 hij this)
noncomputable def labPairs (rows : List Row) : List (Int × V) := ((List.range rows.length).filter fun p => decide (labAt rows p ≠ 0)).map fun (p : Nat) => (labAt rows p, V.int p)
theorem labPairs_nodup (ht : Told rows) : ((labPairs rows).map (·.1)).Nodup := by
  unfold labPairs
  rw [List.nodup_iff_pairwise_ne, List.map_map, List.pairwise_map, List.pairwise_filter]
  refine List.Pairwise.imp ?_ List.pairwise_lt_range
  intro a b hab ha hb he
  have := ht a b (by simpa using ha) he
  (exact om263 hab this)
theorem labPairs_DL {fs : FS} {A : List (List Nat)} (ht : Told rows) (I : FI rows rows.length fs A) : DL (labPairs rows) fs.labels where
  nd := labPairs_nodup ht
  look := fun k => by
    cases h : fs.labels k with
    | none =>
      refine lookI_none.mpr fun q => ?_
      refine el12 (List.mem_map.mp q) fun x hx q146_2 => ?_
      subst q146_2
      refine el12 (List.mem_map.mp hx) fun p hp q147_2 => ?_
      subst q147_2
      simp only [List.mem_filter, List.mem_range] at hp
      have := (I.labels (labAt rows p) p).mpr ⟨hp.1, by simpa using hp.2, rfl⟩
      (replace this := Eq.trans (Eq.symm (h ..)) (this)); cases this
    | some p =>
      refine el03 ((I.labels k p).mp h) fun a b c => ?_
      have : ((k, V.int p) : Int × V) ∈ labPairs rows := by
        refine List.mem_map.mpr ⟨p, ?_, by rw [c]⟩
        simp only [List.mem_filter, List.mem_range]
        exact ⟨a, by rw [c]; simpa using b⟩
      exact lookI_of_mem (labPairs_nodup ht) this
theorem ins_last {x : Int} : ∀ {l : List Int}, (∀ y ∈ l, x < y) -> sortDown.ins x l = l ++ [x]
  | [], _ => rfl
  | y :: r, h => by
    have := ins_last (x := x) (l := r) (fun z hz => h z (.tail _ hz))
    simp only [sortDown.ins, if_pos (h y (.head _)), this, List.cons_append]
theorem sortDown_asc : ∀ {l : List Int}, l.Pairwise (· < ·) -> sortDown l = l.reverse
  | [], _ => rfl
  | x :: r, h => by
    rw [List.pairwise_cons] at h
    have ih := sortDown_asc h.2
    rw [sortDown, ih, ins_last (fun y hy => h.1 y (List.mem_reverse.mp hy)), List.reverse_cons]
theorem desc_ext : ∀ {a b : List Nat}, a.Pairwise (· > ·) -> b.Pairwise (· > ·) -> (∀ x, x ∈ a ↔ x ∈ b) -> a = b
  | [], [], _, _, _ => rfl
  | [], y :: r, _, _, h => by have := (h y).mpr (.head _); cases this
  | x :: r, [], _, _, h => by have := (h x).mp (.head _); cases this
  | x :: r, y :: t, ha, hb, h => by
    rw [List.pairwise_cons] at ha hb
    have hxy : x = y := by
      have h1 := (h x).mp (.head _)
      have h2 := (h y).mpr (.head _)
      rcases List.mem_cons.mp h1 with q | q
      · exact q
      · rcases List.mem_cons.mp h2 with q2 | q2
        · exact q2.symm
        · have := hb.1 x q; have := ha.1 y q2; (exact om264 (by assumption) this)
    subst hxy
    congr 1
    refine desc_ext ha.2 hb.2 fun z => ?_
    have hz := h z
    constructor
    · intro q
      have := ha.1 z q
      rcases List.mem_cons.mp (hz.mp (.tail _ q)) with q2 | q2
      · omega
      · exact q2
    · intro q
      have := hb.1 z q
      rcases List.mem_cons.mp (hz.mpr (.tail _ q)) with q2 | q2
      · omega
      · exact q2
end
end
end Mine.PL
end
section
set_option tactic.hygienic false
open PySem Mine.Eqn
namespace Mine.PL
noncomputable section
theorem run_fns (l : Nat) : ∀ f F args σ, fns f = some F -> run (l + 1) f args σ = runFn (run l) F args σ := fun f F args σ h => by
  show (match fns f with | some F => runFn (run l) F args σ | none => none) = _
  rw [h]
theorem ev_isNot {C : Calls} {n : Nat} {ls : Ls} {cv : Option V} {σ σ1 : Sto} {e : CE} {v : V} (h : ev C (n + 1) e ls cv σ = some (v, σ1)) : ev C (n + 2) (.cmp .isNot e .none) ls cv σ = some (.bool (!isNoneV v), σ1) :=
  ev_c h ev_none (by induction v using V.casesOn <;> rfl)
theorem ev_and2 {C : Calls} {n : Nat} {ls : Ls} {cv : Option V} {σ σ1 σ2 : Sto} {a b : CE} {v : V} (h : ev C n a ls cv σ = some (.bool true, σ1)) (h2 : ev C n b ls cv σ1 = some (v, σ2)) : ev C (n + 1) (.and [a, b]) ls cv σ = some (v, σ2) := by
  (refine Eq.trans (ev_and ..) ?_)
  simp only [Eqn.andV_2, Eqn.andV_3, h, h2]
theorem ev_and1 {C : Calls} {n : Nat} {ls : Ls} {cv : Option V} {σ σ1 : Sto} {a b : CE} (h : ev C n a ls cv σ = some (.bool false, σ1)) : ev C (n + 1) (.and [a, b]) ls cv σ = some (.bool false, σ1) := by
  (refine Eq.trans (ev_and ..) ?_)
  simp only [Eqn.andV_3, h]
noncomputable def labOfV : V -> Int
  | .tup (.int l :: _) => l
  | _ => 0
theorem comp_list {C : Calls} {n : Nat} {ls : Ls} {σ : Sto} {it elt : CE} {conds : List CE} {x : Nat} {items : List V} (g : V -> V) (p : V -> Bool) (hit : ev C n it ls none σ = some (.lst x, σ)) (hx : σ[x]? = some (.list items))
    (h1 : ∀ y ∈ items, allT (fun e τ => tst C n e ls (some y) τ) conds σ = some (p y, σ)) (h2 : ∀ y ∈ items, p y = true -> ev C n elt ls (some y) σ = some (g y, σ)) (hl : items.length <= 4096) :
    ev C (n + 1) (.comp elt it conds false) ls none σ = some (.lst σ.length, σ ++ [.list ((items.filter p).map g)]) := by
  have hc := compGo_map (chk := chkItems (.lst x) items) (conds := fun y τ => allT (fun e τ => tst C n e ls (some y) τ) conds τ) (elt := fun y τ => ev C n elt ls (some y) τ) (σ := σ) g p (chk_lst (getL_of hx)) (items := items) (acc := []) h1 h2 (by rw [List.length_nil, Nat.zero_add]; exact hl)
  rw [ev_comp, hit]
  have hio : itemsOf (.lst x) σ = some items := getL_of hx
  simp only [hio, Bool.false_and, Bool.false_eq_true, if_false, hc, List.nil_append]
theorem comp_rng {C : Calls} {n : Nat} {ls : Ls} {σ : Sto} {it elt : CE} {conds : List CE} {lo hi : Int} (g : V -> V) (p : V -> Bool) (hit : ev C n it ls none σ = some (.rng lo hi, σ))
    (h1 : ∀ y ∈ rng lo hi, allT (fun e τ => tst C n e ls (some y) τ) conds σ = some (p y, σ)) (h2 : ∀ y ∈ rng lo hi, p y = true -> ev C n elt ls (some y) σ = some (g y, σ)) (hl : (rng lo hi).length <= 4096) :
    ev C (n + 1) (.comp elt it conds false) ls none σ = some (.lst σ.length, σ ++ [.list (((rng lo hi).filter p).map g)]) := by
  have hc := compGo_map (chk := chkItems (.rng lo hi) (rng lo hi)) (conds := fun y τ => allT (fun e τ => tst C n e ls (some y) τ) conds τ) (elt := fun y τ => ev C n elt ls (some y) τ) (σ := σ) g p (chk_rng' σ) (items := rng lo hi) (acc := []) h1 h2 (by rw [List.length_nil, Nat.zero_add]; exact hl)
  rw [ev_comp, hit]
  have hio : itemsOf (.rng lo hi) σ = some (rng lo hi) := rfl
  simp only [hio, Bool.false_and, Bool.false_eq_true, if_false, hc, List.nil_append]
theorem allT_one {f : CE -> Sto -> Option (Bool × Sto)} {e : CE} {σ : Sto} {b : Bool} (h : f e σ = some (b, σ)) : allT f [e] σ = some (b, σ) := by
  simp only [Eqn.allT_1, Eqn.allT_2, h]; induction b using Bool.casesOn <;> rfl
theorem tst_ix {C : Calls} {n : Nat} {ls : Ls} {cv : Option V} {σ : Sto} {o i : CE} {k : Int} (h : ev C n (.idx o i) ls cv σ = some (.int k, σ)) : tst C (n + 1) (.idx o i) ls cv σ = some (decide (k ≠ 0), σ) := by
  rw [tst_idx, h]; rfl
theorem ev_mkd {C : Calls} {n : Nat} {ls : Ls} {cv : Option V} {σ σ1 : Sto} {e : CE} {x : Nat} {vs : List V} {ps : List (Int × V)} (h : ev C n e ls cv σ = some (.lst x, σ1)) (hx : σ1[x]? = some (.list vs)) (hp : pairsOfV vs = some ps) :
    ev C (n + 1) (.mkdict e) ls cv σ = some (.dct σ1.length, σ1 ++ [.dict (dictOf [] ps)]) := by
  have e0 : ev C (n + 1) (.mkdict e) ls cv σ = match ev C n e ls cv σ with
      | some (.lst m, σ) => (match (getL σ m).bind pairsOfV with
        | some ps => some (.dct σ.length, σ ++ [.dict (ps.foldl (fun d p => putI d p.1 p.2) [])])
        | none => none)
      | _ => none := rfl
  rw [e0, h]
  simp only [getL_of hx, Option.bind, hp]
  rfl
theorem ev_ld {C : Calls} {n : Nat} {ls : Ls} {cv : Option V} {σ σ1 : Sto} {e : CE} {x : Nat} {es : List (Int × V)} (h : ev C n e ls cv σ = some (.dct x, σ1)) (hx : σ1[x]? = some (.dict es)) : ev C (n + 1) (.len e) ls cv σ = some (.int es.length, σ1) := by
  rw [ev_len, h]
  simp only [getD_of hx]
  rfl
noncomputable abbrev K23 (a0 a1 a2 a3 a4 a5 a6 a7 a8 a9 a10 a11 a12 : Option V) : Ls := [a0, a1, a2, a3, a4, a5, a6, a7, a8, a9, a10, a11, a12, none, none, none, none, none, none, none, none, none, none]
noncomputable def lawTail : List CS := B_law.drop 6
section
variable {C : Calls} {R : Nat} {rows : List Row} {σ : Sto}
theorem told_comp {a0 a1 a3 a4 a5 a6 : Option V} (hR : Rw R rows σ) (hn : rows.length <= 100) :
    ev C 39 (.comp (.idx (.cv) (.int 0)) (.var 2) [.idx (.cv) (.int 0)] false) (K23 a0 a1 (some (.lst R)) a3 a4 a5 a6 none none none none none none) none σ = some (.lst σ.length, σ ++ [.list ((labsOf rows).map .int)]) := by
  have key : ∀ y ∈ rows.map rowV, ∀ N, ev C (N + 2) (.idx (.cv) (.int 0)) (K23 a0 a1 (some (.lst R)) a3 a4 a5 a6 none none none none none none) (some y) σ = some (.int (labOfV y), σ) := fun y hy N => by
    refine el12 (List.mem_map.mp hy) fun r _ q65_2 => ?_
    subst q65_2
    exact ev_i (by (exact (ev_cv ..))) ev_n rfl
  have := comp_list (C := C) (n := 38) (ls := K23 a0 a1 (some (.lst R)) a3 a4 a5 a6 none none none none none none) (it := .var 2) (elt := .idx (.cv) (.int 0)) (conds := [.idx (.cv) (.int 0)]) (fun y => .int (labOfV y)) (fun y => decide (labOfV y ≠ 0)) (ev_v rfl) hR
    (fun y hy => allT_one (tst_ix (key y hy 35))) (fun y hy _ => key y hy 36) (by rw [List.length_map]; (exact om265 hn))
  (refine Eq.trans (this ..) ?_)
  congr 3
  unfold labsOf
  rw [List.filter_map, List.map_map, List.map_map]
  rfl
theorem right_comp {a0 a1 a4 a5 : Option V} {T : Nat} {l : List Int} (hT : σ[T]? = some (.list (l.map .int))) (hl : l.length <= 4096) :
    ∃ σ', ev C 38 (.cmp (.eq) (.len (.var 3)) (.len (.mkdict (.comp (.tup [.cv, .int 0]) (.var 3) [] false)))) (K23 a0 a1 (some (.lst R)) (some (.lst T)) a4 a5 none none none none none none none) none σ = some (.bool (decide (l.Nodup)), σ') /\ Ext σ σ' := by
  have h1 : ev C 37 (.len (.var 3)) (K23 a0 a1 (some (.lst R)) (some (.lst T)) a4 a5 none none none none none none none) none σ = some (.int l.length, σ) := by
    rw [ev_l (ev_v rfl) hT, List.length_map]
  have hc := comp_list (C := C) (n := 34) (ls := K23 a0 a1 (some (.lst R)) (some (.lst T)) a4 a5 none none none none none none none) (it := .var 3) (elt := .tup [.cv, .int 0]) (conds := []) (fun y => .tup [y, .int 0]) (fun y => true) (ev_v rfl) hT
    (fun y hy => rfl) (fun y hy _ => by (refine Eq.trans (ev_tup ..) ?_); simp [Eqn.evs_1, Eqn.evs_2, ev_cv, ev_int]) (by rw [List.length_map]; (assumption))
  rw [List.filter_eq_self.mpr (fun _ _ => rfl), List.map_map] at hc
  have hp : pairsOfV (l.map ((fun y => V.tup [y, .int 0]) ∘ .int)) = some (l.map fun x => (x, V.int 0)) := by
    clear hT hl h1 hc
    induction l with
    | nil => rfl
    | cons x r ih => simp [Eqn.pairs_2, ih]
  have hN : (σ ++ [AO.list (l.map ((fun y => V.tup [y, .int 0]) ∘ .int))])[σ.length]? = some (.list (l.map ((fun y => V.tup [y, .int 0]) ∘ .int))) := get_new
  have hE : Ext σ (σ ++ [AO.list (l.map ((fun y => V.tup [y, .int 0]) ∘ .int))]) := Ext.app _ _
  generalize (σ ++ [AO.list (l.map ((fun y => V.tup [y, .int 0]) ∘ .int))]) = σ1 at *
  have hd := ev_mkd hc hN hp
  have h2 := ev_ld hd get_new
  refine ⟨_, ev_c h1 h2 ?_, hE.trans (Ext.app _ _)⟩
  (refine Eq.trans (eqS_int ..) ?_)
  congr 1
  refine decide_eq_decide.mpr ?_
  have hk : (l.map fun x => (x, V.int 0)).map (·.1) = l := by (refine Eq.trans (List.map_map ..) ?_); exact List.map_id'' (fun _ => rfl) l
  have := dictOf_iff (l.map fun x => (x, V.int 0))
  rw [hk, List.length_map] at this
  rw [<- this]
  (exact om266)
end
theorem law_head (xs : List Int) (hx : xs.length <= 63) :
    ∃ (R : Nat) (rows : List Row) (σ : Sto) (b : Bool) (v3 v4 v5 : V), exs (ex (run 5) 40) B_law (initLs F_law [.scr xs]) [] = exs (ex (run 5) 40) lawTail (K23 (some (.scr xs)) (some (.lst 1)) (some (.lst R)) (some v3) (some v4) (some v5) (some (.bool b)) none none none none none none) σ /\
      Rw R rows σ /\ (∀ r ∈ rows, GoodRow r) /\ rows.length <= 40 /\ (b = true ↔ IsRight rows) /\ (b = true -> ∃ D, v5 = .dct D /\ σ[D]? = some (.dict (endsEs rows rows.length))) := by
  have s0 : ex (run 5) 40 (.assign 1 (.lst [.slHi (.var 0) (.int 40), .int 0])) (K23 (some (.scr xs)) none none none none none none none none none none none none) [] = some (.next (K23 (some (.scr xs)) (some (.lst 1)) none none none none none none none none none none none) [.list ((xs.take 40).map .int), .list [.lst 0, .int 0]]) := by
    refine ex_asg rfl ?_
    have h1 : ev (run 5) 38 (.slHi (.var 0) (.int 40)) (K23 (some (.scr xs)) none none none none none none none none none none none none) none [] = some (.lst 0, [.list ((xs.take 40).map .int)]) := by
      rw [ev_slHi, ev_v (v := .scr xs) rfl]
      simp only [ev_int]
      rfl
    (refine Eq.trans (ev_lst ..) ?_)
    simp only [Eqn.evs_1, Eqn.evs_2, h1, ev_int]
    rfl
  have hp : Pool 1 0 (xs.take 40) 0 [.list ((xs.take 40).map .int), .list [.lst 0, .int 0]] :=
    ⟨rfl, rfl, by (exact Nat.succ_ne_self _), by (decide), by (decide), by rw [List.length_take]; (exact om267)⟩
  generalize ([AO.list ((xs.take 40).map .int), .list [.lst 0, .int 0]] : Sto) = σ0 at *
  refine el34 (lawRows_spec (C := run 4) (C' := run 3) (fun args σ => run_fns 3 5 _ args σ fns_lawDraw) hp) fun R rows σ1 e1 hR1 good hn => ?_
  have hR1 : Rw R rows σ1 := hR1
  have s1 : ex (run 5) 40 (.assign 2 (.call 6 [.var 1])) (K23 (some (.scr xs)) (some (.lst 1)) none none none none none none none none none none none) σ0 = some (.next (K23 (some (.scr xs)) (some (.lst 1)) (some (.lst R)) none none none none none none none none none none) σ1) :=
    ex_asgC (vs := [.lst 1]) (σ' := σ0) (by simp [Eqn.evs_1, Eqn.evs_2, ev_var]) ((run_fns 4 6 _ _ _ fns_lawRows).trans e1)
  have s2 : ex (run 5) 40 (.assign 3 (.comp (.idx (.cv) (.int 0)) (.var 2) [.idx (.cv) (.int 0)] false)) (K23 (some (.scr xs)) (some (.lst 1)) (some (.lst R)) none none none none none none none none none none) σ1 = some (.next (K23 (some (.scr xs)) (some (.lst 1)) (some (.lst R)) (some (.lst σ1.length)) none none none none none none none none none) (σ1 ++ [.list ((labsOf rows).map .int)])) :=
    ex_asg rfl (told_comp hR1 (by (exact om268 hn)))
  have hT2 : (σ1 ++ [AO.list ((labsOf rows).map .int)])[σ1.length]? = some (.list ((labsOf rows).map .int)) := get_new
  have hR2 : Rw R rows (σ1 ++ [AO.list ((labsOf rows).map .int)]) := (Ext.app _ _).rw hR1
  generalize (σ1 ++ [AO.list ((labsOf rows).map .int)]) = σ2 at *
  generalize σ1.length = T at *
  have hll : (labsOf rows).length <= 4096 := by
    have := List.length_filter_le (fun r : Row => decide (r.lab ≠ 0)) rows
    simp only [labsOf, List.length_map]; (exact om269 hn this)
  have arms4 : ∀ v σ3, runFn (run 4) F_lawArms [.lst R] σ2 = some (.ok v σ3) -> ex (run 5) 40 (.assign 4 (.call 8 [.var 2])) (K23 (some (.scr xs)) (some (.lst 1)) (some (.lst R)) (some (.lst T)) none none none none none none none none none) σ2 = some (.next (K23 (some (.scr xs)) (some (.lst 1)) (some (.lst R)) (some (.lst T)) (some v) none none none none none none none none) σ3) := fun v σ3 h =>
    ex_asgC (vs := [.lst R]) (σ' := σ2) (by simp [Eqn.evs_1, Eqn.evs_2, ev_var]) ((run_fns 4 8 _ _ _ fns_lawArms).trans h)
  have start : ∀ {ls σ' o}, ex (run 5) 40 (.assign 4 (.call 8 [.var 2])) (K23 (some (.scr xs)) (some (.lst 1)) (some (.lst R)) (some (.lst T)) none none none none none none none none none) σ2 = some (.next ls σ') -> exs (ex (run 5) 40) (B_law.drop 4) ls σ' = o -> exs (ex (run 5) 40) B_law (initLs F_law [.scr xs]) [] = o := fun h1 h2 => by
    refine (exs_next s0).trans ?_
    refine (exs_next s1).trans ?_
    refine (exs_next s2).trans ?_
    exact (exs_next h1).trans h2
  have bad : ∀ {v4 : V} {σ3 σ4 : Sto}, ex (run 5) 40 (.assign 4 (.call 8 [.var 2])) (K23 (some (.scr xs)) (some (.lst 1)) (some (.lst R)) (some (.lst T)) none none none none none none none none none) σ2 = some (.next (K23 (some (.scr xs)) (some (.lst 1)) (some (.lst R)) (some (.lst T)) (some v4) none none none none none none none none) σ3) ->
      ev (run 5) 39 (.ite (.cmp (.isNone) (.var 4) (.none)) (.none) (.call 9 [.var 2, .var 4])) (K23 (some (.scr xs)) (some (.lst 1)) (some (.lst R)) (some (.lst T)) (some v4) none none none none none none none none) none σ3 = some (.none, σ4) ->
      exs (ex (run 5) 40) B_law (initLs F_law [.scr xs]) [] = exs (ex (run 5) 40) lawTail (K23 (some (.scr xs)) (some (.lst 1)) (some (.lst R)) (some (.lst T)) (some v4) (some .none) (some (.bool false)) none none none none none none) σ4 := fun h1 h2 => by
    refine start h1 ?_
    refine (exs_next (ex_asg rfl h2)).trans ?_
    exact exs_next (ex_asg rfl (ev_and1 (ev_isNot (v := .none) (ev_v rfl))))
  refine cpf fun rq => ?_
  rcases lawArms_spec (C := run 4) hR2 (by (exact om268 hn)) with ⟨A, m, σ3, hA, e3, hE3, hLL, hAl⟩ | ⟨hno, σ3, e3, hE3⟩
  · have hR3 := hE3.rw hR2
    have t4 : ∀ N, tst (run 5) (N + 3) (.cmp (.isNone) (.var 4) (.none)) (K23 (some (.scr xs)) (some (.lst 1)) (some (.lst R)) (some (.lst T)) (some (.lst m)) none none none none none none none none) none σ3 = some (false, σ3) := fun N =>
      tst_c (ev_v rfl) ev_none rfl
    have ite5 : ∀ {v σ4}, runFn (run 4) F_lawEnds [.lst R, .lst m] σ3 = some (.ok v σ4) -> ev (run 5) 39 (.ite (.cmp (.isNone) (.var 4) (.none)) (.none) (.call 9 [.var 2, .var 4])) (K23 (some (.scr xs)) (some (.lst 1)) (some (.lst R)) (some (.lst T)) (some (.lst m)) none none none none none none none none) none σ3 = some (v, σ4) := fun {v σ4} h => by
      rw [ev_ite, t4 35]
      exact ev_ca (vs := [.lst R, .lst m]) (σ' := σ3) (by simp [Eqn.evs_1, Eqn.evs_2, ev_var]) ((run_fns 4 9 _ _ _ fns_lawEnds).trans h)
    rcases lawEnds_spec (C := run 4) hR3 (by (exact om268 hn)) hLL hAl with ⟨hEnd, D, σ4, e4, hE4, hD⟩ | ⟨hno, σ4, e4, hE4⟩
    · have hR4 := hE4.rw hR3
      have hT4 := hE4 _ _ (hE3 _ _ hT2)
      refine el12 (right_comp (C := run 5) (R := R) (a0 := some (.scr xs)) (a1 := some (.lst 1)) (a4 := some (.lst m)) (a5 := some (.dct D)) hT4 hll) fun σ5 e5 hE5 => ?_
      refine rq ?_
      refine ⟨R, rows, σ5, decide ((labsOf rows).Nodup), .lst T, .lst m, .dct D, ?_, hE5.rw hR4, good, hn, ?_, fun _ => ⟨D, rfl, hE5 _ _ hD⟩⟩
      · refine start (arms4 _ _ e3) ?_
        refine (exs_next (ex_asg rfl (ite5 e4))).trans ?_
        exact exs_next (ex_asg rfl (ev_and2 (ev_isNot (v := .dct D) (ev_v rfl)) e5))
      · rw [decide_eq_true_iff, told_iff]
        constructor
        · intro h; exact ⟨A, hA, hEnd, h⟩
        · rintro ⟨_, _, _, h⟩; exact h
    · refine rq ?_
      refine ⟨R, rows, σ4, false, .lst T, .lst m, .none, bad (arms4 _ _ e3) (ite5 e4), hE4.rw hR3, good, hn, ?_, fun h => (nomatch h)⟩
      constructor
      · intro h; (exact Bool.noConfusion h)
      · rintro ⟨A', h1, h2, _⟩
        (replace h1 := Eq.trans (Eq.symm (hA ..)) (h1)); (refine some2 h1 fun w170_0 w170_1 => ?_; clear h1; clear w170_0; subst w170_1)
        exact absurd h2 hno
  · refine rq ?_
    refine ⟨R, rows, σ3, false, .lst T, .none, .none, bad (arms4 _ _ e3) ?_, hE3.rw hR2, good, hn, ?_, fun h => (nomatch h)⟩
    · have t4 : tst (run 5) 38 (.cmp (.isNone) (.var 4) (.none)) (K23 (some (.scr xs)) (some (.lst 1)) (some (.lst R)) (some (.lst T)) (some .none) none none none none none none none none) none σ3 = some (true, σ3) := tst_c (ev_v rfl) ev_none rfl
      rw [ev_ite, t4]
      rfl
    · constructor
      · intro h; (exact Bool.noConfusion h)
      · rintro ⟨A', h1, _, _⟩
        exact absurd ⟨A', h1⟩ hno
end
end Mine.PL
end
section
set_option tactic.hygienic false
open PySem Mine.Eqn
namespace Mine.PL
noncomputable section
section
variable {C : Calls} {R n m : Nat} {rows : List Row} {σ σ0 σ1 σ2 τ : Sto} {fs : FS} {br : List Nat} {er : Nat -> Nat} {N : Nat} {ls : Ls} {cv : Option V}
theorem ev_get2 {o k d : CE} {x : Nat} {i : Int} {w : V} {es es' : List (Int × V)} (h1 : ev C N o ls cv σ = some (.dct x, σ)) (h2 : σ[x]? = some (.dict es)) (h3 : ev C N k ls cv σ = some (.int i, σ1)) (h4 : ev C N d ls cv σ1 = some (w, σ2)) (h5 : σ2[x]? = some (.dict es')) :
    ev C (N + 1) (.get2 o k d) ls cv σ = some ((lookI es' i).getD w, σ2) := by
  have e0 : ev C (N + 1) (.get2 o k d) ls cv σ = match ev C N o ls cv σ with
      | some (.dct m, σ) => if (getD σ m).isSome then (match ev C N k ls cv σ with
        | some (.int i, σ) => (match ev C N d ls cv σ with
          | some (w, σ) => (getD σ m).map fun es => ((lookI es i).getD w, σ)
          | none => none)
        | _ => none) else none
      | _ => none := rfl
  rw [e0, h1]
  simp only [getD_of h2, Option.isSome_some, if_true, h3, h4, getD_of h5]
  rfl
theorem ev_sorted {e : CE} {x : Nat} {es : List (Int × V)} (h1 : ev C N e ls cv σ = some (.dct x, σ1)) (h2 : σ1[x]? = some (.dict es)) (hl : es.length < 64) :
    ev C (N + 1) (.sorted e) ls cv σ = some (.lst σ1.length, σ1 ++ [.list ((sortDown (es.map (·.1))).map .int)]) := by
  have e0 : ev C (N + 1) (.sorted e) ls cv σ = match ev C N e ls cv σ with
      | some (.dct m, σ) => (match getD σ m with | some es => if es.length < 64 then some (.lst σ.length, σ ++ [.list ((sortDown (es.map (·.1))).map .int)]) else none | none => none)
      | _ => none := rfl
  rw [e0, h1]
  simp only [getD_of h2, if_pos hl]
theorem tst_ne_dct {a b : CE} {x y : Nat} {ea eb : List (Int × V)} (h1 : ev C N a ls cv σ = some (.dct x, σ1)) (h2 : ev C N b ls cv σ1 = some (.dct y, σ2)) (hx : σ2[x]? = some (.dict ea)) (hy : σ2[y]? = some (.dict eb)) (he : eqDicts σ2 ea eb = some true) :
    tst C (N + 2) (.cmp .ne a b) ls cv σ = some (false, σ2) := by
  refine tst_c h1 h2 ?_
  simp only [cmpV, Eqn.eqV_2, getD_of hx, getD_of hy, Option.bind, he, Option.map]
  rfl
theorem ev_eq_dct {a b : CE} {x y : Nat} {ea eb : List (Int × V)} (h1 : ev C N a ls cv σ = some (.dct x, σ1)) (h2 : ev C N b ls cv σ1 = some (.dct y, σ2)) (hx : σ2[x]? = some (.dict ea)) (hy : σ2[y]? = some (.dict eb)) (he : eqDicts σ2 ea eb = some true) :
    ev C (N + 1) (.cmp .eq a b) ls cv σ = some (.bool true, σ2) := by
  refine ev_c h1 h2 ?_
  simp only [cmpV, Eqn.eqV_2, getD_of hx, getD_of hy, Option.bind, he]
theorem lookI_neg {l : List Nat} {g : Nat -> V} {k : Int} (hk : ¬ 0 <= k) : lookI (l.map fun (s : Nat) => ((s : Int), g s)) k = none := by
  refine lookI_none.mpr fun q => ?_
  rw [List.map_map] at q
  refine el12 (List.mem_map.mp q) fun s _ hs => ?_
  simp only [Function.comp] at hs
  (exact om270 hs hk)
theorem cast_nodup {l : List Nat} {g : Nat -> V} (h : l.Nodup) : ((l.map fun (s : Nat) => ((s : Int), g s)).map (·.1)).Nodup := by
  rw [List.map_map, List.nodup_iff_pairwise_ne, List.pairwise_map]
  rw [List.nodup_iff_pairwise_ne] at h
  exact h.imp fun hab q => hab (by simp only [Function.comp] at q; (exact om271 q))
theorem dosTo_asc (j : Nat) : (dosTo rows j).Pairwise (· < ·) := List.Pairwise.filter _ List.pairwise_lt_range
theorem endsEs_DN {A : List (List Nat)} (hE : EndsOk rows A) {f : Nat -> Option Nat} (hf : ∀ s, f s = endOf rows s) : DN (endsEs rows rows.length) f where
  nd := cast_nodup (List.nodup_iff_pairwise_ne.mpr ((dosTo_asc _).imp fun h => Nat.ne_of_lt h))
  look := fun k => by
    unfold liftN
    by_cases hk : 0 <= k
    · rw [if_pos hk]
      obtain ⟨s, rfl⟩ : ∃ s : Nat, k = (s : Int) := ⟨k.toNat, by (exact om272 hk)⟩
      rw [endsEs_look, Int.toNat_natCast, hf]
      by_cases hs : s ∈ dosTo rows rows.length
      · (refine Eq.trans (if_pos hs ..) ?_)
        refine cpf fun rq => ?_
        refine el02 (dosTo_mem.mp hs) fun h1 h2 => ?_
        cases hd : doAt rows s with
        | none => refine rq ?_; rw [hd] at h2; cases h2
        | some t =>
          refine el12 (hE.each s t hd) fun p h3 _ => ?_
          have : endOf rows s = some p := by unfold endOf; rw [hd]; exact h3
          refine rq ?_
          rw [this]; rfl
      · (refine Eq.trans (if_neg hs ..) ?_)
        have : doAt rows s = none := by
          cases hd : doAt rows s with
          | none => rfl
          | some t => exact absurd (dosTo_mem.mpr ⟨doAt_lt hd, by rw [hd]; rfl⟩) hs
        unfold endOf; rw [this]; rfl
    · rw [if_neg hk]
      exact lookI_neg hk
noncomputable abbrev KK (xs : List Int) (R n : Nat) (T : V) (D : Nat) (v4 : V) (v8 v9 v10 v11 v12 : Option V) : Ls := K23 (some (.scr xs)) (some (.lst 1)) (some (.lst R)) (some T) (some v4) (some (.dct D)) (some (.bool true)) (some (.flow (n + 5))) v8 v9 v10 v11 v12
variable {xs : List Int} {T : V} {D : Nat} {v4 : V}
theorem rng_len0 (k : Nat) : (rng 0 k).length = k := by (refine Eq.trans (rng_len ..) ?_); (rfl)
theorem ev_rows_rng {v8 v9 v10 v11 v12 : Option V} (hR : Rw R rows τ) (hn : rows.length <= 100) : ev C (N + 3) (.range1 (.len (.var 2))) (KK xs R n T D v4 v8 v9 v10 v11 v12) none τ = some (.rng 0 rows.length, τ) := by
  have h2 : ev C (N + 2) (.len (.var 2)) (KK xs R n T D v4 v8 v9 v10 v11 v12) none τ = some (.int rows.length, τ) := by
    rw [ev_l (ev_v rfl) hR, List.length_map]
  rw [ev_range1, h2]
  simp only [tiny_of (i := (rows.length : Int)) (by (exact on15)) (by (exact om189 hn)), if_true]
noncomputable def labPairV (rows : List Row) : V -> V
  | .int i => .tup [.int (labAt rows i.toNat), .int i]
  | v => v
noncomputable def labSelV (rows : List Row) : V -> Bool
  | .int i => decide (labAt rows i.toNat ≠ 0)
  | _ => false
theorem labList_eq : ((rng 0 rows.length).filter (labSelV rows)).map (labPairV rows) = ((List.range rows.length).filter fun p => decide (labAt rows p ≠ 0)).map fun (p : Nat) => V.tup [.int (labAt rows p), .int p] := by
  unfold rng
  rw [List.filter_map, List.map_map]
  have h0 : ((rows.length : Int) - 0).toNat = rows.length := by (rfl)
  rw [h0]
  simp only [Function.comp_def, Int.zero_add, Int.toNat_natCast, labSelV, labPairV]
theorem labPairs_of (l : List Nat) : pairsOfV (l.map fun (p : Nat) => V.tup [.int (labAt rows p), .int p]) = some (l.map fun (p : Nat) => (labAt rows p, V.int p)) := by
  induction l with
  | nil => rfl
  | cons x r ih => simp [Eqn.pairs_2, ih]
theorem labDict_eq (ht : Told rows) : dictOf [] ((((List.range rows.length).filter fun p => decide (labAt rows p ≠ 0))).map fun (p : Nat) => (labAt rows p, V.int p)) = labPairs rows := by
  have := dictOf_nodup (labPairs rows) [] (by simpa using labPairs_nodup ht)
  simpa [labPairs] using this
theorem lab_key {y : V} (hR : Rw R rows τ) (hn : rows.length <= 100) (hy : y ∈ rng 0 rows.length) (h2 : ls[2]? = some (some (.lst R))) : ∃ p : Nat, p < rows.length /\ y = .int p /\ ∀ N, ev C (N + 3) (.idx (.idx (.var 2) (.cv)) (.int 0)) ls (some y) τ = some (.int (labAt rows p), τ) := by
  refine el11 (List.mem_iff_getElem?.mp hy) fun p hp => ?_
  refine el02 (rng_at hp) fun q108_0 hlt => ?_
  subst q108_0
  have hlt : p < rows.length := by (exact om203 hlt)
  have hr : rows[p]? = some rows[p] := List.getElem?_eq_getElem hlt
  refine ⟨p, hlt, by rw [Int.zero_add], fun N => ?_⟩
  rw [Int.zero_add, labAt_some hr]
  exact ev_i (ev_i (ev_v h2) (by (exact (ev_cv ..))) (idx_row hR hr (by omega))) ev_n (idx_row0 _ _)
theorem lab_comp {v8 v9 v10 v11 v12 : Option V} (hR : Rw R rows τ) (hn : rows.length <= 100) : ev C 36 (.comp (.tup [.idx (.idx (.var 2) (.cv)) (.int 0), .cv]) (.range1 (.len (.var 2))) [.idx (.idx (.var 2) (.cv)) (.int 0)] false) (KK xs R n T D v4 v8 v9 v10 v11 v12) none τ =
    some (.lst τ.length, τ ++ [.list (((List.range rows.length).filter fun p => decide (labAt rows p ≠ 0)).map fun (p : Nat) => V.tup [.int (labAt rows p), .int p])]) := by
  have hc := comp_rng (C := C) (n := 35) (ls := KK xs R n T D v4 v8 v9 v10 v11 v12) (σ := τ) (elt := .tup [.idx (.idx (.var 2) (.cv)) (.int 0), .cv]) (conds := [.idx (.idx (.var 2) (.cv)) (.int 0)])
    (labPairV rows) (labSelV rows) (ev_rows_rng (N := 32) hR hn)
    (fun y hy => by
      refine el13 (lab_key (C := C) (ls := KK xs R n T D v4 v8 v9 v10 v11 v12) hR hn hy rfl) fun p _ q119_2 hk => ?_
      subst q119_2
      refine allT_one ?_
      (refine Eq.trans (tst_ix (hk 31) ..) ?_)
      simp only [labSelV, Int.toNat_natCast])
    (fun y hy _ => by
      refine el13 (lab_key (C := C) (ls := KK xs R n T D v4 v8 v9 v10 v11 v12) hR hn hy rfl) fun p _ q124_2 hk => ?_
      subst q124_2
      (refine Eq.trans (ev_tup ..) ?_)
      simp only [Eqn.evs_1, Eqn.evs_2, hk 31, ev_cv, labPairV, Int.toNat_natCast]) (by rw [rng_len0]; (exact om265 hn))
  rw [labList_eq] at hc
  exact hc
theorem law_labels {A : List (List Nat)} (hR : Rw R rows τ) (hn : rows.length <= 100) (I : FInv n m σ0 fs br er τ) (F : FI rows rows.length fs A) (ht : Told rows) :
    ∃ τ', ex C 40 (.ite (.cmp (.ne) (.attr (.var 7) 0) (.mkdict (.comp (.tup [.idx (.idx (.var 2) (.cv)) (.int 0), .cv]) (.range1 (.len (.var 2))) [.idx (.idx (.var 2) (.cv)) (.int 0)] false))) [.ret (.bool false)] []) (KK xs R n T D v4 none none none none none) τ = some (.next (KK xs R n T D v4 none none none none none) τ') /\ Ext τ τ' := by
  have hd := ev_mkd (lab_comp (C := C) (n := n) (xs := xs) (T := T) (D := D) (v4 := v4) (v8 := none) (v9 := none) (v10 := none) (v11 := none) (v12 := none) hR hn) get_new (labPairs_of _)
  rw [labDict_eq ht] at hd
  have hE1 : Ext τ (τ ++ [AO.list (((List.range rows.length).filter fun p => decide (labAt rows p ≠ 0)).map fun (p : Nat) => V.tup [.int (labAt rows p), .int p])]) := Ext.app _ _
  generalize (τ ++ [AO.list (((List.range rows.length).filter fun p => decide (labAt rows p ≠ 0)).map fun (p : Nat) => V.tup [.int (labAt rows p), .int p])]) = τ1 at *
  refine el13 (I.d0) fun es k1 k2 k3 => ?_
  have ha : ev C 37 (.attr (.var 7) 0) (KK xs R n T D v4 none none none none none) none τ = some (.dct n, τ) := ev_at rfl I.f rfl
  have hd' : ev C 37 (.mkdict (.comp (.tup [.idx (.idx (.var 2) (.cv)) (.int 0), .cv]) (.range1 (.len (.var 2))) [.idx (.idx (.var 2) (.cv)) (.int 0)] false)) (KK xs R n T D v4 none none none none none) none τ = some (.dct τ1.length, τ1 ++ [.dict (labPairs rows)]) := hd
  have hE2 : Ext τ (τ1 ++ [.dict (labPairs rows)]) := hE1.trans (Ext.app _ _)
  refine ⟨_, ex_skip (tst_ne_dct (N := 37) ha hd' (hE2 _ _ k1) get_new (eqDicts_int k2 (labPairs_DL ht F))), hE2⟩
end
end
end Mine.PL
end
section
set_option tactic.hygienic false
open PySem Mine.Eqn
namespace Mine.PL
noncomputable section
section
variable {C C' : Calls} {R n m : Nat} {rows : List Row} {σ σ0 σ1 σ2 τ : Sto} {fs : FS} {N : Nat} {ls : Ls} {cv : Option V} {xs : List Int} {T : V} {D : Nat} {v4 : V}
noncomputable def lawB11 : List CS := match B_law.drop 11 with
  | .forr _ _ b :: _ => b
  | _ => []
structure BI (rows : List Row) (fs : FS) (σ : Sto) (d9 d10 k : Nat) (τ : Sto) : Prop where
  ext : Ext σ τ
  a : ∃ es, τ[d9]? = some (.dict es) /\ DN es (fun a => if a < k then fs.nextArm a else none) /\ es.length <= k
  b : ∃ es, τ[d10]? = some (.dict es) /\ DN es (fun a => if a < k then fs.blockEnd a else none) /\ es.length <= k
theorem DN.congr {es : List (Int × V)} {f g : Nat -> Option Nat} (h : DN es f) (e : ∀ k, f k = g k) : DN es g := by
  have : f = g := funext e
  rw [<- this]; exact h
theorem step_fun {g : Nat -> Option Nat} {k : Nat} {v : Nat} (h : g k = some v) (a : Nat) : upd (fun a => if a < k then g a else none) k v a = if a < k + 1 then g a else none := by
  simp only [upd]
  by_cases q : a = k
  · subst q; rw [if_pos rfl, if_pos (by (exact Nat.lt_succ_self _)), h]
  · (refine Eq.trans (if_neg q ..) ?_)
    by_cases q2 : a < k
    · rw [if_pos q2, if_pos (by (exact Nat.lt_succ_of_lt (by assumption)))]
    · rw [if_neg q2, if_neg (by (exact om273 q2 q))]
theorem skip_fun {g : Nat -> Option Nat} {k : Nat} (h : g k = none) (a : Nat) : (if a < k then g a else none) = if a < k + 1 then g a else none := by
  by_cases q : a = k
  · subst q; rw [if_neg (by (exact om125)), if_pos (by (exact Nat.lt_succ_self _)), h]
  · by_cases q2 : a < k
    · rw [if_pos q2, if_pos (by (exact Nat.lt_succ_of_lt (by assumption)))]
    · rw [if_neg q2, if_neg (by (exact om273 q2 q))]
theorem build_step {d9 d10 k : Nat} {r : Row} {v11 : Option V} (hC : ∀ f F args σ, fns f = some F -> C f args σ = runFn C' F args σ) (I : BI rows fs σ d9 d10 k τ) (hR : Rw R rows σ) (hn : rows.length <= 100) (hr : rows[k]? = some r) (h9 : σ.length <= d9) (h10 : σ.length <= d10) (hne : d9 ≠ d10)
    (hA : (armAt rows k = false -> fs.nextArm k = none /\ fs.blockEnd k = none) /\ (armAt rows k = true -> ∃ l, ahead rows k = some l /\ l ≠ [] /\ fs.blockEnd k = l.getLast? /\ fs.nextArm k = if elsAt rows k then none else l.head?)) :
    ∃ v11' τ', exs (ex C 39) lawB11 (KK xs R n T D v4 (some (.int k)) (some (.dct d9)) (some (.dct d10)) v11 none) τ = some (.next (KK xs R n T D v4 (some (.int k)) (some (.dct d9)) (some (.dct d10)) v11' none) τ') /\ BI rows fs σ d9 d10 (k + 1) τ' := by
  have hk := (List.getElem?_eq_some_iff.mp hr).1
  have hRτ := I.ext.rw hR
  refine cpf fun rq => ?_
  refine el13 (I.a) fun es9 a1 a2 a3 => ?_
  refine el13 (I.b) fun es10 b1 b2 b3 => ?_
  have hin : tst C 38 (.cmp (.isin) (.idx (.idx (.idx (.var 2) (.var 8)) (.int 1)) (.int 0)) (.tup [.str 0, .str 1, .str 2])) (KK xs R n T D v4 (some (.int k)) (some (.dct d9)) (some (.dct d10)) v11 none) none τ = some (r.stm.isArm, τ) := by
    refine tst_c (ev_i (ev_i (ev_i (ev_v rfl) (ev_v rfl) (idx_row hRτ hr (by (exact om214 hk hn)))) ev_n (idx_row1 _ _)) ev_n (idx_word _ _)) (vb := .tup [.str 0, .str 1, .str 2]) (by (refine Eq.trans (ev_tup ..) ?_); simp [Eqn.evs_1, Eqn.evs_2, ev_str]) ?_
    cases r.stm <;> rfl
  have harm : armAt rows k = r.stm.isArm := armAt_some hr
  have hels : elsAt rows k = r.stm.isEls := elsAt_some hr
  cases hs : r.stm.isArm with
  | false =>
    rw [hs] at hin harm
    refine el02 (hA.1 harm) fun g1 g2 => ?_
    refine rq ?_
    refine ⟨v11, τ, exs_one (ex_skip hin), I.ext, ⟨es9, a1, a2.congr (skip_fun g1), by (exact Nat.le_succ_of_le (by assumption))⟩, ⟨es10, b1, b2.congr (skip_fun g2), by (exact Nat.le_succ_of_le (by assumption))⟩⟩
  | true =>
    rw [hs] at hin harm
    refine el14 (hA.2 harm) fun l g1 g2 g3 g4 => ?_
    refine el23 (lawAhead_spec (C := C') hRτ hn hk g1) fun x τ1 e1 hE1 hx => ?_
    have hEσ1 := I.ext.trans hE1
    have s1 : ex C 38 (.assign 11 (.call 7 [.var 2, .var 8])) (KK xs R n T D v4 (some (.int k)) (some (.dct d9)) (some (.dct d10)) v11 none) τ = some (.next (KK xs R n T D v4 (some (.int k)) (some (.dct d9)) (some (.dct d10)) (some (.lst x)) none) τ1) :=
      ex_asgC (vs := [.lst R, .int k]) (σ' := τ) (by simp [Eqn.evs_1, Eqn.evs_2, ev_var]) ((hC 7 _ _ _ fns_lawAhead).trans e1)
    obtain ⟨z, hz⟩ : ∃ z, l.getLast? = some z := by
      cases hq : l.getLast? with
      | none => exact absurd (List.getLast?_eq_none_iff.mp hq) g2
      | some z => exact ⟨z, rfl⟩
    obtain ⟨y, hy⟩ : ∃ y, l.head? = some y := by
      induction l using List.casesOn with
      | nil => exact absurd rfl g2
      | cons y t => exact ⟨y, rfl⟩
    have hb1 := hE1 _ _ b1
    have ha1 := hE1 _ _ a1
    have hlast : (nums l).getLast? = some (.int z) := by simp [nums, hz]
    have hlt9 := lt_of_get a1
    have hlt10 := lt_of_get b1
    have s2 : ex C 38 (.setIdx (.var 10) (.var 8) (.idx (.var 11) (.int (-1)))) (KK xs R n T D v4 (some (.int k)) (some (.dct d9)) (some (.dct d10)) (some (.lst x)) none) τ1 = some (.next (KK xs R n T D v4 (some (.int k)) (some (.dct d9)) (some (.dct d10)) (some (.lst x)) none) (τ1.set d10 (.dict (putI es10 k (.int z))))) :=
      ex_sidx (ev_i (ev_v rfl) ev_n (idx_last hx hlast)) (ev_v rfl) (ev_v rfl) (set_dct hb1 (by (exact om274 hk hn b3)))
    have hB : ∃ es, (τ1.set d10 (.dict (putI es10 k (.int z))))[d10]? = some (.dict es) /\ DN es (fun a => if a < k + 1 then fs.blockEnd a else none) /\ es.length <= k + 1 :=
      ⟨_, get_set_eq hb1, (b2.put k z).congr (step_fun (by (exact Eq.trans (g3 ..) ((hz ..))))), by have := putI_len (es := es10) (k := k) (v := .int z); (exact om72 this b3)⟩
    have ha2 : (τ1.set d10 (.dict (putI es10 k (.int z))))[d9]? = some (.dict es9) := by (refine Eq.trans (get_set_ne (Ne.symm hne) ..) ?_); exact ha1
    have hE2 : Ext σ (τ1.set d10 (.dict (putI es10 k (.int z)))) := hEσ1.set h10
    have hx2 : (τ1.set d10 (.dict (putI es10 k (.int z))))[x]? = some (.list (nums l)) := by
      (refine Eq.trans (get_set_ne (fun q => by subst q; rw [hb1] at hx; cases hx) ..) ?_); exact hx
    refine rq ?_
    generalize (τ1.set d10 (.dict (putI es10 k (.int z)))) = τ2 at *
    have hne2 : tst C 37 (.cmp (.ne) (.idx (.idx (.idx (.var 2) (.var 8)) (.int 1)) (.int 0)) (.str 2)) (KK xs R n T D v4 (some (.int k)) (some (.dct d9)) (some (.dct d10)) (some (.lst x)) none) none τ2 = some (!r.stm.isEls, τ2) := by
      refine tst_c (ev_i (ev_i (ev_i (ev_v rfl) (ev_v rfl) (idx_row (hE2.rw hR) hr (by (exact om214 hk hn)))) ev_n (idx_row1 _ _)) ev_n (idx_word _ _)) ev_s ?_
      cases r.stm <;> rfl
    have body : ∀ o, ex C 38 (.ite (.cmp (.ne) (.idx (.idx (.idx (.var 2) (.var 8)) (.int 1)) (.int 0)) (.str 2)) [.setIdx (.var 9) (.var 8) (.idx (.var 11) (.int 0))] []) (KK xs R n T D v4 (some (.int k)) (some (.dct d9)) (some (.dct d10)) (some (.lst x)) none) τ2 = some o -> exs (ex C 39) lawB11 (KK xs R n T D v4 (some (.int k)) (some (.dct d9)) (some (.dct d10)) v11 none) τ = some o := fun o ho => by
      refine exs_one ((ex_if1 hin).trans ?_)
      refine (exs_next s1).trans ?_
      refine (exs_next s2).trans ?_
      exact exs_one ho
    cases he : r.stm.isEls with
    | true =>
      rw [he] at hne2 hels
      rw [hels] at g4
      exact ⟨_, τ2, body _ (ex_skip hne2), hE2, ⟨es9, ha2, a2.congr (skip_fun (by simpa using g4)), by (exact Nat.le_succ_of_le (by assumption))⟩, hB⟩
    | false =>
      rw [he] at hne2 hels
      rw [hels] at g4
      have hn9 : fs.nextArm k = some y := by rw [g4, hy]; rfl
      have hhead : (nums l)[0]? = some (.int y) := by
        induction l using List.casesOn with
        | nil => cases hy
        | cons q t => cases hy; rfl
      have s3 : ex C 37 (.setIdx (.var 9) (.var 8) (.idx (.var 11) (.int 0))) (KK xs R n T D v4 (some (.int k)) (some (.dct d9)) (some (.dct d10)) (some (.lst x)) none) τ2 = some (.next (KK xs R n T D v4 (some (.int k)) (some (.dct d9)) (some (.dct d10)) (some (.lst x)) none) (τ2.set d9 (.dict (putI es9 k (.int y))))) :=
        ex_sidx (ev_i (ev_v rfl) ev_n (idx_lst (j := 0) hx2 hhead (by (decide)))) (ev_v rfl) (ev_v rfl) (set_dct ha2 (by (exact om274 hk hn a3)))
      refine ⟨_, _, body _ ((ex_if1 hne2).trans (exs_one s3)), hE2.set h9, ⟨_, get_set_eq ha2, (a2.put k y).congr (step_fun hn9), by have := putI_len (es := es9) (k := k) (v := .int y); (exact om72 this a3)⟩, ?_⟩
      refine el13 (hB) fun es k1 k2 k3 => ?_
      exact ⟨es, by (refine Eq.trans (get_set_ne hne ..) ?_); exact k1, k2, k3⟩
theorem law_arms (hC : ∀ f F args σ, fns f = some F -> C f args σ = runFn C' F args σ) {br : List Nat} {er : Nat -> Nat} (hR : Rw R rows τ) (hn : rows.length <= 100) (I : FInv n m σ0 fs br er τ)
    (hA : ∀ a, (armAt rows a = false -> fs.nextArm a = none /\ fs.blockEnd a = none) /\ (armAt rows a = true -> ∃ l, ahead rows a = some l /\ l ≠ [] /\ fs.blockEnd a = l.getLast? /\ fs.nextArm a = if elsAt rows a then none else l.head?)) :
    ∃ v8 v9 v10 v11 τ', Ext τ τ' /\ ∀ rest, exs (ex C 40) (.assign 9 .dict0 :: .assign 10 .dict0 :: .forr 8 (.range1 (.len (.var 2))) lawB11 :: .ite (.or [.cmp (.ne) (.attr (.var 7) 1) (.var 9), .cmp (.ne) (.attr (.var 7) 2) (.var 10)]) [.ret (.bool false)] [] :: rest) (KK xs R n T D v4 none none none none none) τ = exs (ex C 40) rest (KK xs R n T D v4 v8 v9 v10 v11 none) τ' := by
  have s9 : ex C 40 (.assign 9 .dict0) (KK xs R n T D v4 none none none none none) τ = some (.next (KK xs R n T D v4 none (some (.dct τ.length)) none none none) (τ ++ [.dict []])) := ex_asg rfl ev_dict0
  have hl1 : (τ ++ [AO.dict []]).length = τ.length + 1 := by simp
  have s10 : ex C 40 (.assign 10 .dict0) (KK xs R n T D v4 none (some (.dct τ.length)) none none none) (τ ++ [.dict []]) = some (.next (KK xs R n T D v4 none (some (.dct τ.length)) (some (.dct (τ.length + 1))) none none) (τ ++ [.dict []] ++ [.dict []])) := ex_asg rfl (by rw [ev_dict0, hl1])
  have B0 : BI rows fs τ τ.length (τ.length + 1) 0 (τ ++ [.dict []] ++ [.dict []]) :=
    ⟨(Ext.app _ _).trans (Ext.app _ _), ⟨[], get_app get_new, ⟨List.nodup_nil, fun k => by unfold liftN; split <;> simp [iV, Eqn.lookI_1]⟩, Nat.le_refl _⟩, ⟨[], by rw [<- hl1]; exact get_new, ⟨List.nodup_nil, fun k => by unfold liftN; split <;> simp [iV, Eqn.lookI_1]⟩, Nat.le_refl _⟩⟩
  generalize (τ ++ [AO.dict []] ++ [AO.dict []]) = τ1 at *
  have loop := for_rule (C := C) (n := 39) (i := 8) (body := lawB11) (fun k ls σ' => ∃ v8 v11, ls = KK xs R n T D v4 v8 (some (.dct τ.length)) (some (.dct (τ.length + 1))) v11 none /\ BI rows fs τ τ.length (τ.length + 1) k σ')
    (fun _ => False) (ev_rows_rng (N := 36) (B0.ext.rw hR) hn) ⟨none, none, rfl, B0⟩
    (fun k ls σ' hk hI => by
      refine cpf fun rq => ?_
      refine el22 (hI) fun v8 v11 q123_2 J => ?_
      subst q123_2
      have hlt : k < rows.length := by (exact om203 hk)
      have hr : rows[k]? = some rows[k] := List.getElem?_eq_getElem hlt
      refine rq ?_
      rw [Int.zero_add]
      refine el22 (build_step (C := C) (xs := xs) (T := T) (D := D) (v4 := v4) (n := n) (v11 := v11) hC J hR hn hr (by (exact on27)) (by (exact Nat.le_succ _)) (by (exact on21)) (hA k)) fun v11' τ' e J' => ?_
      exact .inl ⟨_, τ', .inl e, _, v11', rfl, J'⟩)
  refine cpf fun rq => ?_
  rcases loop with ⟨ls', τ2, e11, v8, v11, rfl, J⟩ | ⟨o, _, _, hF⟩
  · have hk : ((rows.length : Int) - 0).toNat = rows.length := by (rfl)
    rw [hk] at J
    have hE := J.ext
    refine el13 (J.a) fun es9 a1 a2 a3 => ?_
    refine el13 (J.b) fun es10 b1 b2 b3 => ?_
    refine el13 (I.d1) fun e1 c1 c2 c3 => ?_
    refine el13 (I.d2) fun e2 d1 d2 d3 => ?_
    have hout : ∀ a, ¬ a < rows.length -> fs.nextArm a = none /\ fs.blockEnd a = none := fun a ha => (hA a).1 (by
      cases hq : armAt rows a with
      | false => rfl
      | true => exact absurd (armAt_lt hq) ha)
    have hf9 : ∀ a, (if a < rows.length then fs.nextArm a else none) = fs.nextArm a := fun a => by
      by_cases q : a < rows.length
      · (exact (if_pos q ..))
      · rw [if_neg q, (hout a q).1]
    have hf10 : ∀ a, (if a < rows.length then fs.blockEnd a else none) = fs.blockEnd a := fun a => by
      by_cases q : a < rows.length
      · (exact (if_pos q ..))
      · rw [if_neg q, (hout a q).2]
    have t1 : tst C 38 (.cmp (.ne) (.attr (.var 7) 1) (.var 9)) (KK xs R n T D v4 v8 (some (.dct τ.length)) (some (.dct (τ.length + 1))) v11 none) none τ2 = some (false, τ2) :=
      tst_ne_dct (N := 36) (ev_at rfl (hE _ _ I.f) rfl) (ev_v rfl) (hE _ _ c1) a1 (eqDicts_int c2 (a2.congr hf9))
    have t2 : tst C 38 (.cmp (.ne) (.attr (.var 7) 2) (.var 10)) (KK xs R n T D v4 v8 (some (.dct τ.length)) (some (.dct (τ.length + 1))) v11 none) none τ2 = some (false, τ2) :=
      tst_ne_dct (N := 36) (ev_at rfl (hE _ _ I.f) rfl) (ev_v rfl) (hE _ _ d1) b1 (eqDicts_int d2 (b2.congr hf10))
    refine rq ?_
    refine ⟨v8, some (.dct τ.length), some (.dct (τ.length + 1)), v11, τ2, hE, fun rest => ?_⟩
    refine (exs_next s9).trans ?_
    refine (exs_next s10).trans ?_
    refine (exs_next e11).trans ?_
    exact exs_next (ex_skip (tst_or2 t1 (fun _ => t2)))
  · refine rq ?_
    exact hF.elim
end
end
end Mine.PL
end
section
set_option tactic.hygienic false
open PySem Mine.Eqn
namespace Mine.PL
noncomputable section
section
variable {C C' : Calls} {R n m : Nat} {rows : List Row} {σ σ0 σ1 σ2 τ : Sto} {fs : FS} {N : Nat} {ls : Ls} {cv : Option V} {xs : List Int} {T : V} {D : Nat} {v4 : V}
noncomputable def pOf (rows : List Row) (s : Nat) : Nat := (endOf rows s).getD 0
noncomputable def accOf (rows : List Row) (l : List Nat) (i : Int) : List Nat := l.filter fun s => decide ((pOf rows s : Int) = i)
theorem accOf_snoc (l : List Nat) (s : Nat) (i : Int) : accOf rows (l ++ [s]) i = if (pOf rows s : Int) = i then accOf rows l i ++ [s] else accOf rows l i := by
  unfold accOf
  (refine Eq.trans (List.filter_append ..) ?_)
  by_cases h : (pOf rows s : Int) = i
  · (refine Eq.trans (?_) (Eq.symm (if_pos h ..))); simp [h]
  · (refine Eq.trans (?_) (Eq.symm (if_neg h ..))); simp [h]
structure SI (rows : List Row) (σ : Sto) (S d12 : Nat) (desc : List Nat) (j : Nat) (τ : Sto) : Prop where
  ext : Ext σ τ
  s : τ[S]? = some (.list (nums desc))
  d : ∃ es, τ[d12]? = some (.dict es) /\ (es.map (·.1)).Nodup /\ es.length <= j /\ ∀ i, (accOf rows (desc.take j) i = [] /\ lookI es i = none) \/ (accOf rows (desc.take j) i ≠ [] /\ ∃ x, lookI es i = some (.lst x) /\ τ[x]? = some (.list (nums (accOf rows (desc.take j) i))))
noncomputable def lawB14 : List CS := match B_law.drop 14 with
  | .forr _ _ b :: _ => b
  | _ => []
theorem sort_step {S d12 j s : Nat} {desc : List Nat} {v8 v9 v10 v11 : Option V} (I : SI rows σ S d12 desc j τ) (hD : σ[D]? = some (.dict (endsEs rows rows.length))) (hs : desc[j]? = some s) (hm : s ∈ dosTo rows rows.length) (h12 : σ.length <= d12) (hS : S ≠ d12) (hl : desc.length <= 100) :
    ∃ τ', exs (ex C 39) lawB14 (KK xs R n T D v4 (some (.int s)) v9 v10 v11 (some (.dct d12))) τ = some (.next (KK xs R n T D v4 (some (.int s)) v9 v10 v11 (some (.dct d12))) τ') /\ SI rows σ S d12 desc (j + 1) τ' := by
  refine el14 (I.d) fun es k1 k2 k3 k4 => ?_
  have hj := (List.getElem?_eq_some_iff.mp hs).1
  have hD' := I.ext _ _ hD
  have hp : lookI (endsEs rows rows.length) (s : Int) = some (.int (pOf rows s)) := by (refine Eq.trans (endsEs_look ..) (Eq.trans (if_pos hm ..) ?_)); rfl
  have hkey : ∀ {τ'} N, Ext τ τ' -> ev C (N + 2) (.idx (.var 5) (.var 8)) (KK xs R n T D v4 (some (.int s)) v9 v10 v11 (some (.dct d12))) none τ' = some (.int (pOf rows s), τ') := fun {τ'} N hE =>
    ev_i (ev_v rfl) (ev_v rfl) (by simp only [Eqn.idxV_3, getD_of (hE _ _ hD'), Option.bind, hp])
  have hlen : ∀ i, (accOf rows (desc.take j) i).length <= 100 := fun i => by
    have h1 := List.length_filter_le (fun s => decide ((pOf rows s : Int) = i)) (desc.take j)
    have h2 : (desc.take j).length <= desc.length := by rw [List.length_take]; (exact om275)
    unfold accOf; (exact om276 hl h1 h2)
  have hE1 : Ext τ (τ ++ [.list []]) := Ext.app _ _
  have hl0 : ev C 36 (.lst []) (KK xs R n T D v4 (some (.int s)) v9 v10 v11 (some (.dct d12))) none τ = some (.lst τ.length, τ ++ [.list []]) := by (refine Eq.trans (ev_lst ..) ?_); rfl
  have hget := ev_get2 (C := C) (N := 36) (ls := KK xs R n T D v4 (some (.int s)) v9 v10 v11 (some (.dct d12))) (o := .var 12) (k := .idx (.var 5) (.var 8)) (d := .lst []) (ev_v rfl) k1 (hkey 34 (Ext.refl _)) hl0 (get_app k1)
  obtain ⟨x0, hx0, hx1⟩ : ∃ x0, (lookI es (pOf rows s : Int)).getD (.lst τ.length) = .lst x0 /\ (τ ++ [AO.list []])[x0]? = some (.list (nums (accOf rows (desc.take j) (pOf rows s : Int)))) := by
    rcases k4 (pOf rows s : Int) with ⟨a, b⟩ | ⟨a, x, b, c⟩
    · exact ⟨τ.length, by rw [b]; rfl, by rw [a, get_new]; rfl⟩
    · exact ⟨x, by rw [b]; rfl, get_app c⟩
  rw [hx0] at hget
  generalize hτ1 : (τ ++ [AO.list []]) = τ1 at *
  have hl1 : ev C 37 (.lst [.var 8]) (KK xs R n T D v4 (some (.int s)) v9 v10 v11 (some (.dct d12))) none τ1 = some (.lst τ1.length, τ1 ++ [.list [.int s]]) := ev_l1 (ev_v rfl)
  have hE2 : Ext τ (τ1 ++ [.list [.int s]]) := hE1.trans (Ext.app _ _)
  have hy : (τ1 ++ [AO.list [.int (s : Int)]])[τ1.length]? = some (.list [.int s]) := get_new
  have hx2 : (τ1 ++ [AO.list [.int (s : Int)]])[x0]? = some (.list (nums (accOf rows (desc.take j) (pOf rows s : Int)))) := get_app hx1
  generalize (τ1 ++ [AO.list [.int (s : Int)]]) = τ2 at *
  have hadd := add_lst hx2 hy (by have := hlen (pOf rows s : Int); simp only [nums, List.length_map, List.length_cons, List.length_nil]; (exact om277 this))
  have hE3 : Ext τ (τ2 ++ [.list (nums (accOf rows (desc.take j) (pOf rows s : Int)) ++ [.int s])]) := hE2.trans (Ext.app _ _)
  have hz : (τ2 ++ [AO.list (nums (accOf rows (desc.take j) (pOf rows s : Int)) ++ [.int s])])[τ2.length]? = some (.list (nums (accOf rows (desc.take j) (pOf rows s : Int) ++ [s]))) := by (refine Eq.trans (get_new ..) ?_); simp [nums]
  have hbin : ev C 38 (.bin (.add) (.get2 (.var 12) (.idx (.var 5) (.var 8)) (.lst [])) (.lst [.var 8])) (KK xs R n T D v4 (some (.int s)) v9 v10 v11 (some (.dct d12))) none τ = some (.lst τ2.length, τ2 ++ [.list (nums (accOf rows (desc.take j) (pOf rows s : Int)) ++ [.int s])]) := ev_b hget hl1 hadd
  have hzne : τ2.length ≠ d12 := by have := lt_of_get (hE2 _ _ k1); (exact Nat.ne_of_gt (by assumption))
  generalize (τ2 ++ [AO.list (nums (accOf rows (desc.take j) (pOf rows s : Int)) ++ [.int s])]) = τ3 at *
  have hd3 := hE3 _ _ k1
  refine ⟨_, exs_one (ex_sidx hbin (ev_v rfl) (hkey 36 hE3) (set_dct hd3 (by (exact om274 hj hl k3)))), (I.ext.trans hE3).set h12, by (refine Eq.trans (get_set_ne (Ne.symm hS) ..) ?_); exact hE3 _ _ I.s, _, get_set_eq hd3, ?_, ?_, ?_⟩
  · rw [putI_keys]
    split
    · exact k2
    · rename_i hk
      rw [List.nodup_append]
      exact ⟨k2, by simp, fun a ha b hb => by rw [List.mem_singleton] at hb; rintro rfl; exact hk (hb ▸ ha)⟩
  · have := putI_len (es := es) (k := (pOf rows s : Int)) (v := .lst τ2.length); (exact om72 this k3)
  · intro i
    rw [List.take_succ, hs, lookI_putI]
    simp only [Option.toList]
    rw [accOf_snoc]
    by_cases q : (pOf rows s : Int) = i
    · subst q
      rw [if_pos rfl, if_pos rfl]
      refine .inr ⟨by simp, τ2.length, rfl, ?_⟩
      (refine Eq.trans (get_set_ne (Ne.symm hzne) ..) ?_)
      exact hz
    · rw [if_neg q, if_neg q]
      rcases k4 i with h | ⟨a, x, b, c⟩
      · exact .inl h
      · refine .inr ⟨a, x, b, ?_⟩
        have := hE3 _ _ c
        (refine Eq.trans (get_set_ne (fun e => by subst e; rw [k1] at c; cases c) ..) ?_)
        exact this
theorem law_ending {A : List (List Nat)} {br : List Nat} {er : Nat -> Nat} {v8 v9 v10 v11 : Option V} (hE : EndsOk rows A) (hend : ∀ s, fs.doEnd s = endOf rows s) (F : FI rows rows.length fs A) (I : FInv n m σ0 fs br er σ) (hτ : Ext σ τ) (hn : rows.length <= 60) (hD : τ[D]? = some (.dict (endsEs rows rows.length))) :
    ∃ τ', exs (ex C 40) [.assign 12 .dict0, .forr 8 (.sorted (.var 5)) lawB14, .ret (.cmp (.eq) (.attr (.var 7) 4) (.var 12))] (KK xs R n T D v4 v8 v9 v10 v11 none) τ = some (.ret (.bool true) τ') := by
  have s12 : ex C 40 (.assign 12 .dict0) (KK xs R n T D v4 v8 v9 v10 v11 none) τ = some (.next (KK xs R n T D v4 v8 v9 v10 v11 (some (.dct τ.length))) (τ ++ [.dict []])) := ex_asg rfl ev_dict0
  have hD1 : (τ ++ [AO.dict []])[D]? = some (.dict (endsEs rows rows.length)) := get_app hD
  have hkeys : sortDown ((endsEs rows rows.length).map (·.1)) = (dosTo rows rows.length).reverse.map fun (s : Nat) => (s : Int) := by
    rw [endsEs_keys, sortDown_asc, List.map_reverse]
    rw [List.pairwise_map]
    exact (dosTo_asc _).imp fun h => by (exact om278 h)
  have hlen : (endsEs rows rows.length).length < 64 := by
    have := dosTo_len (rows := rows) rows.length
    simp only [endsEs, List.length_map]; (exact om279 hn this)
  have hsort : ev C 39 (.sorted (.var 5)) (KK xs R n T D v4 v8 v9 v10 v11 (some (.dct τ.length))) none (τ ++ [.dict []]) = some (.lst (τ.length + 1), τ ++ [.dict []] ++ [.list (nums (dosTo rows rows.length).reverse)]) := by
    rw [ev_sorted (ev_v rfl) hD1 hlen, hkeys, List.map_map]
    have : (τ ++ [AO.dict []]).length = τ.length + 1 := by simp
    rw [this]
    rfl
  have hS0 : SI rows τ (τ.length + 1) τ.length (dosTo rows rows.length).reverse 0 (τ ++ [.dict []] ++ [.list (nums (dosTo rows rows.length).reverse)]) := by
    refine ⟨(Ext.app _ _).trans (Ext.app _ _), ?_, [], get_app get_new, List.nodup_nil, Nat.le_refl _, fun i => .inl ⟨rfl, rfl⟩⟩
    have : (τ ++ [AO.dict []]).length = τ.length + 1 := by simp
    rw [<- this]; exact get_new
  generalize (τ ++ [AO.dict []] ++ [AO.list (nums (dosTo rows rows.length).reverse)]) = τ1 at *
  have hdl : (dosTo rows rows.length).reverse.length <= 100 := by
    have := dosTo_len (rows := rows) rows.length
    rw [List.length_reverse]; (exact om280 hn this)
  have loop := lst_rule (C := C) (N := 39) (i := 8) (body := lawB14) (fun j ls υ => (∃ v8, ls = KK xs R n T D v4 v8 v9 v10 v11 (some (.dct τ.length))) /\ SI rows τ (τ.length + 1) τ.length (dosTo rows rows.length).reverse j υ) (fun _ => False) hsort hS0.s ⟨⟨v8, rfl⟩, hS0⟩
    (fun j ls υ hI => hI.2.s)
    (fun j v ls υ hv hI => by
      refine cpf fun rq => ?_
      refine el02 (hI) fun z114_0 J => ?_
      obtain ⟨v8, rfl⟩ := z114_0
      obtain ⟨s, hs, rfl⟩ : ∃ s, (dosTo rows rows.length).reverse[j]? = some s /\ v = V.int (s : Nat) := by
        unfold nums at hv
        rw [List.getElem?_map] at hv
        cases hq : (dosTo rows rows.length).reverse[j]? with
        | none => rw [hq] at hv; cases hv
        | some y => rw [hq] at hv; cases hv; exact ⟨y, rfl, rfl⟩
      refine el12 (sort_step (C := C) (xs := xs) (n := n) (R := R) (T := T) (v4 := v4) (v9 := v9) (v10 := v10) (v11 := v11) (v8 := v8) J hD hs (List.mem_reverse.mp (List.mem_of_getElem? hs)) (Nat.le_refl _) (by (exact Nat.succ_ne_self _)) hdl) fun υ' e J' => ?_
      refine rq ?_
      exact .inl ⟨_, υ', .inl e, ⟨_, rfl⟩, J'⟩)
  refine cpf fun rq => ?_
  rcases loop with ⟨ls', υ, e14, ⟨v8', rfl⟩, J⟩ | ⟨o, _, _, hF⟩
  · have hnl : (nums (dosTo rows rows.length).reverse).length = (dosTo rows rows.length).reverse.length := by simp [nums]
    refine el14 (J.d) fun es k1 k2 k3 k4 => ?_
    rw [hnl, List.take_length] at k4
    have hEυ := hτ.trans J.ext
    refine el13 (I.d4) fun es4 j1 j2 j3 => ?_
    have hmem : ∀ (k s : Nat), s ∈ accOf rows (dosTo rows rows.length).reverse (k : Int) ↔ fs.doEnd s = some k := fun k s => by
      unfold accOf
      rw [List.mem_filter, List.mem_reverse, hend, decide_eq_true_iff]
      constructor
      · rintro ⟨h1, h2⟩
        refine el02 (dosTo_mem.mp h1) fun _ h3 => ?_
        cases hd : doAt rows s with
        | none => rw [hd] at h3; cases h3
        | some t =>
          refine el12 (hE.each s t hd) fun p h4 _ => ?_
          have he : endOf rows s = some p := by unfold endOf; rw [hd]; exact h4
          have : pOf rows s = p := by unfold pOf; rw [he]; rfl
          (refine Eq.trans (he ..) ?_); congr 1; (exact om281 h2 this)
      · intro h
        have hp : pOf rows s = k := by unfold pOf; rw [h]; rfl
        refine ⟨?_, by rw [hp]⟩
        unfold endOf at h
        cases hd : doAt rows s with
        | none => rw [hd] at h; cases h
        | some t => exact dosTo_mem.mpr ⟨doAt_lt hd, by rw [hd]; rfl⟩
    have hdesc : ∀ i, (accOf rows (dosTo rows rows.length).reverse i).Pairwise (· > ·) := fun i => by
      unfold accOf
      refine List.Pairwise.filter _ ?_
      rw [List.pairwise_reverse]
      exact dosTo_asc _
    have hdict : eqDicts υ es4 es = some true := by
      refine eqDicts_of j2.nd k2 fun i => ?_
      rw [j2.look]
      by_cases hi : 0 <= i
      · obtain ⟨k, rfl⟩ : ∃ k : Nat, i = (k : Int) := ⟨i.toNat, by (exact om272 hi)⟩
        rw [liftN_nat]
        have hFe := F.ending k
        rcases k4 (k : Int) with ⟨a, b⟩ | ⟨a, x, b, c⟩
        · rw [b]
          cases hq : fs.ending k with
          | none => trivial
          | some l =>
            rw [hq] at hFe
            refine el03 (hFe) fun h1 h2 h3 => ?_
            induction l using List.casesOn with
            | nil => exact absurd rfl h1
            | cons s t =>
              have := (hmem k s).mpr ((h3 s).mp (.head _))
              rw [a] at this; cases this
        · rw [b]
          cases hq : fs.ending k with
          | none =>
            rw [hq] at hFe
            cases hl : accOf rows (dosTo rows rows.length).reverse (k : Int) with
            | nil => exact absurd hl a
            | cons s t => exact absurd ((hmem k s).mp (by rw [hl]; exact .head _)) (hFe s)
          | some l =>
            rw [hq] at hFe
            refine el03 (hFe) fun h1 h2 h3 => ?_
            refine el04 (I.el k l hq) fun _ _ g3 _ => ?_
            have hll : l = accOf rows (dosTo rows rows.length).reverse (k : Int) := desc_ext h2 (hdesc _) fun s => (h3 s).trans (hmem k s).symm
            simp only [Option.map, Int.toNat_natCast, Eqn.eqD_2]
            rw [eqLI_nums (hEυ _ _ g3) c, decide_eq_true hll]
      · have hl : liftN fs.ending i = none := by unfold liftN; (exact (if_neg hi ..))
        rw [hl]
        rcases k4 i with ⟨a, b⟩ | ⟨a, x, b, c⟩
        · rw [b]; trivial
        · exfalso
          refine a ?_
          unfold accOf
          rw [List.filter_eq_nil_iff]
          intro s _
          simp only [decide_eq_true_eq]
          (exact om282 hi)
    refine rq ?_
    refine ⟨υ, ?_⟩
    refine (exs_next s12).trans ?_
    refine (exs_next e14).trans ?_
    exact exs_one (ex_rt (ev_eq_dct (ev_at rfl (hEυ _ _ I.f) rfl) (ev_v rfl) (hEυ _ _ j1) k1 hdict))
  · refine rq ?_
    exact hF.elim
end
theorem ex_tryO {C : Calls} {N : Nat} {ls : Ls} {σ σ' σ'' : Sto} {i f j : Nat} {args : List CE} {vs : List V} {v : V} (h : evs (fun e σ => ev C N e ls none σ) args σ = some (vs, σ')) (hc : C f vs σ' = some (.ok v σ'')) :
    ex C (N + 1) (.tryf [.assign i (.call f args)] [.ret (.not (.var j))]) ls σ = some (.next (ls.set i (some v)) σ'') := by
  rw [ex_tryf, evR_call, h]
  simp only [hc, tryRun]
theorem ex_tryX {C : Calls} {N : Nat} {ls : Ls} {σ σ' : Sto} {i f j : Nat} {args : List CE} {vs : List V} {b : Bool} (h : evs (fun e σ => ev C N e ls none σ) args σ = some (vs, σ')) (hc : C f vs σ' = some .exc) (hj : ls[j]? = some (some (.bool b))) :
    ex C (N + 1) (.tryf [.assign i (.call f args)] [.ret (.not (.var j))]) ls σ = some (.ret (.bool !b) []) := by
  rw [ex_tryf, evR_call, h]
  simp only [hc, tryRun, boolAt, hj, Option.map]
theorem runLaw_true (xs : List Int) (hx : xs.length <= 63) : ∃ σ, runLaw xs = some (.ok (.bool true) σ) := by
  refine el76 (law_head xs hx) fun R rows σ b v3 v4 v5 hrun hR good hn hb hD => ?_
  suffices ∃ σ', exs (ex (run 5) 40) lawTail (K23 (some (.scr xs)) (some (.lst 1)) (some (.lst R)) (some v3) (some v4) (some v5) (some (.bool b)) none none none none none none) σ = some (.ret (.bool true) σ') by
    refine el11 (this) fun σ' h => ?_
    refine ⟨σ', ?_⟩
    unfold runLaw
    rw [lawFn_eq]
    exact runFn_ret rfl (hrun.trans h)
  have args : evs (fun e σ => ev (run 5) 39 e (K23 (some (.scr xs)) (some (.lst 1)) (some (.lst R)) (some v3) (some v4) (some v5) (some (.bool b)) none none none none none none) none σ) [.var 2] σ = some ([.lst R], σ) := by
    simp [Eqn.evs_1, Eqn.evs_2, ev_var]
  refine cpf fun rq => ?_
  rcases flowOf_spec (C := run 4) (C' := run 3) (C'' := run 2) (run_fns 3) (run_fns 2) hR (by (exact om283 hn)) good with ⟨fs, σ1, br, er, m, hfs, hbl, hlo, e, I⟩ | ⟨hno, e⟩
  · refine el15 (right_of_flow good hfs hbl hlo) fun A hA hE hT hend F => ?_
    have hbt : b = true := hb.mpr ⟨A, hA, hE, hT⟩
    subst hbt
    refine el12 (hD rfl) fun D q228_1 hD0 => ?_
    subst q228_1
    have hR1 := I.ext.rw hR
    have hD1 := I.ext _ _ hD0
    have hf := run_fns 4 4 _ [.lst R] σ fns_flowOf
    have s6 : ex (run 5) 40 (.tryf [.assign 7 (.call 4 [.var 2])] [.ret (.not (.var 6))]) (K23 (some (.scr xs)) (some (.lst 1)) (some (.lst R)) (some v3) (some v4) (some (.dct D)) (some (.bool true)) none none none none none none) σ = some (.next (K23 (some (.scr xs)) (some (.lst 1)) (some (.lst R)) (some v3) (some v4) (some (.dct D)) (some (.bool true)) (some (.flow (σ.length + 5))) none none none none none) σ1) :=
      ex_tryO args (hf.trans e)
    refine el13 (I.d3) fun es3 k1 k2 k3 => ?_
    have t7a : tst (run 5) 38 (.not (.var 6)) (KK xs R σ.length v3 D v4 none none none none none) none σ1 = some (false, σ1) := by
      have : tst (run 5) 37 (.var 6) (KK xs R σ.length v3 D v4 none none none none none) none σ1 = some (true, σ1) := by
        rw [tst_var, ev_v (v := .bool true) rfl]
        rfl
      rw [tst_not, this]
      rfl
    have t7b : tst (run 5) 38 (.cmp (.ne) (.attr (.var 7) 3) (.var 5)) (KK xs R σ.length v3 D v4 none none none none none) none σ1 = some (false, σ1) :=
      tst_ne_dct (N := 36) (ev_at rfl I.f rfl) (ev_v rfl) k1 hD1 (eqDicts_int k2 (endsEs_DN hE hend))
    have s7 : ex (run 5) 40 (.ite (.or [.not (.var 6), .cmp (.ne) (.attr (.var 7) 3) (.var 5)]) [.ret (.bool false)] []) (KK xs R σ.length v3 D v4 none none none none none) σ1 = some (.next (KK xs R σ.length v3 D v4 none none none none none) σ1) :=
      ex_skip (tst_or2 t7a (fun _ => t7b))
    refine el12 (law_labels (C := run 5) (xs := xs) (T := v3) (D := D) (v4 := v4) hR1 (by (exact om268 hn)) I F hT) fun σ2 s8 hE2 => ?_
    refine el52 (law_arms (C := run 5) (xs := xs) (T := v3) (D := D) (v4 := v4) (run_fns 4) (hE2.rw hR1) (by (exact om268 hn)) (I.of_ext hE2) (arms_of_flow hfs hbl)) fun v8 v9 v10 v11 σ3 hE3 s11 => ?_
    refine el11 (law_ending (C := run 5) (xs := xs) (R := R) (T := v3) (D := D) (v4 := v4) (v8 := v8) (v9 := v9) (v10 := v10) (v11 := v11) hE hend F I (hE2.trans hE3) (by (exact om283 hn)) ((hE2.trans hE3) _ _ hD1)) fun σ4 s15 => ?_
    refine rq ?_
    refine ⟨σ4, ?_⟩
    refine (exs_next s6).trans ?_
    refine (exs_next s7).trans ?_
    refine (exs_next s8).trans ?_
    exact (s11 _).trans s15
  · have hbf : b = false := by
      cases b with
      | false => rfl
      | true => exact absurd (flow_of_right good (hb.mp rfl)) hno
    subst hbf
    refine rq ?_
    refine ⟨[], exs_retd ?_⟩
    exact ex_tryX (j := 6) (b := false) args ((run_fns 4 4 _ _ _ fns_flowOf).trans e) rfl
end
end Mine.PL
end
section
set_option tactic.hygienic false
open PySem
namespace Mine
noncomputable section
noncomputable def cop : Co -> CmpOp
  | .eq => .Eq | .ne => .NotEq | .lt => .Lt | .isNone => .Is | .isNot => .IsNot | .isin => .In | .notin => .NotIn
noncomputable def pyop : Bo -> Operator
  | .add => .Add | .sub => .Sub | .mul => .Mult | .fdiv => .FloorDiv | .mod => .Mod
theorem no_some {α : Type} {a : α} {P : Prop} (h : none = some a) : P := nomatch h
theorem map_inv {α β : Type} {f : α -> β} {x : Option α} {r : β} (h : x.map f = some r) : ∃ a, x = some a /\ f a = r := Option.map_eq_some_iff.mp h
theorem do1 {α β : Type} {f : α -> β} {x : Option α} {r : β} (h : (do return f (<- x)) = some r) : ∃ a, x = some a /\ f a = r := by
  induction x using Option.casesOn with
  | none => cases h
  | some a => cases h; exact ⟨a, rfl, rfl⟩
theorem do2 {α β γ : Type} {f : α -> β -> γ} {x : Option α} {y : Option β} {r : γ} (h : (do return f (<- x) (<- y)) = some r) : ∃ a b, x = some a /\ y = some b /\ f a b = r := by
  induction x using Option.casesOn with
  | none => cases h
  | some a =>
    induction y using Option.casesOn with
    | none => cases h
    | some b => cases h; exact ⟨a, b, rfl, rfl, rfl⟩
theorem do3 {α β γ δ : Type} {f : α -> β -> γ -> δ} {x : Option α} {y : Option β} {z : Option γ} {r : δ} (h : (do return f (<- x) (<- y) (<- z)) = some r) : ∃ a b c, x = some a /\ y = some b /\ z = some c /\ f a b c = r := by
  induction x using Option.casesOn with
  | none => cases h
  | some a =>
    induction y using Option.casesOn with
    | none => cases h
    | some b =>
      induction z using Option.casesOn with
      | none => cases h
      | some c => cases h; exact ⟨a, b, c, rfl, rfl, rfl, rfl⟩
theorem do4 {α β γ δ ε : Type} {f : α -> β -> γ -> δ -> ε} {x : Option α} {y : Option β} {z : Option γ} {u : Option δ} {r : ε} (h : (do return f (<- x) (<- y) (<- z) (<- u)) = some r) : ∃ a b c d, x = some a /\ y = some b /\ z = some c /\ u = some d /\ f a b c d = r := by
  induction x using Option.casesOn with
  | none => cases h
  | some a =>
    induction y using Option.casesOn with
    | none => cases h
    | some b =>
      induction z using Option.casesOn with
      | none => cases h
      | some c =>
        induction u using Option.casesOn with
        | none => cases h
        | some d => cases h; exact ⟨a, b, c, d, rfl, rfl, rfl, rfl, rfl⟩
theorem ite_inv {α : Type} {b : Bool} {x : Option α} {r : α} (h : (if b = true then x else none) = some r) : b = true /\ x = some r := by
  induction b using Bool.casesOn with
  | false => cases h
  | true => exact ⟨rfl, h⟩
theorem idxOf_inv {l : List Str} {x : Str} {i : Nat} (h : idxOf? l x = some i) : l[i]? = some x := by
  refine el12 (List.findIdx?_eq_some_iff_getElem.mp h) fun hlt h1 _ => ?_
  (refine Eq.trans (List.getElem?_eq_getElem hlt ..) ?_)
  exact congrArg some (beq_iff_eq.mp h1)
theorem isLt_inv {o : CmpOp} (h : isLt o = true) : o = .Lt := by induction o using CmpOp.casesOn <;> first | rfl | exact Bool.noConfusion h
inductive CView (m : Nat) (c : CEnv) : Expr -> CE -> Prop
  | none {k p} : CView m c (.Constant .none k p) .none
  | bool {b k p} : CView m c (.Constant (.bool b) k p) (.bool b)
  | int {i k p} : CView m c (.Constant (.int i) k p) (.int i)
  | str {x i k p} (h : words[i]? = some x) : CView m c (.Constant (.str x) k p) (.str i)
  | var {x p i} (hd : (x == ("__debug__" : Str)) = false) (hr : resolve c x = .slot i) : CView m c (.Name x p) (.var i)
  | cv {x p} (hd : (x == ("__debug__" : Str)) = false) (hr : resolve c x = .cvar) : CView m c (.Name x p) .cv
  | and {es ces p} (h : allM (cmpE m c) es = some ces) : CView m c (.BoolOp .And es p) (.and ces)
  | or {es ces p} (h : allM (cmpE m c) es = some ces) : CView m c (.BoolOp .Or es p) (.or ces)
  | bin {a b p o ca cb} (ha : cmpE m c a = some ca) (hb : cmpE m c b = some cb) : CView m c (.BinOp a (pyop o) b p) (.bin o ca cb)
  | not {a p ca} (ha : cmpE m c a = some ca) : CView m c (.UnaryOp .Not a p) (.not ca)
  | neg {i k q p} : CView m c (.UnaryOp .USub (.Constant (.int i) k q) p) (.int (-i))
  | ite {t a b p ct ca cb} (ht : cmpE m c t = some ct) (ha : cmpE m c a = some ca) (hb : cmpE m c b = some cb) : CView m c (.IfExp t a b p) (.ite ct ca cb)
  | dict0 {p} : CView m c (.Dict [] [] p) .dict0
  | lst {es p ces} (hz : es.length <= 1000) (h : allM (cmpE m c) es = some ces) : CView m c (.List es p) (.lst ces)
  | tup {es k p ces} (hz : es.length <= 1000) (h : allM (cmpE m c) es = some ces) : CView m c (.Tuple es k p) (.tup ces)
  | comp {elt g scope p x ci a b cs} (hci : compInfo c g scope = some (x, ci)) (ha : cmpE m ci elt = some a) (hb : cmpE m c (iterOf c g.iter).1 = some b) (hcs : allM (cmpE m ci) g.ifs = some cs) : CView m c (.ListComp elt [g] scope p) (.comp a b cs (iterOf c g.iter).2)
  | cmp {a b p ca cb} (o : Co) (ho : o ≠ .isNone /\ o ≠ .isNot) (ha : cmpE m c a = some ca) (hb : cmpE m c b = some cb) : CView m c (.Compare a [cop o] [b] p) (.cmp o ca cb)
  | isn {a k q p ca} (o : Co) (ha : cmpE m c a = some ca) : CView m c (.Compare a [cop o] [.Constant .none k q] p) (.cmp o ca .none)
  | chain {a b d e p ca cb cd ce} (ha : cmpE m c a = some ca) (hb : cmpE m c b = some cb) (hd : cmpE m c d = some cd) (he : cmpE m c e = some ce) : CView m c (.Compare a [.Lt, .Lt, .Lt] [b, d, e] p) (.chain ca cb cd ce)
  | pop {o apos pos co} (hb : baseOk o = true) (hl : (apos.endLine == pos.line) = true) (ho : cmpE m c o = some co) : CView m c (.Call (.Attribute o "pop" apos) [] [] pos) (.pop co)
  | app {o apos pos x co cx} (hb : baseOk o = true) (hl : (apos.endLine == pos.line) = true) (ho : cmpE m c o = some co) (hx : cmpE m c x = some cx) : CView m c (.Call (.Attribute o "append" apos) [x] [] pos) (.app co cx)
  | get2 {o apos pos x y co cx cy} (hb : baseOk o = true) (hl : (apos.endLine == pos.line) = true) (ho : cmpE m c o = some co) (hx : cmpE m c x = some cx) (hy : cmpE m c y = some cy) : CView m c (.Call (.Attribute o "get" apos) [x, y] [] pos) (.get2 co cx cy)
  | call {f np args pos i ces} (hf : funNames[i]? = some f) (hg : isGlob c f f = true) (h : allM (cmpE m c) args = some ces) : CView m c (.Call (.Name f np) args [] pos) (.call i ces)
  | newflow {f np pos} (hg : isGlob c f "Flow" = true) : CView m c (.Call (.Name f np) [] [] pos) .newflow
  | len {f np pos x cx} (hg : isGlob c f "len" = true) (hx : cmpE m c x = some cx) : CView m c (.Call (.Name f np) [x] [] pos) (.len cx)
  | range1 {f np pos x cx} (hg : isGlob c f "range" = true) (hx : cmpE m c x = some cx) : CView m c (.Call (.Name f np) [x] [] pos) (.range1 cx)
  | mkdict {f np pos x cx} (hg : isGlob c f "dict" = true) (hx : cmpE m c x = some cx) : CView m c (.Call (.Name f np) [x] [] pos) (.mkdict cx)
  | mklist {f np pos x cx} (hg : isGlob c f "list" = true) (hx : cmpE m c x = some cx) : CView m c (.Call (.Name f np) [x] [] pos) (.mklist cx)
  | range2 {f np pos x y cx cy} (hg : isGlob c f "range" = true) (hx : cmpE m c x = some cx) (hy : cmpE m c y = some cy) : CView m c (.Call (.Name f np) [x, y] [] pos) (.range2 cx cy)
  | sorted {f np pos x cx k q r} (hg : isGlob c f "sorted" = true) (hx : cmpE m c x = some cx) : CView m c (.Call (.Name f np) [x] [⟨some "reverse", .Constant (.bool true) k q, r⟩] pos) (.sorted cx)
  | attr {y q x p k co} (hm : attrNames[k]? = some x) (ho : cmpE m c (.Name y q) = some co) : CView m c (.Attribute (.Name y q) x p) (.attr co k)
  | slHi {x xp u q p co ch} (ho : cmpE m c (.Name x xp) = some co) (hh : cmpE m c u = some ch) : CView m c (.Subscript (.Name x xp) (.Slice none (some u) none q) p) (.slHi co ch)
  | idx {o i p co ci} (hs : ∀ l u st q, i ≠ .Slice l u st q) (ho : cmpE m c o = some co) (hi : cmpE m c i = some ci) : CView m c (.Subscript o i p) (.idx co ci)
theorem isRev_inv {k : Keyword} (h : isRev k = true) : ∃ x q r, k = ⟨some "reverse", .Constant (.bool true) x q, r⟩ := by
  obtain ⟨a, v, r⟩ := k
  refine el02 (Bool.and_eq_true_iff.mp h) fun h1 h2 => ?_
  induction a using Option.casesOn with
  | none => exact Bool.noConfusion h1
  | some n =>
    obtain rfl := beq_iff_eq.mp (show (n == ("reverse" : Str)) = true from h1)
    induction v using Expr.casesOn with
    | Constant k x q =>
      induction k using Const.casesOn with
      | bool b => induction b using Bool.casesOn with
        | true => exact ⟨x, q, r, rfl⟩
        | false => exact Bool.noConfusion h2
      | _ => exact Bool.noConfusion h2
    | _ => exact Bool.noConfusion h2
theorem isNameE_inv {e : Expr} (h : isNameE e = true) : ∃ x p, e = .Name x p := by
  induction e using Expr.casesOn with
  | Name x p => exact ⟨x, p, rfl⟩
  | _ => exact Bool.noConfusion h
theorem isNoneE_inv {e : Expr} (h : isNoneE e = true) : ∃ k p, e = .Constant .none k p := by
  induction e using Expr.casesOn with
  | Constant k x p =>
    induction k using Const.casesOn with
    | none => exact ⟨x, p, rfl⟩
    | _ => exact Bool.noConfusion h
  | _ => exact Bool.noConfusion h
theorem negR_inv {e : Expr} {ce : CE} (h : negR e = some ce) : ∃ i k p, e = .Constant (.int i) k p /\ ce = .int (-i) := by
  induction e using Expr.casesOn with
  | Constant k x p =>
    induction k using Const.casesOn with
    | int i => cases (show some (CE.int (-i)) = some ce from h); exact ⟨i, x, p, rfl, rfl⟩
    | _ => exact no_some h
  | _ => exact no_some h
theorem bop_inv {o : Operator} {b : Bo} (h : bop o = some b) : o = pyop b := by
  induction o using Operator.casesOn with
  | Add => cases (show some Bo.add = some b from h); rfl
  | Sub => cases (show some Bo.sub = some b from h); rfl
  | Mult => cases (show some Bo.mul = some b from h); rfl
  | FloorDiv => cases (show some Bo.fdiv = some b from h); rfl
  | Mod => cases (show some Bo.mod = some b from h); rfl
  | _ => exact no_some h
theorem beq_str {x y : Str} (h : (x == y) = true) : x = y := beq_iff_eq.mp h
section
variable {m : Nat} {c : CEnv} {ce : CE}
theorem view_const {k : Const} {x : Nat} {p : Pos} (h : constR k = some ce) : CView m c (.Constant k x p) ce := by
  induction k using Const.casesOn with
  | none => cases (show some CE.none = some ce from h); exact .none
  | bool b => cases (show some (CE.bool b) = some ce from h); exact .bool
  | int i => cases (show some (CE.int i) = some ce from h); exact .int
  | str t =>
    refine el12 (map_inv (f := CE.str) h) fun i hi q146_2 => ?_
    subst q146_2
    exact .str (idxOf_inv hi)
  | _ => exact no_some h
theorem view_nameR {x : Str} {p : Pos} (h : nameR c x = some ce) : CView m c (.Name x p) ce := by
  unfold nameR at h
  cases hd : (x == ("__debug__" : Str)) with
  | true => rw [hd] at h; exact no_some h
  | false =>
    rw [hd] at h
    cases hr : resolve c x with
    | slot i => rw [hr] at h; cases (show some (CE.var i) = some ce from h); exact .var hd hr
    | cvar => rw [hr] at h; cases (show some CE.cv = some ce from h); exact .cv hd hr
    | glob => rw [hr] at h; exact no_some h
theorem view_cmp1 {a b : Expr} {o : CmpOp} {p : Pos} (h : cmp1R (cmpE m) c a b o = some ce) : CView m c (.Compare a [o] [b] p) ce := by
  have two : ∀ op, (op ≠ .isNone /\ op ≠ .isNot) -> (do return CE.cmp op (<- cmpE m c a) (<- cmpE m c b) : Option CE) = some ce -> CView m c (.Compare a [cop op] [b] p) ce := fun op ho h' => by
    refine el23 (do2 h') fun ca cb ha hb q161_4 => ?_
    subst q161_4
    exact .cmp op ho ha hb
  have isn : ∀ op, (if isNoneE b = true then (do return CE.cmp op (<- cmpE m c a) .none) else none : Option CE) = some ce -> CView m c (.Compare a [cop op] [b] p) ce := fun op h' => by
    refine el02 (ite_inv h') fun hn h2 => ?_
    refine el12 (do1 (f := fun x => CE.cmp op x .none) h2) fun ca ha q165_2 => ?_
    subst q165_2
    refine el21 (isNoneE_inv hn) fun k q q166_2 => ?_
    subst q166_2
    exact .isn op ha
  induction o using CmpOp.casesOn with
  | Eq => exact two .eq ⟨Co.noConfusion, Co.noConfusion⟩ h
  | NotEq => exact two .ne ⟨Co.noConfusion, Co.noConfusion⟩ h
  | Lt => exact two .lt ⟨Co.noConfusion, Co.noConfusion⟩ h
  | In => exact two .isin ⟨Co.noConfusion, Co.noConfusion⟩ h
  | NotIn => exact two .notin ⟨Co.noConfusion, Co.noConfusion⟩ h
  | Is => exact isn .isNone h
  | IsNot => exact isn .isNot h
  | _ => exact no_some h
theorem view_cmp {a : Expr} {ops : List CmpOp} {bs : List Expr} {p : Pos} (h : cmpR (cmpE m) c a ops bs = some ce) : CView m c (.Compare a ops bs p) ce :=
  match bs, ops, h with
  | [_], [_], h => view_cmp1 h
  | [_, _, _], [_, _, _], h => by
    refine el02 (ite_inv h) fun hl h2 => ?_
    refine el02 (Bool.and_eq_true_iff.mp hl) fun h3 h4 => ?_
    refine el02 (Bool.and_eq_true_iff.mp h4) fun h4 h5 => ?_
    obtain rfl := isLt_inv h3
    obtain rfl := isLt_inv h4
    obtain rfl := isLt_inv h5
    refine el45 (do4 (f := CE.chain) h2) fun ca cb cd ce' ha hb hd he q187_8 => ?_
    subst q187_8
    exact .chain ha hb hd he
theorem view_meth {o : Expr} {x : Str} {apos : Pos} {args : List Expr} {p : Pos} (hb : baseOk o = true) (hl : (apos.endLine == p.line) = true) (h : methR (cmpE m) c o x args = some ce) : CView m c (.Call (.Attribute o x apos) args [] p) ce :=
  match args, h with
  | [], h => by
    refine el02 (ite_inv h) fun hm h3 => ?_
    obtain rfl := beq_str hm
    refine el12 (map_inv h3) fun co ho q194_2 => ?_
    subst q194_2
    exact .pop hb hl ho
  | [_], h => by
    refine el02 (ite_inv h) fun hm h3 => ?_
    obtain rfl := beq_str hm
    refine el23 (do2 (f := CE.app) h3) fun co cx ho hx q199_4 => ?_
    subst q199_4
    exact .app hb hl ho hx
  | [_, _], h => by
    refine el02 (ite_inv h) fun hm h3 => ?_
    obtain rfl := beq_str hm
    refine el34 (do3 (f := CE.get2) h3) fun co cx cy ho hx hy q204_6 => ?_
    subst q204_6
    exact .get2 hb hl ho hx hy
theorem view_blt1 {f : Str} {np : Pos} {x : Expr} {p : Pos} (h : bltR (cmpE m) c f [x] = some ce) : CView m c (.Call (.Name f np) [x] [] p) ce := by
  have h' : (if isGlob c f "len" = true then (cmpE m c x).map CE.len
    else if isGlob c f "range" = true then (cmpE m c x).map CE.range1
    else if isGlob c f "dict" = true then (cmpE m c x).map CE.mkdict
    else if isGlob c f "list" = true then (cmpE m c x).map CE.mklist
    else none) = some ce := h
  clear h
  by_cases h1 : isGlob c f "len" = true
  · (replace h' := Eq.trans (Eq.symm (if_pos h1 ..)) (h'))
    refine el12 (map_inv h') fun cx hx q215_2 => ?_
    subst q215_2
    exact .len h1 hx
  · (replace h' := Eq.trans (Eq.symm (if_neg h1 ..)) (h'))
    by_cases h2 : isGlob c f "range" = true
    · (replace h' := Eq.trans (Eq.symm (if_pos h2 ..)) (h'))
      refine el12 (map_inv h') fun cx hx q220_2 => ?_
      subst q220_2
      exact .range1 h2 hx
    · (replace h' := Eq.trans (Eq.symm (if_neg h2 ..)) (h'))
      by_cases h3 : isGlob c f "dict" = true
      · (replace h' := Eq.trans (Eq.symm (if_pos h3 ..)) (h'))
        refine el12 (map_inv h') fun cx hx q225_2 => ?_
        subst q225_2
        exact .mkdict h3 hx
      · (replace h' := Eq.trans (Eq.symm (if_neg h3 ..)) (h'))
        refine el02 (ite_inv h') fun h4 h5 => ?_
        refine el12 (map_inv h5) fun cx hx q229_2 => ?_
        subst q229_2
        exact .mklist h4 hx
theorem view_call {f : Str} {np : Pos} {args : List Expr} {p : Pos} (h : callR (cmpE m) c f args = some ce) : CView m c (.Call (.Name f np) args [] p) ce := by
  unfold callR at h
  cases hq : idxOf? funNames f with
  | some i =>
    rw [hq] at h
    refine el02 (ite_inv h) fun hg h2 => ?_
    refine el12 (map_inv h2) fun ces hc q237_2 => ?_
    subst q237_2
    exact .call (idxOf_inv hq) hg hc
  | none =>
    rw [hq] at h
    exact match args, h with
    | [], h => by
      refine el02 (ite_inv h) fun hg h2 => ?_
      cases h2
      exact .newflow hg
    | [_], h => view_blt1 h
    | [_, _], h => by
      refine el02 (ite_inv h) fun hg h2 => ?_
      refine el23 (do2 (f := CE.range2) h2) fun cx cy hx hy q249_4 => ?_
      subst q249_4
      exact .range2 hg hx hy
theorem view_sort {f : Str} {np : Pos} {args : List Expr} {k : Keyword} {p : Pos} (h : sortR (cmpE m) c f args k = some ce) : CView m c (.Call (.Name f np) args [k] p) ce :=
  match args, h with
  | [_], h => by
    refine el02 (ite_inv h) fun hg h2 => ?_
    refine el02 (Bool.and_eq_true_iff.mp hg) fun hk hg => ?_
    refine el31 (isRev_inv hk) fun x q r q256_3 => ?_
    subst q256_3
    refine el12 (map_inv h2) fun cx hx q257_2 => ?_
    subst q257_2
    exact .sorted hg hx
theorem view_slice {o : Expr} {l u st : Option Expr} {q p : Pos} (h : sliceR (cmpE m) c o l u st = some ce) : CView m c (.Subscript o (.Slice l u st q) p) ce := by
  refine el02 (ite_inv h) fun hn h2 => ?_
  refine el21 (isNameE_inv hn) fun x xp q261_2 => ?_
  subst q261_2
  exact match l, st, u, h2 with
  | none, none, some _, h2 => by
    refine el23 (do2 (f := CE.slHi) h2) fun co ch ho hh q264_4 => ?_
    subst q264_4
    exact .slHi ho hh
theorem view_sub {o i : Expr} {p : Pos} (hs : ∀ l u st q, i ≠ .Slice l u st q) (h : (do return CE.idx (<- cmpE m c o) (<- cmpE m c i) : Option CE) = some ce) : CView m c (.Subscript o i p) ce := by
  refine el23 (do2 h) fun co ci ho hi q267_4 => ?_
  subst q267_4
  exact .idx hs ho hi
theorem compR_inv {elt : Expr} {gs : List Comprehension} {scope : Scope} (h : compR (cmpE m) c elt gs scope = some ce) : ∃ g x ci a b cs, gs = [g] /\ compInfo c g scope = some (x, ci) /\ cmpE m ci elt = some a /\ cmpE m c (iterOf c g.iter).1 = some b /\ allM (cmpE m ci) g.ifs = some cs /\ .comp a b cs (iterOf c g.iter).2 = ce :=
  match gs, h with
  | [g], h => by
    have h' : (match compInfo c g scope with
      | some (_, ci) => (do return CE.comp (<- cmpE m ci elt) (<- cmpE m c (iterOf c g.iter).1) (<- allM (cmpE m ci) g.ifs) (iterOf c g.iter).2)
      | none => none) = some ce := h
    clear h
    refine cpf fun rq => ?_
    cases hci : compInfo c g scope with
    | none => refine rq ?_; rw [hci] at h'; exact no_some h'
    | some y =>
      obtain ⟨x, ci⟩ := y
      rw [hci] at h'
      refine el34 (do3 (f := fun a b cs => CE.comp a b cs (iterOf c g.iter).2) h') fun a b cs ha hb hcs q281_6 => ?_
      refine rq ?_
      exact ⟨g, x, ci, a, b, cs, rfl, hci, ha, hb, hcs, q281_6⟩
theorem view_comp {elt : Expr} {gs : List Comprehension} {scope : Scope} {p : Pos} (h : compR (cmpE m) c elt gs scope = some ce) : CView m c (.ListComp elt gs scope p) ce := by
  refine el66 (compR_inv h) fun g x ci a b cs q1 hci ha hb hcs q2 => ?_
  subst q1
  subst q2
  exact .comp hci ha hb hcs
theorem lim_inv {es : List Expr} {f : List CE -> CE} {x : Option (List CE)} (h : (if es.length <= 1000 then x.map f else none) = some ce) : es.length <= 1000 /\ ∃ a, x = some a /\ f a = ce := by
  by_cases hz : es.length <= 1000
  · rw [if_pos hz] at h; exact ⟨hz, map_inv h⟩
  · rw [if_neg hz] at h; exact no_some h
theorem cmp_view {e : Expr} (h : cmpE (m + 1) c e = some ce) : CView m c e ce := by
  have h : stepE (cmpE m) c e = some ce := h
  induction e using Expr.casesOn with
  | Constant k x p => exact view_const h
  | Name x p => exact view_nameR h
  | BoolOp op es p =>
    induction op using BoolOp.casesOn with
    | And => obtain ⟨ces, hc, rfl⟩ := map_inv (f := CE.and) h; exact .and hc
    | Or => obtain ⟨ces, hc, rfl⟩ := map_inv (f := CE.or) h; exact .or hc
  | BinOp a op b p =>
    refine el34 (do3 (f := CE.bin) h) fun o ca cb ho ha hb q297_6 => ?_
    subst q297_6
    obtain rfl := bop_inv ho
    exact .bin ha hb
  | UnaryOp op a p =>
    induction op using UnaryOp.casesOn with
    | Not => obtain ⟨ca, ha, rfl⟩ := map_inv (f := CE.not) h; exact .not ha
    | USub => obtain ⟨i, k, q, rfl, rfl⟩ := negR_inv h; exact .neg
    | _ => exact no_some h
  | IfExp t a b p => obtain ⟨ct, ca, cb, ht, ha, hb, rfl⟩ := do3 (f := CE.ite) h; exact .ite ht ha hb
  | Dict ks vs p => exact match ks, vs, h with
    | [], [], h => by cases (show some CE.dict0 = some ce from h); exact .dict0
  | List es p => obtain ⟨hz, ces, hc, rfl⟩ := lim_inv h; exact .lst hz hc
  | Tuple es k p => obtain ⟨hz, ces, hc, rfl⟩ := lim_inv h; exact .tup hz hc
  | ListComp elt gs scope p => exact view_comp h
  | Compare a ops bs p => exact view_cmp h
  | Call f args kws p =>
    induction f using Expr.casesOn with
    | Attribute o x apos => exact match kws, h with
      | [], h => by
        refine el02 (ite_inv h) fun hg h2 => ?_
        refine el02 (Bool.and_eq_true_iff.mp hg) fun hb hl => ?_
        exact view_meth hb hl h2
    | Name f np => exact match kws, h with
      | [], h => view_call h
      | [_], h => view_sort h
    | _ => exact no_some h
  | Attribute o x p =>
    refine el02 (ite_inv h) fun hn h2 => ?_
    refine el21 (isNameE_inv hn) fun y q q325_2 => ?_
    subst q325_2
    refine el23 (do2 (f := CE.attr) h2) fun co k ho hk q326_4 => ?_
    subst q326_4
    exact .attr (idxOf_inv hk) ho
  | Subscript o i p =>
    induction i using Expr.casesOn with
    | Slice l u st q => exact view_slice h
    | _ => exact view_sub (fun _ _ _ _ => Expr.noConfusion) h
  | _ => exact no_some h
end
open PySem.W PySem.Calls PyProof.Rows in
structure Plain (e : Expr) : Prop where
  star : ∀ env rest, starEach (e :: rest) env = (false, eval e env) :: starEach rest env
  mark : ∀ op, behindInMarks op e = false
  swsub : ∀ o i p l env, swapsWith e (some (.Subscript o i p)) l env = pure false
  sw : (∀ elt gs scope p, e ≠ .ListComp elt gs scope p) -> ∀ t l env, swapsWith e t l env = pure false
section
open PySem.W PySem.Calls PyProof.Rows
theorem pl_Constant {a0 a1 a2} : Plain (.Constant a0 a1 a2) := ⟨fun _ _ => rfl, fun _ => rfl, fun _ _ _ _ _ => rfl, fun _ _ _ _ => rfl⟩
theorem pl_Name {a0 a1} : Plain (.Name a0 a1) := ⟨fun _ _ => rfl, fun _ => rfl, fun _ _ _ _ _ => rfl, fun _ _ _ _ => rfl⟩
theorem pl_BoolOp {a0 a1 a2} : Plain (.BoolOp a0 a1 a2) := ⟨fun _ _ => rfl, fun _ => rfl, fun _ _ _ _ _ => rfl, fun _ _ _ _ => rfl⟩
theorem pl_BinOp {a0 a1 a2 a3} : Plain (.BinOp a0 a1 a2 a3) := ⟨fun _ _ => rfl, fun _ => rfl, fun _ _ _ _ _ => rfl, fun _ _ _ _ => rfl⟩
theorem pl_UnaryOp {a0 a1 a2} : Plain (.UnaryOp a0 a1 a2) := ⟨fun _ _ => rfl, fun _ => rfl, fun _ _ _ _ _ => rfl, fun _ _ _ _ => rfl⟩
theorem pl_IfExp {a0 a1 a2 a3} : Plain (.IfExp a0 a1 a2 a3) := ⟨fun _ _ => rfl, fun _ => rfl, fun _ _ _ _ _ => rfl, fun _ _ _ _ => rfl⟩
theorem pl_Dict {a0 a1 a2} : Plain (.Dict a0 a1 a2) := ⟨fun _ _ => rfl, fun _ => rfl, fun _ _ _ _ _ => rfl, fun _ _ _ _ => rfl⟩
theorem pl_List {a0 a1} : Plain (.List a0 a1) := ⟨fun _ _ => rfl, fun _ => rfl, fun _ _ _ _ _ => rfl, fun _ _ _ _ => rfl⟩
theorem pl_Tuple {a0 a1 a2} : Plain (.Tuple a0 a1 a2) := ⟨fun _ _ => rfl, fun _ => rfl, fun _ _ _ _ _ => rfl, fun _ _ _ _ => rfl⟩
theorem pl_Compare {a0 a1 a2 a3} : Plain (.Compare a0 a1 a2 a3) := ⟨fun _ _ => rfl, fun _ => rfl, fun _ _ _ _ _ => rfl, fun _ _ _ _ => rfl⟩
theorem pl_Call {a0 a1 a2 a3} : Plain (.Call a0 a1 a2 a3) := ⟨fun _ _ => rfl, fun _ => rfl, fun _ _ _ _ _ => rfl, fun _ _ _ _ => rfl⟩
theorem pl_Attribute {a0 a1 a2} : Plain (.Attribute a0 a1 a2) := ⟨fun _ _ => rfl, fun _ => rfl, fun _ _ _ _ _ => rfl, fun _ _ _ _ => rfl⟩
theorem pl_Subscript {a0 a1 a2} : Plain (.Subscript a0 a1 a2) := ⟨fun _ _ => rfl, fun _ => rfl, fun _ _ _ _ _ => rfl, fun _ _ _ _ => rfl⟩
theorem pl_ListComp {a0 a1 a2 a3} : Plain (.ListComp a0 a1 a2 a3) := ⟨fun _ _ => rfl, fun _ => rfl, fun _ _ _ _ _ => rfl, fun h => absurd rfl (h _ _ _ _)⟩
end
def CInv (m : Nat) (c : CEnv) (e : Expr) : CE -> Prop
  | .call i ces => ∃ f np args pos, e = .Call (.Name f np) args [] pos /\ funNames[i]? = some f /\ isGlob c f f = true /\ allM (cmpE m c) args = some ces
  | .var j => ∃ y yp, e = .Name y yp /\ resolve c y = .slot j /\ (y == ("__debug__" : Str)) = false
  | .not ca => ∃ a p, e = .UnaryOp .Not a p /\ cmpE m c a = some ca
  | _ => True
theorem cview_all {m : Nat} {c : CEnv} {e : Expr} {ce : CE} (v : CView m c e ce) : Plain e /\ CInv m c e ce := by
  cases v with
  | none => exact ⟨pl_Constant, trivial⟩
  | bool => exact ⟨pl_Constant, trivial⟩
  | int => exact ⟨pl_Constant, trivial⟩
  | str => exact ⟨pl_Constant, trivial⟩
  | var hd hr => exact ⟨pl_Name, _, _, rfl, hr, hd⟩
  | cv => exact ⟨pl_Name, trivial⟩
  | and => exact ⟨pl_BoolOp, trivial⟩
  | or => exact ⟨pl_BoolOp, trivial⟩
  | bin => exact ⟨pl_BinOp, trivial⟩
  | not ha => exact ⟨pl_UnaryOp, _, _, rfl, ha⟩
  | neg => exact ⟨pl_UnaryOp, trivial⟩
  | ite => exact ⟨pl_IfExp, trivial⟩
  | dict0 => exact ⟨pl_Dict, trivial⟩
  | lst => exact ⟨pl_List, trivial⟩
  | tup => exact ⟨pl_Tuple, trivial⟩
  | comp => exact ⟨pl_ListComp, trivial⟩
  | cmp => exact ⟨pl_Compare, trivial⟩
  | isn => exact ⟨pl_Compare, trivial⟩
  | chain => exact ⟨pl_Compare, trivial⟩
  | attr => exact ⟨pl_Attribute, trivial⟩
  | slHi => exact ⟨pl_Subscript, trivial⟩
  | idx => exact ⟨pl_Subscript, trivial⟩
  | pop => exact ⟨pl_Call, trivial⟩
  | app => exact ⟨pl_Call, trivial⟩
  | get2 => exact ⟨pl_Call, trivial⟩
  | call hf hg hc => exact ⟨pl_Call, _, _, _, _, rfl, hf, hg, hc⟩
  | newflow => exact ⟨pl_Call, trivial⟩
  | len => exact ⟨pl_Call, trivial⟩
  | range1 => exact ⟨pl_Call, trivial⟩
  | mkdict => exact ⟨pl_Call, trivial⟩
  | mklist => exact ⟨pl_Call, trivial⟩
  | range2 => exact ⟨pl_Call, trivial⟩
  | sorted => exact ⟨pl_Call, trivial⟩
inductive SView (m : Nat) (c : CEnv) : Stmt -> CS -> Prop
  | expr {f as ks p q ce} (h : cmpE m c (.Call f as ks p) = some ce) : SView m c (.Expr (.Call f as ks p) q) (.expr ce)
  | asg {x px e q i ce} (hx : slotOf? c x = some i) (h : cmpE m c e = some ce) : SView m c (.Assign [.Name x px] e q) (.assign i ce)
  | sidx {o i r e q co ci ce} (ho : cmpE m c o = some co) (hi : cmpE m c i = some ci) (h : cmpE m c e = some ce) : SView m c (.Assign [.Subscript o i r] e q) (.setIdx co ci ce)
  | unp {x px y py z pz k r f as ks p q i j l ce} (hx : slotOf? c x = some i) (hy : slotOf? c y = some j) (hz : slotOf? c z = some l) (h : cmpE m c (.Call f as ks p) = some ce) : SView m c (.Assign [.Tuple [.Name x px, .Name y py, .Name z pz] k r] (.Call f as ks p) q) (.unpack3 i j l ce)
  | aug {x px o e q i op ce} (hx : slotOf? c x = some i) (ho : (o = .Add /\ op = .add) \/ (o = .Sub /\ op = .sub)) (h : cmpE m c e = some ce) : SView m c (.AugAssign (.Name x px) o e q) (.aug i op ce)
  | ite {t a b q ct ca cb} (ht : cmpE m c t = some ct) (ha : allM (cmpS m c) a = some ca) (hb : allM (cmpS m c) b = some cb) : SView m c (.If t a b q) (.ite ct ca cb)
  | forr {x px it b q i ci cb} (hx : slotOf? c x = some i) (hi : cmpE m c it = some ci) (hb : allM (cmpS m c) b = some cb) : SView m c (.For (.Name x px) it b [] q) (.forr i ci cb)
  | whil {t b q ct cb} (ht : cmpE m c t = some ct) (hb : allM (cmpS m c) b = some cb) : SView m c (.While t b [] q) (.whil ct cb)
  | ret {e q ce} (h : cmpE m c e = some ce) : SView m c (.Return (some e) q) (.ret ce)
  | retNone {q} : SView m c (.Return none q) .retNone
  | raise {f np x k xp p q} (hg : isGlob c f "CheckFault" = true) : SView m c (.Raise (some (.Call (.Name f np) [.Constant (.str x) k xp] [] p)) none q) .raise
  | cont {q} : SView m c (.Continue q) .cont
  | tryf {body f np h hp q a b} (hg : isGlob c f "CheckFault" = true) (ha : allM (cmpS m c) body = some a) (hb : allM (cmpS m c) h = some b) : SView m c (.Try body [.ExceptHandler (some (.Name f np)) none h hp] [] [] q) (.tryf a b)
section
variable {m : Nat} {c : CEnv} {cs : CS}
theorem isCallX_inv {e : Expr} (h : isCallX e = true) : ∃ f as ks p, e = .Call f as ks p := by
  induction e using Expr.casesOn with
  | Call f as ks p => exact ⟨f, as, ks, p, rfl⟩
  | _ => exact Bool.noConfusion h
theorem isConst_inv {e : Expr} (h : isConst e = true) : ∃ x k p, e = .Constant (.str x) k p := by
  induction e using Expr.casesOn with
  | Constant k x p =>
    induction k using Const.casesOn with
    | str t => exact ⟨t, x, p, rfl⟩
    | _ => exact Bool.noConfusion h
  | _ => exact Bool.noConfusion h
theorem slotE_inv {e : Expr} {i : Nat} (h : slotE? c e = some i) : ∃ x p, e = .Name x p /\ slotOf? c x = some i := by
  induction e using Expr.casesOn with
  | Name x p => exact ⟨x, p, rfl, h⟩
  | _ => exact no_some h
theorem augR_inv {o : Operator} {b : Bo} (h : augR o = some b) : (o = .Add /\ b = .add) \/ (o = .Sub /\ b = .sub) := by
  induction o using Operator.casesOn with
  | Add => cases (show some Bo.add = some b from h); exact .inl ⟨rfl, rfl⟩
  | Sub => cases (show some Bo.sub = some b from h); exact .inr ⟨rfl, rfl⟩
  | _ => exact no_some h
theorem excN_inv {t : Option Expr} (h : excN c t = true) : ∃ f np, t = some (.Name f np) /\ isGlob c f "CheckFault" = true := by
  induction t using Option.casesOn with
  | none => exact Bool.noConfusion h
  | some e =>
    induction e using Expr.casesOn with
    | Name f np => exact ⟨f, np, rfl, h⟩
    | _ => exact Bool.noConfusion h
theorem view_asg {t e : Expr} {q : Pos} (h : asgR (cmpE m c) c t e = some cs) : SView m c (.Assign [t] e q) cs := by
  induction t using Expr.casesOn with
  | Name x p =>
    refine el23 (do2 (f := CS.assign) h) fun i ce hi he q383_4 => ?_
    subst q383_4
    exact .asg hi he
  | Subscript o i p =>
    refine el34 (do3 (f := CS.setIdx) h) fun co ci ce ho hi he q386_6 => ?_
    subst q386_6
    exact .sidx ho hi he
  | Tuple ts k p => exact match ts, h with
    | [_, _, _], h => by
      refine el02 (ite_inv h) fun hc h2 => ?_
      refine el41 (isCallX_inv hc) fun f as ks p q391_4 => ?_
      subst q391_4
      refine el45 (do4 (f := CS.unpack3) h2) fun i j l ce hi hj hl he q392_8 => ?_
      subst q392_8
      refine el22 (slotE_inv hi) fun x px q393_2 hx => ?_
      subst q393_2
      refine el22 (slotE_inv hj) fun y py q394_2 hy => ?_
      subst q394_2
      refine el22 (slotE_inv hl) fun z pz q395_2 hz => ?_
      subst q395_2
      exact .unp hx hy hz he
  | _ => exact no_some h
theorem view_raise {e : Expr} {q : Pos} (h : raiseR c e = some cs) : SView m c (.Raise (some e) none q) cs := by
  induction e using Expr.casesOn with
  | Call fe args ks p => exact match ks, args, h with
    | [], [_], h => by
      refine el02 (ite_inv h) fun hg h2 => ?_
      refine el02 (Bool.and_eq_true_iff.mp hg) fun hg1 hc => ?_
      refine el31 (isConst_inv hc) fun x k xp q404_3 => ?_
      subst q404_3
      refine el22 (excN_inv hg1) fun f np he hg2 => ?_
      (replace he := Option.some.inj he; subst he)
      (replace h2 := Option.some.inj h2; subst h2)
      exact .raise hg2
  | _ => exact no_some h
theorem view_try {body : List Stmt} {hs : List ExceptHandler} {q : Pos} (h : tryR (cmpS m c) c body hs = some cs) : SView m c (.Try body hs [] [] q) cs :=
  match hs, h with
  | [.ExceptHandler t n _ _], h => by
    refine el02 (ite_inv h) fun hg h2 => ?_
    refine el02 (Bool.and_eq_true_iff.mp hg) fun hn hg => ?_
    refine el23 (do2 (f := CS.tryf) h2) fun a b ha hb q415_4 => ?_
    subst q415_4
    obtain rfl := Option.isNone_iff_eq_none.mp hn
    refine el22 (excN_inv hg) fun f np q417_2 hg => ?_
    subst q417_2
    exact .tryf hg ha hb
theorem cmp_sview {s : Stmt} (h : cmpS (m + 1) c s = some cs) : SView m c s cs := by
  have h : stepS (cmpE m c) (cmpS m c) c s = some cs := h
  induction s using Stmt.casesOn with
  | Expr e p =>
    refine el02 (ite_inv h) fun hc h2 => ?_
    refine el41 (isCallX_inv hc) fun f as ks p q424_4 => ?_
    subst q424_4
    refine el12 (map_inv h2) fun ce he q425_2 => ?_
    subst q425_2
    exact .expr he
  | Assign ts e p => exact match ts, h with
    | [_], h => view_asg h
  | AugAssign t op e p =>
    refine el34 (do3 (f := CS.aug) h) fun i b ce hi hb he q430_6 => ?_
    subst q430_6
    refine el22 (slotE_inv hi) fun x px q431_2 hx => ?_
    subst q431_2
    exact .aug hx (augR_inv hb) he
  | If t a b p =>
    refine el34 (do3 (f := CS.ite) h) fun ct ca cb ht ha hb q434_6 => ?_
    subst q434_6
    exact .ite ht ha hb
  | For t it b els p => exact match els, h with
    | [], h => by
      refine el34 (do3 (f := CS.forr) h) fun i ci cb hi hc hb q438_6 => ?_
      subst q438_6
      refine el22 (slotE_inv hi) fun x px q439_2 hx => ?_
      subst q439_2
      exact .forr hx hc hb
  | While t b els p => exact match els, h with
    | [], h => by
      refine el23 (do2 (f := CS.whil) h) fun ct cb ht hb q443_4 => ?_
      subst q443_4
      exact .whil ht hb
  | Return e p => exact match e, h with
    | some _, h => by obtain ⟨ce, he, rfl⟩ := map_inv (f := CS.ret) h; exact .ret he
    | none, h => by cases (show some CS.retNone = some cs from h); exact .retNone
  | Raise e ca p => exact match ca, e, h with
    | none, some _, h => view_raise h
  | Continue p => cases (show some CS.cont = some cs from h); exact .cont
  | Try body hs els fin p => exact match els, fin, h with
    | [], [], h => view_try h
  | _ => exact no_some h
end
def SInv (m : Nat) (c : CEnv) (s : Stmt) : CS -> Prop
  | .assign i ce => ∃ x px e pos, s = .Assign [.Name x px] e pos /\ slotOf? c x = some i /\ cmpE m c e = some ce
  | .ret ce => ∃ e pos, s = .Return (some e) pos /\ cmpE m c e = some ce
  | .tryf a b => ∃ body f np hb hp pos, s = .Try body [.ExceptHandler (some (.Name f np)) none hb hp] [] [] pos /\ isGlob c f "CheckFault" = true /\ allM (cmpS m c) body = some a /\ allM (cmpS m c) hb = some b
  | _ => True
theorem sview_all {m : Nat} {c : CEnv} {s : Stmt} {cs : CS} (v : SView m c s cs) : SInv m c s cs := by
  cases v with
  | asg hx hc => exact ⟨_, _, _, _, rfl, hx, hc⟩
  | ret hc => exact ⟨_, _, rfl, hc⟩
  | tryf hg ha hb => exact ⟨_, _, _, _, _, _, rfl, hg, ha, hb⟩
  | expr => exact trivial
  | sidx => exact trivial
  | unp => exact trivial
  | aug => exact trivial
  | ite => exact trivial
  | forr => exact trivial
  | whil => exact trivial
  | retNone => exact trivial
  | raise => exact trivial
  | cont => exact trivial
theorem bind_some {α β : Type} {x : Option α} {f : α -> Option β} {r : β} (h : x.bind f = some r) : ∃ a, x = some a /\ f a = some r := Option.bind_eq_some_iff.mp h
theorem cmpFn_inv {a1 args a2 a3 a4 a5 scope a6 a7 a8} {F : Fn} (h : cmpFn (.FunctionDef a1 args a2 a3 a4 a5 scope a6 a7 a8) = some F) :
    ∃ qs, (args.args.mapM fun a => slotOf? ⟨scope.names, none⟩ a.arg) = some qs /\ ∃ bd, allM (cmpS 40 ⟨scope.names, none⟩) a2 = some bd /\ ⟨qs, scope.names.length, bd⟩ = F := by
  refine el12 (bind_some h) fun qs h1 h => ?_
  refine el12 (bind_some h) fun bd h2 h => ?_
  exact ⟨qs, h1, bd, h2, Option.some.inj h⟩
section
variable {σ σ' : Sto} {a b v : V} {r : Bool}
theorem binV_inv {op : Bo} (e : binV op a b σ = some (v, σ')) : (∃ i j k, a = .int i /\ b = .int j /\ arith op i j = some k /\ v = .int k /\ σ' = σ) \/ (∃ n m vs us, op = .add /\ a = .lst n /\ b = .lst m /\ getL σ n = some vs /\ getL σ m = some us /\ vs.length + us.length < LIM /\ v = .lst σ.length /\ σ' = σ ++ [.list (vs ++ us)]) := by
  induction a using V.casesOn with
  | int i =>
    induction b using V.casesOn with
    | int j =>
      refine el12 (map_inv e) fun k hk h => ?_
      (refine el02 (Prod.mk.inj h) fun w507_0 w507_1 => ?_; clear h; subst w507_0; subst w507_1)
      exact .inl ⟨i, j, k, rfl, rfl, hk, rfl, rfl⟩
    | _ => exact no_some e
  | lst n =>
    induction b using V.casesOn with
    | lst m =>
      induction op using Bo.casesOn with
      | add =>
        refine el12 (bind_some e) fun vs h1 e => ?_
        refine el12 (bind_some e) fun us h2 e => ?_
        by_cases h : vs.length + us.length < LIM
        · rw [if_pos h] at e
          (refine some2 e fun w519_0 w519_1 => ?_; clear e; subst w519_0; subst w519_1)
          exact .inr ⟨n, m, vs, us, rfl, rfl, rfl, h1, h2, h, rfl, rfl⟩
        · rw [if_neg h] at e; exact no_some e
      | _ => exact no_some e
    | _ => exact no_some e
  | _ => exact no_some e
theorem eqS_inv (e : eqS a b = some r) : (∃ i j, a = .int i /\ b = .int j /\ decide (i = j) = r) \/ (∃ i j, a = .str i /\ b = .str j /\ decide (i = j) = r) \/ (∃ i j, a = .int i /\ b = .str j /\ false = r) \/ (∃ i j, a = .str i /\ b = .int j /\ false = r) := by
  induction a using V.casesOn with
  | int i =>
    induction b using V.casesOn with
    | int j => exact .inl ⟨i, j, rfl, rfl, Option.some.inj e⟩
    | str j => exact .inr (.inr (.inl ⟨i, j, rfl, rfl, Option.some.inj e⟩))
    | _ => exact no_some e
  | str i =>
    induction b using V.casesOn with
    | str j => exact .inr (.inl ⟨i, j, rfl, rfl, Option.some.inj e⟩)
    | int j => exact .inr (.inr (.inr ⟨i, j, rfl, rfl, Option.some.inj e⟩))
    | _ => exact no_some e
  | _ => exact no_some e
theorem eqD_inv (e : eqD σ a b = some r) : (∃ i j, a = .int i /\ b = .int j /\ decide (i = j) = r) \/ (∃ n m, a = .lst n /\ b = .lst m /\ eqLI σ n m = some r) := by
  induction a using V.casesOn with
  | int i =>
    induction b using V.casesOn with
    | int j => exact .inl ⟨i, j, rfl, rfl, Option.some.inj e⟩
    | _ => exact no_some e
  | lst n =>
    induction b using V.casesOn with
    | lst m => exact .inr ⟨n, m, rfl, rfl, e⟩
    | _ => exact no_some e
  | _ => exact no_some e
theorem eqV_inv (e : eqV σ a b = some r) : (∃ n m, a = .lst n /\ b = .lst m /\ eqLI σ n m = some r) \/ (∃ n m x y, a = .dct n /\ b = .dct m /\ getD σ n = some x /\ getD σ m = some y /\ eqDicts σ x y = some r) \/ eqS a b = some r := by
  induction a using V.casesOn with
  | lst n =>
    induction b using V.casesOn with
    | lst m => exact .inl ⟨n, m, rfl, rfl, e⟩
    | _ => exact no_some e
  | dct n =>
    induction b using V.casesOn with
    | dct m =>
      refine el12 (bind_some e) fun x h1 e => ?_
      refine el12 (bind_some e) fun y h2 e => ?_
      exact .inr (.inl ⟨n, m, x, y, rfl, rfl, h1, h2, e⟩)
    | _ => exact no_some e
  | _ => exact .inr (.inr e)
theorem ltV_inv (e : ltV a b = some r) : ∃ i j, a = .int i /\ b = .int j /\ decide (i < j) = r := by
  induction a using V.casesOn with
  | int i =>
    induction b using V.casesOn with
    | int j => exact ⟨i, j, rfl, rfl, Option.some.inj e⟩
    | _ => exact no_some e
  | _ => exact no_some e
theorem inV_inv (e : inV σ a b = some r) : (∃ vs, b = .tup vs /\ inTup a vs = some r) \/ (∃ k n es, a = .int k /\ b = .dct n /\ getD σ n = some es /\ (lookI es k).isSome = r) := by
  induction b using V.casesOn with
  | tup vs => exact .inl ⟨vs, rfl, e⟩
  | dct n =>
    induction a using V.casesOn with
    | int k =>
      refine el12 (map_inv e) fun es h1 e => ?_
      exact .inr ⟨k, n, es, rfl, rfl, h1, e⟩
    | _ => exact no_some e
  | _ => exact no_some e
theorem idxV_inv {o i : V} (e : idxV o i σ = some v) : (∃ k n vs, i = .int k /\ o = .lst n /\ getL σ n = some vs /\ atL vs k = some v) \/ (∃ k vs, i = .int k /\ o = .tup vs /\ (0 <= k /\ k < 1000000) /\ vs[k.toNat]? = some v) \/ (∃ k n es, i = .int k /\ o = .dct n /\ getD σ n = some es /\ lookI es k = some v) := by
  induction i using V.casesOn with
  | int k =>
    induction o using V.casesOn with
    | lst n =>
      refine el12 (bind_some e) fun vs h1 e => ?_
      exact .inl ⟨k, n, vs, rfl, rfl, h1, e⟩
    | tup vs =>
      have e : (if 0 <= k /\ k < 1000000 then vs[k.toNat]? else none) = some v := e
      by_cases h : 0 <= k /\ k < 1000000
      · rw [if_pos h] at e; exact .inr (.inl ⟨k, vs, rfl, rfl, h, e⟩)
      · rw [if_neg h] at e; exact no_some e
    | dct n =>
      refine el12 (bind_some e) fun es h1 e => ?_
      exact .inr (.inr ⟨k, n, es, rfl, rfl, h1, e⟩)
    | _ => exact no_some e
  | _ => exact no_some e
end
end
end Mine
end
section
set_option tactic.hygienic false
open PySem PySem.W PySem.Calls PyProof.Rows
namespace Mine
noncomputable section
noncomputable def prog : Program := PySem.Challenge.pw_no0225_01
noncomputable def Fix (o : Obj) : Prop := (o.cls = .type "tuple" /\ ∃ xs n, o.data = .seq xs n) \/ o.data = .plain \/ (o.cls = .type "range" /\ ∃ vs, o.data = .fields vs)
section rep
variable (HH : Heap)
mutual
inductive RepV (ρ : List Addr) (h : Heap) : V -> Value -> Prop
  | none : RepV ρ h .none Value.none
  | bool (b : Bool) : RepV ρ h (.bool b) (.bool b)
  | int (i : Int) (t : Tok) : RepV ρ h (.int i) (.int i t)
  | str {w : Nat} {x : Str} (t : Tok) : words[w]? = some x -> RepV ρ h (.str w) (.str x t)
  | tup {vs : List V} {cvs : List Value} {a : Addr} : h.IsTuple a cvs.toArray -> RepVs ρ h vs cvs -> RepV ρ h (.tup vs) (.ref a)
  | lst {n : Nat} {a : Addr} : ρ[n]? = some a -> RepV ρ h (.lst n) (.ref a)
  | dct {n : Nat} {a : Addr} : ρ[n]? = some a -> RepV ρ h (.dct n) (.ref a)
  | flow {n : Nat} {a d : Addr} : ρ[n]? = some d -> h.get? a = some (instObj 63 d) -> RepV ρ h (.flow n) (.ref a)
  | rng {lo hi : Int} {a : Addr} {t u v : Tok} : IsRange h a lo hi 1 t u v -> tiny lo = true -> tiny hi = true -> RepV ρ h (.rng lo hi) (.ref a)
  | scr {xs : List Int} {a : Addr} {cvs : List Value} : HH.IsList a cvs.toArray -> IntsAre cvs xs -> xs.length <= 1000 -> RepV ρ h (.scr xs) (.ref a)
inductive RepVs (ρ : List Addr) (h : Heap) : List V -> List Value -> Prop
  | nil : RepVs ρ h [] []
  | cons {v : V} {x : Value} {vs : List V} {xs : List Value} : RepV ρ h v x -> RepVs ρ h vs xs -> RepVs ρ h (v :: vs) (x :: xs)
end
structure Evo (own ρ : List Addr) (h : Heap) (ρ' : List Addr) (h' : Heap) : Prop where
  pre : ρ <+: ρ'
  fresh : ∀ a ∈ ρ', a ∈ ρ \/ h.get? a = none
  live : ∀ a o, h.get? a = some o -> ∃ o', h'.get? a = some o'
  keep : ∀ a o, h.get? a = some o -> a ∉ own -> a ∉ ρ -> h'.get? a = some o
  fix : ∀ a o, h.get? a = some o -> Fix o -> h'.get? a = some o
variable {HH}
section inv
variable {ρ : List Addr} {h : Heap} {x : Value}
noncomputable def RInv (HH : Heap) (ρ : List Addr) (h : Heap) (x : Value) : V -> Prop
  | .none => x = .none
  | .bool b => x = .bool b
  | .int i => ∃ t, x = .int i t
  | .str w => ∃ y t, x = .str y t /\ words[w]? = some y
  | .tup vs => ∃ a cvs, x = .ref a /\ h.IsTuple a (cvs : List Value).toArray /\ RepVs HH ρ h vs cvs
  | .lst n => ∃ a, x = .ref a /\ ρ[n]? = some a
  | .dct n => ∃ a, x = .ref a /\ ρ[n]? = some a
  | .flow n => ∃ a d, x = .ref a /\ ρ[n]? = some d /\ h.get? a = some (instObj 63 d)
  | .rng lo hi => ∃ a t u v, x = .ref a /\ IsRange h a lo hi 1 t u v /\ tiny lo = true /\ tiny hi = true
  | .scr xs => ∃ a cvs, x = .ref a /\ HH.IsList a (cvs : List Value).toArray /\ IntsAre cvs xs /\ xs.length <= 1000
theorem RepV.inv {v : V} (r : RepV HH ρ h v x) : RInv HH ρ h x v := by
  induction r using RepV.casesOn with
  | none => exact rfl
  | bool b => exact rfl
  | int i t => exact ⟨t, rfl⟩
  | str t q => exact ⟨_, t, rfl, q⟩
  | tup q k => exact ⟨_, _, rfl, q, k⟩
  | lst q => exact ⟨_, rfl, q⟩
  | dct q => exact ⟨_, rfl, q⟩
  | flow q k => exact ⟨_, _, rfl, q, k⟩
  | rng q k l => exact ⟨_, _, _, _, rfl, q, k, l⟩
  | scr q k l => exact ⟨_, _, rfl, q, k, l⟩
theorem rep_bool {b : Bool} (r : RepV HH ρ h (.bool b) x) : x = .bool b := r.inv
theorem rep_int {i : Int} (r : RepV HH ρ h (.int i) x) : ∃ t, x = .int i t := r.inv
theorem rep_str {i : Nat} (r : RepV HH ρ h (.str i) x) : ∃ y t, x = .str y t /\ words[i]? = some y := r.inv
theorem rep_tup {vs : List V} (r : RepV HH ρ h (.tup vs) x) : ∃ a cvs, x = .ref a /\ h.IsTuple a (cvs : List Value).toArray /\ RepVs HH ρ h vs cvs := r.inv
theorem rep_lst {n : Nat} (r : RepV HH ρ h (.lst n) x) : ∃ a, x = .ref a /\ ρ[n]? = some a := r.inv
theorem rep_dct {n : Nat} (r : RepV HH ρ h (.dct n) x) : ∃ a, x = .ref a /\ ρ[n]? = some a := r.inv
theorem rep_none (r : RepV HH ρ h .none x) : x = .none := r.inv
end inv
theorem Evo.refl {own ρ : List Addr} {h : Heap} : Evo own ρ h ρ h :=
  ⟨List.prefix_refl _, fun _ h => .inl h, fun _ o h => ⟨o, h⟩, fun _ _ h _ _ => h, fun _ _ h _ => h⟩
theorem Evo.trans {own ρ ρ₁ ρ₂ : List Addr} {h h₁ h₂ : Heap} (x : Evo own ρ h ρ₁ h₁) (y : Evo own ρ₁ h₁ ρ₂ h₂) : Evo own ρ h ρ₂ h₂ where
  pre := x.pre.trans y.pre
  fresh := fun a ha => by
    rcases y.fresh a ha with q | q
    · exact x.fresh a q
    · right
      cases e : h.get? a with
      | none => rfl
      | some o => obtain ⟨o', h'⟩ := x.live a o e; (replace h' := Eq.trans (Eq.symm (q ..)) (h')); cases h'
  live := fun a o e => by obtain ⟨o', h'⟩ := x.live a o e; exact y.live a o' h'
  keep := fun a o e ho hr => y.keep a o (x.keep a o e ho hr) ho fun q => by
    rcases x.fresh a q with q | q
    · exact hr q
    · (replace q := Eq.trans (Eq.symm (e ..)) (q)); cases q
  fix := fun a o e f => y.fix a o (x.fix a o e f) f
theorem Evo.weaken {own own' ρ ρ' : List Addr} {h h' : Heap} (x : Evo own ρ h ρ' h') (hs : ∀ a ∈ own, a ∈ own' \/ h.get? a = none) : Evo own' ρ h ρ' h' where
  pre := x.pre
  fresh := x.fresh
  live := x.live
  keep := fun a o e ho hr => x.keep a o e (fun q => (hs a q).elim ho fun q => by (replace q := Eq.trans (Eq.symm (e ..)) (q)); (exact some_no q)) hr
  fix := x.fix
theorem Evo.mem {own ρ ρ' : List Addr} {h h' : Heap} (x : Evo own ρ h ρ' h') {a : Addr} {o : Obj} (e : h.get? a = some o) (n : a ∉ ρ) : a ∉ ρ' := fun q => by
  rcases x.fresh a q with q | q
  · exact n q
  · (replace q := Eq.trans (Eq.symm (e ..)) (q)); (exact some_no q)
theorem Evo.of_keeps {own ρ : List Addr} {h h' : Heap} (k : ∀ a o, h.get? a = some o -> h'.get? a = some o) : Evo own ρ h ρ h' :=
  ⟨List.prefix_refl _, fun _ h => .inl h, fun _ o h => ⟨o, k _ _ h⟩, fun _ _ h _ _ => k _ _ h, fun _ _ h _ => k _ _ h⟩
theorem Evo.push {own ρ : List Addr} {h : Heap} (o : Obj) : Evo own ρ h ρ (h.push o) := Evo.of_keeps fun _ _ e => Heap.get?_push_of_some _ e
theorem Evo.sameBut {own ρ : List Addr} {h h' : Heap} {a : Addr} {o o' : Obj} (hs : Heap.SameBut a h h') (ho : h.get? a = some o) (hn : ¬ Fix o) (ho' : h'.get? a = some o')
    (hm : a ∈ own \/ a ∈ ρ) : Evo own ρ h ρ h' where
  pre := List.prefix_refl _
  fresh := fun _ h => .inl h
  live := fun b ob e => by
    by_cases q : b = a
    · subst q; exact ⟨o', ho'⟩
    · exact ⟨ob, (hs.2 b q).trans e⟩
  keep := fun b ob e h1 h2 => by
    have q : b ≠ a := fun q => by subst q; exact hm.elim h1 h2
    exact (hs.2 b q).trans e
  fix := fun b ob e f => by
    have q : b ≠ a := fun q => by subst q; rw [ho] at e; injection e with e; subst e; exact hn f
    exact (hs.2 b q).trans e
theorem fix_tuple {h h' : Heap} {a : Addr} {vs : Array Value} (x : h.IsTuple a vs) (k : ∀ a o, h.get? a = some o -> Fix o -> h'.get? a = some o) : h'.IsTuple a vs :=
  let ⟨o, ho, hc, n, r⟩ := x; ⟨o, k a o ho (.inl ⟨hc, _, _, r⟩), hc, n, r⟩
theorem pre_get {ρ ρ' : List Addr} (hp : ρ <+: ρ') {n : Nat} {a : Addr} (e : ρ[n]? = some a) : ρ'[n]? = some a := by
  refine el11 (hp) fun t q107_1 => ?_
  subst q107_1
  (refine Eq.trans (List.getElem?_append_left (List.getElem?_eq_some_iff.mp e).1 ..) ?_)
  exact e
theorem RepVs.mono' {ρ ρ' : List Addr} {h h' : Heap} (hp : ρ <+: ρ') (hf : ∀ a o, h.get? a = some o -> Fix o -> h'.get? a = some o) {vs : List V} {xs : List Value} (r : RepVs HH ρ h vs xs) : RepVs HH ρ' h' vs xs :=
  RepVs.rec (motive_1 := fun v x _ => RepV HH ρ' h' v x) (motive_2 := fun vs xs _ => RepVs HH ρ' h' vs xs) .none .bool .int (fun t q => .str t q) (fun q _ k => .tup (fix_tuple q hf) k) (fun q => .lst (pre_get hp q)) (fun q => .dct (pre_get hp q))
    (fun q k => .flow (pre_get hp q) (hf _ _ k (.inr (.inl rfl)))) (fun q k l => .rng (hf _ _ q (.inr (.inr ⟨rfl, _, rfl⟩))) k l) (fun q k l => .scr q k l) .nil (fun _ _ a b => .cons a b) r
theorem RepVs.ind {ρ : List Addr} {h : Heap} {M : List V -> List Value -> Prop} (hn : M [] []) (hc : ∀ {v x vs xs}, RepV HH ρ h v x -> RepVs HH ρ h vs xs -> M vs xs -> M (v :: vs) (x :: xs)) {vs : List V} {xs : List Value} (r : RepVs HH ρ h vs xs) : M vs xs :=
  RepVs.rec (motive_1 := fun _ _ _ => True) (motive_2 := fun vs xs _ => M vs xs) trivial (fun _ => trivial) (fun _ _ => trivial) (fun _ _ => trivial) (fun _ _ _ => trivial) (fun _ => trivial) (fun _ => trivial) (fun _ _ => trivial) (fun _ _ _ => trivial) (fun _ _ _ => trivial) hn (fun a r _ k => hc a r k) r
noncomputable def RsInv (HH : Heap) (ρ : List Addr) (h : Heap) (xs : List Value) : List V -> Prop
  | [] => xs = []
  | v :: vs => ∃ x ys, xs = x :: ys /\ RepV HH ρ h v x /\ RepVs HH ρ h vs ys
theorem RepVs.inv {ρ : List Addr} {h : Heap} {vs : List V} {xs : List Value} (r : RepVs HH ρ h vs xs) : RsInv HH ρ h xs vs := RepVs.ind (M := fun vs xs => RsInv HH ρ h xs vs) rfl (fun a r _ => ⟨_, _, rfl, a, r⟩) r
theorem RepVs.cinv {ρ : List Addr} {h : Heap} {v : V} {vs : List V} {xs : List Value} (r : RepVs HH ρ h (v :: vs) xs) : ∃ x ys, xs = x :: ys /\ RepV HH ρ h v x /\ RepVs HH ρ h vs ys := r.inv
theorem RepV.mono' {ρ ρ' : List Addr} {h h' : Heap} (hp : ρ <+: ρ') (hf : ∀ a o, h.get? a = some o -> Fix o -> h'.get? a = some o) {v : V} {x : Value} (r : RepV HH ρ h v x) : RepV HH ρ' h' v x := by
  refine el23 (RepVs.mono' hp hf (.cons r .nil)).cinv fun y ys q a _ => ?_
  rw [(List.cons.inj q).1]; exact a
theorem RepV.mono {own ρ ρ' : List Addr} {h h' : Heap} {v : V} {x : Value} (r : RepV HH ρ h v x) (e : Evo own ρ h ρ' h') : RepV HH ρ' h' v x := RepV.mono' e.pre e.fix r
theorem RepVs.mono {own ρ ρ' : List Addr} {h h' : Heap} {v : List V} {x : List Value} (r : RepVs HH ρ h v x) (e : Evo own ρ h ρ' h') : RepVs HH ρ' h' v x := RepVs.mono' e.pre e.fix r
theorem RepVs.length {ρ : List Addr} {h : Heap} {vs : List V} {xs : List Value} (r : RepVs HH ρ h vs xs) : vs.length = xs.length := r.ind (M := fun vs xs => vs.length = xs.length) rfl fun _ _ k => congrArg (· + 1) k
theorem RepVs.get {ρ : List Addr} {h : Heap} {vs : List V} {xs : List Value} (r : RepVs HH ρ h vs xs) {k : Nat} {v : V} (e : vs[k]? = some v) : ∃ x, xs[k]? = some x /\ RepV HH ρ h v x :=
  r.ind (M := fun vs xs => ∀ k v, vs[k]? = some v -> ∃ x, xs[k]? = some x /\ RepV HH ρ h v x) (fun _ _ e => no_so e) (fun {_ x _ _} a _ ih k => Nat.casesOn k (fun _ e => ⟨x, rfl, Option.some.inj e ▸ a⟩) fun k v e => ih k v e) k v e
theorem RepVs.append {ρ : List Addr} {h : Heap} {us : List V} {ys : List Value} (b : RepVs HH ρ h us ys) {vs : List V} {xs : List Value} (r : RepVs HH ρ h vs xs) : RepVs HH ρ h (vs ++ us) (xs ++ ys) := r.ind (M := fun vs xs => RepVs HH ρ h (vs ++ us) (xs ++ ys)) b fun a _ k => .cons a k
theorem RepVs.set {ρ : List Addr} {h : Heap} {v : V} {x : Value} (b : RepV HH ρ h v x) {vs : List V} {xs : List Value} (r : RepVs HH ρ h vs xs) (k : Nat) : RepVs HH ρ h (vs.set k v) (xs.set k x) :=
  r.ind (M := fun vs xs => ∀ k, RepVs HH ρ h (vs.set k v) (xs.set k x)) (fun _ => .nil) (fun a r ih k => Nat.casesOn k (.cons b r) fun k => .cons a (ih k)) k
theorem RepVs.take {ρ : List Addr} {h : Heap} {vs : List V} {xs : List Value} (r : RepVs HH ρ h vs xs) (k : Nat) : RepVs HH ρ h (vs.take k) (xs.take k) :=
  r.ind (M := fun vs xs => ∀ k, RepVs HH ρ h (vs.take k) (xs.take k)) (fun k => by rw [List.take_nil, List.take_nil]; exact .nil) (fun a _ ih k => Nat.casesOn k .nil fun k => .cons a (ih k)) k
theorem RepVs.dropLast {ρ : List Addr} {h : Heap} {vs : List V} {xs : List Value} (r : RepVs HH ρ h vs xs) : RepVs HH ρ h vs.dropLast xs.dropLast := by
  rw [List.dropLast_eq_take, List.dropLast_eq_take, r.length]; exact r.take _
variable (HH) in
inductive ObjRep (w : World) (ρ : List Addr) (h : Heap) (a : Addr) : AO -> Prop
  | list {vs : List V} {cvs : List Value} {n : Nat} : IsL h a cvs.toArray n -> RepVs HH ρ h vs cvs -> vs.length <= 1000000 -> ObjRep w ρ h a (.list vs)
  | dict {es : List (Int × V)} {kvs : List (Int × Value)} : h.DictOf (intKind prog w) a kvs -> es.map (·.1) = kvs.map (·.1) -> RepVs HH ρ h (es.map (·.2)) (kvs.map (·.2)) -> es.length <= 1000000 -> ObjRep w ρ h a (.dict es)
  | attrs {ds : List Nat} {es : List DictEntry} {n : Nat} : h.get? a = some (dictOf es n) ->
      (∀ (k : Nat) (x : Str) (d : Nat), attrNames[k]? = some x -> ds[k]? = some d -> ∃ b, ρ[d]? = some b /\ W.getL x es = some (some (.ref b))) -> ObjRep w ρ h a (.attrs ds)
theorem ObjRep.mono {w : World} {ρ ρ' : List Addr} {h h' : Heap} {a : Addr} {ao : AO} (x : ObjRep HH w ρ h a ao) (hp : ρ <+: ρ') (hf : ∀ a o, h.get? a = some o -> Fix o -> h'.get? a = some o)
    (e : ∀ o, h.get? a = some o -> h'.get? a = some o) : ObjRep HH w ρ' h' a ao := by
  cases x with
  | list hl r z => exact .list (e _ hl) (RepVs.mono' hp hf r) z
  | dict hd hk r z => obtain ⟨o, es, ep, ho, q⟩ := hd; exact .dict ⟨o, es, ep, e _ ho, q⟩ hk (RepVs.mono' hp hf r) z
  | attrs ho q => exact .attrs (e _ ho) fun k x d h1 h2 => let ⟨b, hb, hg⟩ := q k x d h1 h2; ⟨b, pre_get hp hb, hg⟩
theorem ObjRep.there {w : World} {ρ : List Addr} {h : Heap} {a : Addr} {ao : AO} (x : ObjRep HH w ρ h a ao) : ∃ o, h.get? a = some o /\ ¬ Fix o := by
  cases x with
  | list hl r z => exact ⟨_, hl, fun q => by rcases q with q | q | q <;> simp at q⟩
  | dict hd hk r z =>
    refine el34 (hd) fun o es ep ho hx hd _ => ?_
    exact ⟨o, ho, fun q => by rcases q with q | q | q <;> simp [hx.1, hd] at q⟩
  | attrs ho q => exact ⟨_, ho, fun q => by rcases q with q | q | q <;> simp at q⟩
variable (HH) in
structure HeapRep (w : World) (ρ : List Addr) (h : Heap) (σ : Sto) : Prop where
  len : ρ.length = σ.length
  nodup : ρ.Nodup
  out : ∀ a ∈ ρ, HH.get? a = none /\ 2 < a
  stays : HH.StaysIn h
  base : ∃ o, HH.get? cStatics = some o
  obj : ∀ (n : Nat) (a : Addr) (ao : AO), ρ[n]? = some a -> σ[n]? = some ao -> ObjRep HH w ρ h a ao
section
variable {w : World} {ρ ρ' own : List Addr} {h h' : Heap} {σ : Sto}
theorem HeapRep.addr (R : HeapRep HH w ρ h σ) {n : Nat} {ao : AO} (e : σ[n]? = some ao) : ∃ a, ρ[n]? = some a /\ ObjRep HH w ρ h a ao := by
  have hn : n < ρ.length := by rw [R.len]; exact (List.getElem?_eq_some_iff.mp e).1
  exact ⟨ρ[n], List.getElem?_eq_getElem hn, R.obj n _ ao (List.getElem?_eq_getElem hn) e⟩
theorem HeapRep.notFix (R : HeapRep HH w ρ h σ) {a : Addr} (m : a ∈ ρ) : ∃ o, h.get? a = some o /\ ¬ Fix o := by
  obtain ⟨n, hn, rfl⟩ := List.mem_iff_getElem.mp m
  have : σ[n]? = some (σ[n]'(by rw [<- R.len]; exact hn)) := List.getElem?_eq_getElem _
  exact (R.obj n _ _ (List.getElem?_eq_getElem hn) this).there
theorem HeapRep.keeps (R : HeapRep HH w ρ h σ) (hr : ∀ a ∈ ρ, ∀ o, h.get? a = some o -> h'.get? a = some o) (hf : ∀ a o, h.get? a = some o -> Fix o -> h'.get? a = some o)
    (hs : HH.StaysIn h') : HeapRep HH w ρ h' σ :=
  ⟨R.len, R.nodup, R.out, hs, R.base, fun n a ao e1 e2 => (R.obj n a ao e1 e2).mono (List.prefix_refl _) hf (hr a (List.mem_of_getElem? e1))⟩
theorem HeapRep.keepsAll (R : HeapRep HH w ρ h σ) (k : ∀ a o, h.get? a = some o -> h'.get? a = some o) : HeapRep HH w ρ h' σ :=
  R.keeps (fun a _ o e => k a o e) (fun a o e _ => k a o e) fun b o e => k b o (R.stays b o e)
theorem HeapRep.snoc (R : HeapRep HH w ρ h σ) {D : Addr} {ao : AO} (k : ∀ a o, h.get? a = some o -> h'.get? a = some o) (hD : h.get? D = none) (h2 : 2 < D) (ho : ObjRep HH w (ρ ++ [D]) h' D ao) :
    HeapRep HH w (ρ ++ [D]) h' (σ ++ [ao]) where
  len := by simp [R.len]
  nodup := by
    rw [List.nodup_append]
    refine ⟨R.nodup, by simp, fun a ha b hb => ?_⟩
    rw [List.mem_singleton.mp hb]
    intro q; subst q
    refine el12 (R.notFix ha) fun o e _ => ?_
    (replace e := Eq.trans (Eq.symm (hD ..)) (e)); (exact no_so e)
  out := fun a ha => by
    rcases List.mem_append.mp ha with q | q
    · exact R.out a q
    · rw [List.mem_singleton.mp q]
      refine ⟨?_, h2⟩
      cases e : HH.get? D with
      | none => rfl
      | some o => have := R.stays _ _ e; (replace this := Eq.trans (Eq.symm (hD ..)) (this)); cases this
  stays := fun b o e => k b o (R.stays b o e)
  base := R.base
  obj := fun n a ao' e1 e2 => by
    by_cases hn : n < ρ.length
    · (replace e1 := Eq.trans (Eq.symm (List.getElem?_append_left hn ..)) (e1))
      (replace e2 := Eq.trans (Eq.symm (List.getElem?_append_left (by rw [<- R.len]; exact hn) ..)) (e2))
      exact (R.obj n a ao' e1 e2).mono (List.prefix_append _ _) (fun a o e _ => k a o e) (fun o e => k a o e)
    · have hn' : n = ρ.length := by
        have := (List.getElem?_eq_some_iff.mp e1).1
        simp at this; (exact om126 hn this)
      subst hn'
      simp at e1
      rw [R.len] at e2
      simp at e2
      subst e1 e2
      exact ho
theorem Evo.snoc {D : Addr} (k : ∀ a o, h.get? a = some o -> h'.get? a = some o) (hD : h.get? D = none) : Evo own ρ h (ρ ++ [D]) h' :=
  ⟨List.prefix_append _ _, fun a ha => by
    rcases List.mem_append.mp ha with q | q
    · exact .inl q
    · rw [List.mem_singleton.mp q]; exact .inr hD, fun a o e => ⟨o, k a o e⟩, fun a o e _ _ => k a o e, fun a o e _ => k a o e⟩
theorem HeapRep.set (R : HeapRep HH w ρ h σ) {n : Nat} {a : Addr} {ao : AO} (ea : ρ[n]? = some a) (hs : Heap.SameBut a h h') (ho : ObjRep HH w ρ h' a ao) : HeapRep HH w ρ h' (σ.set n ao) where
  len := by simp [R.len]
  nodup := R.nodup
  out := R.out
  stays := fun b o e => by
    have q : b ≠ a := fun q => by subst q; (replace e := Eq.trans (Eq.symm ((R.out b (List.mem_of_getElem? ea)).1)) (e)); (exact no_so e)
    exact (hs.2 b q).trans (R.stays b o e)
  base := R.base
  obj := fun m b ao' e1 e2 => by
    refine el12 (R.notFix (List.mem_of_getElem? ea)) fun oa hoa hfa => ?_
    have hf : ∀ b o, h.get? b = some o -> Fix o -> h'.get? b = some o := fun b o e f => by
      have q : b ≠ a := fun q => by subst q; (replace e := Eq.trans (Eq.symm (hoa ..)) (e)); injection e with e; subst e; exact hfa f
      exact (hs.2 b q).trans e
    by_cases hm : m = n
    · subst hm
      rw [ea] at e1; injection e1 with e1; subst e1
      (replace e2 := Eq.trans (Eq.symm (List.getElem?_set_self (by rw [<- R.len]; exact (List.getElem?_eq_some_iff.mp ea).1) ..)) (e2))
      injection e2 with e2; subst e2
      exact ho
    · rw [List.getElem?_set_ne (Ne.symm hm)] at e2
      have q : b ≠ a := fun q => by
        subst q
        refine el11 (List.getElem?_eq_some_iff.mp e1) fun h1 h2 => ?_
        refine el11 (List.getElem?_eq_some_iff.mp ea) fun h3 h4 => ?_
        exact hm ((List.getElem_inj R.nodup).mp (h2.trans h4.symm))
      exact (R.obj m b ao' e1 e2).mono (List.prefix_refl _) hf fun o e => (hs.2 b q).trans e
theorem HeapRep.big (R : HeapRep HH w ρ h σ) : 2 < h.objs.size := by
  refine el11 (R.base) fun o e => ?_
  exact Heap.lt_size (R.stays _ _ e)
theorem HeapRep.notSys (R : HeapRep HH w ρ h σ) {a : Addr} (m : a ∈ ρ) : (a == sysModules) = false := by
  have h2 : (2 : Nat) < a := (R.out a m).2
  exact beq_eq_false_iff_ne.mpr fun q => by
    rw [q] at h2
    exact absurd h2 (by decide)
theorem get_size (h : Heap) : h.get? h.objs.size = none := by
  cases e : h.get? h.objs.size with
  | none => rfl
  | some o => exact absurd (Heap.lt_size e) (Nat.lt_irrefl _)
theorem HeapRep.evoSet (R : HeapRep HH w ρ h σ) {a : Addr} (m : a ∈ ρ) (hs : Heap.SameBut a h h') {o' : Obj} (ho' : h'.get? a = some o') : Evo own ρ h ρ h' := by
  refine el12 (R.notFix m) fun o ho hn => ?_
  exact Evo.sameBut hs ho hn ho' (.inr m)
end
end rep
end
end Mine
end
section
open PySem PySem.W PySem.Calls PyProof.Rows
namespace Mine
noncomputable section
noncomputable def NameVal (env : Env) (h : Heap) (x : Str) (v : Value) : Prop :=
  (env.kindOf x = some .local /\ ∃ m, h.Ns env.locals m /\ m x = some v) \/ (env.kindOf x = some .cell /\ ∃ c, env.cells.lookup x = some c /\ h.IsCell c (some v))
noncomputable def Safe (ρ : List Addr) (h : Heap) (a : Addr) : Prop := a ∉ ρ /\ ∃ o, h.get? a = some o
theorem Safe.mono {own ρ ρ' : List Addr} {h h' : Heap} {a : Addr} (x : Safe ρ h a) (e : Evo own ρ h ρ' h') : Safe ρ' h' a :=
  let ⟨n, o, ho⟩ := x; ⟨e.mem ho n, e.live a o ho⟩
section
variable (HH : Heap)
structure ECtx (A : Around) (d : Nat) (env : Env) (c : CEnv) (frames : List Env) (ρ : List Addr) (h : Heap) (ls : Ls) (cv : Option V) : Prop where
  kind : env.scope.kind = .function
  globals : env.globals = mainGlobals
  builtins : env.builtins = builtinsNs
  handled : A.handled = none
  depth : A.depth + d <= 400
  units : A.units + 20 * d <= 1000
  fr : A.frames = some frames
  ff : h.FunFrames HH frames
  fn : ∀ b ∈ frames.filterMap (·.frame), Safe ρ h b
  loc : Safe ρ h env.locals
  cel : ∀ x ca, env.cells.lookup x = some ca -> Safe ρ h ca
  glob : c.cvar = none -> c.names = env.scope.names
  cells : c.cvar = none -> ∀ y, c.names.lookup y = some .cell -> ∃ ca, env.cells.lookup y = some ca
  slot : ∀ x i v, resolve c x = .slot i -> ls[i]? = some (some v) -> ∃ y, NameVal env h x y /\ RepV HH ρ h v y
  cvar : ∀ x v, resolve c x = .cvar -> cv = some v -> ∃ y, NameVal env h x y /\ RepV HH ρ h v y
noncomputable def Stp (w : World) (own ρ : List Addr) (s : Shared) (ρ' : List Addr) (σ' : Sto) (s' : Shared) : Prop :=
  (∃ h' tk, s' = { s with heap := h', toks := tk }) /\ Evo own ρ s.heap ρ' s'.heap /\ HeapRep HH w ρ' s'.heap σ'
noncomputable def EPost (w : World) (ρ : List Addr) (s : Shared) (σ' : Sto) (v : V) (x : Value) (s' : Shared) : Prop :=
  ∃ ρ', Stp HH w [] ρ s ρ' σ' s' /\ RepV HH ρ' s'.heap v x
noncomputable def EPosts (w : World) (ρ : List Addr) (s : Shared) (σ' : Sto) (vs : List V) (xs : List Value) (s' : Shared) : Prop :=
  ∃ ρ', Stp HH w [] ρ s ρ' σ' s' /\ RepVs HH ρ' s'.heap vs xs
noncomputable def BPost (w : World) (ρ : List Addr) (s : Shared) (σ' : Sto) (b : Bool) (b' : Bool) (s' : Shared) : Prop :=
  b' = b /\ ∃ ρ', Stp HH w [] ρ s ρ' σ' s'
noncomputable def SndE (d : Nat) (w : World) (e : Expr) (c : CEnv) (f : Ls -> Option V -> Sto -> Option (V × Sto)) (pu : Bool) : Prop :=
  ∀ {A : Around} {env : Env} {frames : List Env} {ρ : List Addr} {ls : Ls} {cv : Option V} {σ : Sto} {v : V} {σ' : Sto} {s : Shared} {E : Value -> Shared -> Prop},
    f ls cv σ = some (v, σ') -> ECtx HH A d env c frames ρ s.heap ls cv -> HeapRep HH w ρ s.heap σ ->
    wpAny (model prog w) A (eval e env) (fun x s' => EPost HH w ρ s σ' v x s' /\ (pu = true -> s'.heap = s.heap)) E s
noncomputable def SndT (d : Nat) (w : World) (e : Expr) (c : CEnv) (f : Ls -> Option V -> Sto -> Option (Bool × Sto)) (pu : Bool) : Prop :=
  ∀ {A : Around} {env : Env} {frames : List Env} {ρ : List Addr} {ls : Ls} {cv : Option V} {σ : Sto} {v : Bool} {σ' : Sto} {s : Shared} {E : Value -> Shared -> Prop},
    f ls cv σ = some (v, σ') -> ECtx HH A d env c frames ρ s.heap ls cv -> HeapRep HH w ρ s.heap σ ->
    wpAny (model prog w) A (isTrue e env (eval e env)) (fun x s' => BPost HH w ρ s σ' v x s' /\ (pu = true -> s'.heap = s.heap)) E s
end
section
variable {HH : Heap} {w : World} {own ρ ρ₁ ρ₂ : List Addr} {s s₁ s₂ : Shared} {σ σ₁ σ₂ : Sto} {C : Calls} {n d : Nat}
theorem Stp.refl (R : HeapRep HH w ρ s.heap σ) : Stp HH w own ρ s ρ σ s := ⟨⟨_, _, rfl⟩, Evo.refl, R⟩
theorem Stp.trans (x : Stp HH w own ρ s ρ₁ σ₁ s₁) (y : Stp HH w own ρ₁ s₁ ρ₂ σ₂ s₂) : Stp HH w own ρ s ρ₂ σ₂ s₂ := by
  refine el03 (x) fun z59_0 e1 r1 => ?_
  obtain ⟨h1, t1, rfl⟩ := z59_0
  refine el03 (y) fun z60_0 e2 r2 => ?_
  obtain ⟨h2, t2, rfl⟩ := z60_0
  exact ⟨⟨h2, t2, rfl⟩, e1.trans e2, r2⟩
theorem Stp.wk {own' : List Addr} (x : Stp HH w own ρ s ρ₁ σ₁ s₁) (hs : ∀ a ∈ own, a ∈ own' \/ s.heap.get? a = none) : Stp HH w own' ρ s ρ₁ σ₁ s₁ := ⟨x.1, x.2.1.weaken hs, x.2.2⟩
theorem Stp.of0 (x : Stp HH w [] ρ s ρ₁ σ₁ s₁) : Stp HH w own ρ s ρ₁ σ₁ s₁ := x.wk fun _ h => nomatch h
theorem Stp.toks (R : HeapRep HH w ρ s.heap σ) (tk : Nat) : Stp HH w own ρ s ρ σ { s with toks := tk } := ⟨⟨_, _, rfl⟩, Evo.refl, R⟩
theorem Stp.keeps (R : HeapRep HH w ρ s.heap σ) {h' : Heap} (tk : Nat) (k : ∀ a o, s.heap.get? a = some o -> h'.get? a = some o) : Stp HH w own ρ s ρ σ { s with heap := h', toks := tk } :=
  ⟨⟨_, _, rfl⟩, Evo.of_keeps k, R.keepsAll k⟩
theorem cell_keep {h h' : Heap} {a : Addr} {v : Option Value} (x : h.IsCell a v) (k : ∀ o, h.get? a = some o -> h'.get? a = some o) : h'.IsCell a v :=
  let ⟨o, ho, r⟩ := x; ⟨o, k o ho, r⟩
theorem funFrames_keep {h h' : Heap} : ∀ {l : List Env}, h.FunFrames HH l -> (∀ b ∈ l.filterMap (·.frame), ∀ o, h.get? b = some o -> h'.get? b = some o) -> h'.FunFrames HH l
  | [], _, _ => trivial
  | env :: r, ⟨hk, ⟨L, o, hf, hn, ho, hd⟩, hr⟩, k => ⟨hk, ⟨L, o, hf, hn, k L (by rw [List.filterMap_cons, hf]; exact .head _) o ho, hd⟩,
      funFrames_keep hr fun b hb o e => k b (by
        rw [List.filterMap_cons]
        cases env.frame with
        | none => exact hb
        | some L' => exact .tail _ hb) o e⟩
theorem NameVal.keep {env : Env} {h h' : Heap} {x : Str} {v : Value} (n : NameVal env h x v) (kl : ∀ o, h.get? env.locals = some o -> h'.get? env.locals = some o)
    (kc : ∀ ca, env.cells.lookup x = some ca -> ∀ o, h.get? ca = some o -> h'.get? ca = some o) : NameVal env h' x v := by
  rcases n with ⟨hk, m, hn, hv⟩ | ⟨hk, c, hc, hv⟩
  · exact .inl ⟨hk, m, hn.at' kl, hv⟩
  · exact .inr ⟨hk, c, hc, cell_keep hv (kc c hc)⟩
theorem ECtx.mono {A : Around} {env : Env} {c : CEnv} {frames : List Env} {h h' : Heap} {ls : Ls} {cv : Option V} (x : ECtx HH A d env c frames ρ h ls cv) (e : Evo [] ρ h ρ₁ h') :
    ECtx HH A d env c frames ρ₁ h' ls cv := by
  have hkeep : ∀ b, b ∉ ρ -> ∀ o, h.get? b = some o -> h'.get? b = some o := fun b hb o ho => e.keep b o ho (fun q => nomatch q) hb
  have nv : ∀ y v, NameVal env h y v -> NameVal env h' y v := fun y v n => n.keep (hkeep _ x.loc.1) fun ca hc => hkeep ca (x.cel y ca hc).1
  exact ⟨x.kind, x.globals, x.builtins, x.handled, x.depth, x.units, x.fr, funFrames_keep x.ff fun b hb o ho => hkeep b (x.fn b hb).1 o ho, fun b hb => (x.fn b hb).mono e, x.loc.mono e, fun y ca hc => (x.cel y ca hc).mono e, x.glob, x.cells,
    fun y i v h1 h2 => let ⟨z, n, r⟩ := x.slot y i v h1 h2; ⟨z, nv _ _ n, r.mono e⟩, fun y v h1 h2 => let ⟨z, n, r⟩ := x.cvar y v h1 h2; ⟨z, nv _ _ n, r.mono e⟩⟩
theorem kindOf_eq (env : Env) (x : Str) : env.kindOf x = env.scope.names.lookup x := rfl
theorem snd_int {i : Int} {k : Nat} {pos : Pos} {c : CEnv} {pu : Bool} : SndE HH d w (.Constant (.int i) k pos) c (ev C (n + 1) (.int i)) pu := by
  intro A env frames ρ ls cv σ v σ' s E hf x R
  simp only [Eqn.ev_int] at hf
  (refine some2 hf fun w105_0 w105_1 => ?_; clear hf; subst w105_0; subst w105_1)
  exact wpAny_Constant_int ⟨⟨ρ, Stp.toks R _, .int _ _⟩, fun _ => rfl⟩
theorem snd_none {k : Nat} {pos : Pos} {c : CEnv} {pu : Bool} : SndE HH d w (.Constant .none k pos) c (ev C (n + 1) .none) pu := by
  intro A env frames ρ ls cv σ v σ' s E hf x R
  simp only [Eqn.ev_none] at hf
  (refine some2 hf fun w110_0 w110_1 => ?_; clear hf; subst w110_0; subst w110_1)
  exact wpAny_Constant_none ⟨⟨ρ, Stp.toks R _, .none⟩, fun _ => rfl⟩
theorem snd_bool {b : Bool} {k : Nat} {pos : Pos} {c : CEnv} {pu : Bool} : SndE HH d w (.Constant (.bool b) k pos) c (ev C (n + 1) (.bool b)) pu := by
  intro A env frames ρ ls cv σ v σ' s E hf x R
  simp only [Eqn.ev_bool] at hf
  (refine some2 hf fun w115_0 w115_1 => ?_; clear hf; subst w115_0; subst w115_1)
  exact wpAny_Constant_bool ⟨⟨ρ, Stp.toks R _, .bool b⟩, fun _ => rfl⟩
theorem snd_str {x : Str} {i : Nat} {k : Nat} {pos : Pos} {c : CEnv} {pu : Bool} (hi : words[i]? = some x) : SndE HH d w (.Constant (.str x) k pos) c (ev C (n + 1) (.str i)) pu := by
  intro A env frames ρ ls cv σ v σ' s E hf x R
  simp only [Eqn.ev_str] at hf
  (refine some2 hf fun w120_0 w120_1 => ?_; clear hf; subst w120_0; subst w120_1)
  exact wpAny_Constant_str ⟨⟨ρ, Stp.toks R _, .str _ hi⟩, fun _ => rfl⟩
theorem name_load {M : Model} {A : Around} {env : Env} {x : Str} {pos : Pos} {v : Value} {E : Value -> Shared -> Prop} {Q : Value -> Shared -> Prop} (hk : env.scope.kind = .function) (n : NameVal env s.heap x v) (hd : (x == ("__debug__" : Str)) = false) (h : Q v s) :
    wpAny M A (eval (.Name x pos) env) Q E s := by
  refine wpAny_Name ?_ hd
  rcases n with ⟨hx, m, hn, hv⟩ | ⟨hx, c, hc, hv⟩
  · exact wpAny_loadName_local hk hx hn hv h
  · exact wpAny_loadName_cell hk hx hc hv h
theorem snd_var {x : Str} {i : Nat} {pos : Pos} {c : CEnv} {pu : Bool} (hr : resolve c x = .slot i) (hd : (x == ("__debug__" : Str)) = false) :
    SndE HH d w (.Name x pos) c (ev C (n + 1) (.var i)) pu := by
  intro A env frames ρ ls cv σ v σ' s E hf X R
  simp only [Eqn.ev_var] at hf
  split at hf
  · rename_i u hu
    (refine some2 hf fun w136_0 w136_1 => ?_; clear hf; subst w136_0; subst w136_1)
    refine el12 (X.slot x i _ hr hu) fun y n r => ?_
    exact name_load X.kind n hd ⟨⟨ρ, Stp.toks R _, r⟩, fun _ => rfl⟩
  · (exact no_so hf)
theorem snd_cv {x : Str} {pos : Pos} {c : CEnv} {pu : Bool} (hr : resolve c x = .cvar) (hd : (x == ("__debug__" : Str)) = false) :
    SndE HH d w (.Name x pos) c (ev C (n + 1) .cv) pu := by
  intro A env frames ρ ls cv σ v σ' s E hf X R
  simp only [Eqn.ev_cv] at hf
  split at hf
  · rename_i u
    (refine some2 hf fun w146_0 w146_1 => ?_; clear hf; subst w146_0; subst w146_1)
    refine el12 (X.cvar x _ hr rfl) fun y n r => ?_
    exact name_load X.kind n hd ⟨⟨ρ, Stp.toks R _, r⟩, fun _ => rfl⟩
  · (exact no_so hf)
theorem SndE.then {e : Expr} {c : CEnv} {f : Ls -> Option V -> Sto -> Option (V × Sto)} {pu : Bool} (hE : SndE HH d w e c f pu) {A : Around} {env : Env} {frames : List Env} {ls : Ls} {cv : Option V} {v : V}
    {E : Value -> Shared -> Prop} {Q : Value -> Shared -> Prop} (hf : f ls cv σ = some (v, σ₁)) (X : ECtx HH A d env c frames ρ s.heap ls cv) (R : HeapRep HH w ρ s.heap σ)
    (k : ∀ x s₁ ρ₁, Stp HH w [] ρ s ρ₁ σ₁ s₁ -> RepV HH ρ₁ s₁.heap v x -> ECtx HH A d env c frames ρ₁ s₁.heap ls cv -> HeapRep HH w ρ₁ s₁.heap σ₁ -> (pu = true -> s₁.heap = s.heap) -> Q x s₁) :
    wpAny (model prog w) A (eval e env) Q E s :=
  wpAny_mono (hE hf X R) (fun x s₁ ⟨⟨ρ₁, st, r⟩, hp⟩ => k x s₁ ρ₁ st r (X.mono st.2.1) st.2.2 hp) fun _ _ h => h
theorem SndT.then {e : Expr} {c : CEnv} {f : Ls -> Option V -> Sto -> Option (Bool × Sto)} {pu : Bool} (hE : SndT HH d w e c f pu) {A : Around} {env : Env} {frames : List Env} {ls : Ls} {cv : Option V} {v : Bool}
    {E : Value -> Shared -> Prop} {Q : Bool -> Shared -> Prop} (hf : f ls cv σ = some (v, σ₁)) (X : ECtx HH A d env c frames ρ s.heap ls cv) (R : HeapRep HH w ρ s.heap σ)
    (k : ∀ s₁ ρ₁, Stp HH w [] ρ s ρ₁ σ₁ s₁ -> ECtx HH A d env c frames ρ₁ s₁.heap ls cv -> HeapRep HH w ρ₁ s₁.heap σ₁ -> (pu = true -> s₁.heap = s.heap) -> Q v s₁) :
    wpAny (model prog w) A (isTrue e env (eval e env)) Q E s :=
  wpAny_mono (hE hf X R) (fun x s₁ ⟨⟨hv, ρ₁, st⟩, hp⟩ => by subst hv; exact k s₁ ρ₁ st (X.mono st.2.1) st.2.2 hp) fun _ _ h => h
end
end
end Mine
end
section
open PySem PySem.W PySem.Calls PyProof.Rows
namespace Mine
noncomputable section
section
variable {HH : Heap} {w : World} {A : Around} {E : Value -> Shared -> Prop} {ρ : List Addr} {s : Shared} {σ : Sto} {h : Heap}
theorem words_nodup : words.Nodup := by decide +kernel
theorem words_eq {i j : Nat} {x y : Str} (hi : words[i]? = some x) (hj : words[j]? = some y) : (x == y) = decide (i = j) := by
  refine el11 (List.getElem?_eq_some_iff.mp hi) fun h1 h2 => ?_
  refine el11 (List.getElem?_eq_some_iff.mp hj) fun h3 h4 => ?_
  by_cases e : i = j
  · subst e; rw [hi] at hj; (replace hj := Option.some.inj hj; subst hj); simp
  · (refine Eq.trans (?_) (Eq.symm (decide_eq_false e ..)))
    exact beq_eq_false_iff_ne.mpr fun q => e ((List.getElem_inj words_nodup).mp (h2.trans (q.trans h4.symm)))
theorem HeapRep.list (R : HeapRep HH w ρ h σ) {n : Nat} {vs : List V} (e : Mine.getL σ n = some vs) : ∃ a cvs k, ρ[n]? = some a /\ IsL h a cvs.toArray k /\ RepVs HH ρ h vs cvs /\ vs.length <= 1000000 := by
  unfold Mine.getL at e
  refine cpf fun rq => ?_
  split at e
  · rename_i us hu
    (replace e := Option.some.inj e; subst e)
    refine el12 (R.addr hu) fun a ha ho => ?_
    cases ho with
    | list hl r z => refine rq ?_; exact ⟨a, _, _, ha, hl, r, z⟩
  · (exact no_so e)
theorem HeapRep.dict (R : HeapRep HH w ρ h σ) {n : Nat} {es : List (Int × V)} (e : Mine.getD σ n = some es) :
    ∃ a kvs, ρ[n]? = some a /\ h.DictOf (intKind prog w) a kvs /\ es.map (·.1) = kvs.map (·.1) /\ RepVs HH ρ h (es.map (·.2)) (kvs.map (·.2)) /\ es.length <= 1000000 := by
  unfold Mine.getD at e
  refine cpf fun rq => ?_
  split at e
  · rename_i us hu
    (replace e := Option.some.inj e; subst e)
    refine el12 (R.addr hu) fun a ha ho => ?_
    cases ho with
    | dict hd hk r z => refine rq ?_; exact ⟨a, _, ha, hd, hk, r, z⟩
  · (exact no_so e)
theorem ints_rep {vs : List V} {cvs : List Value} {ns : List Int} (r : RepVs HH ρ h vs cvs) (e : intsOf vs = some ns) : IntsAre cvs ns :=
  r.ind (M := fun vs cvs => ∀ ns, intsOf vs = some ns -> IntsAre cvs ns) (fun _ e => Option.some.inj e ▸ .nil) (fun {v x vs xs} a r ih ns e => by
    induction v using V.casesOn with
    | int i =>
      refine el12 (map_inv e) fun ns' e' q => ?_
      subst q
      refine el11 (rep_int a) fun t q => ?_
      subst q
      exact .cons _ _ (ih _ e')
    | _ => exact no_so e) ns e
theorem pair_cons {k k' : Int} {v : V} {x : Value} {es : List (Int × V)} {kvs : List (Int × Value)} (hk : ((k, v) :: es).map (·.1) = ((k', x) :: kvs).map (·.1)) : k = k' /\ es.map (·.1) = kvs.map (·.1) := List.cons.inj hk
theorem reps_cons {v : V} {x : Value} {vs : List V} {xs : List Value} (h' : RepVs HH ρ h (v :: vs) (x :: xs)) : RepV HH ρ h v x /\ RepVs HH ρ h vs xs := by
  refine el23 h'.cinv fun y ys q a r => ?_
  rw [(List.cons.inj q).1, (List.cons.inj q).2]
  exact ⟨a, r⟩
theorem pairs_ind {P : List (Int × V) -> List (Int × Value) -> Prop} (h0 : P [] []) (h1 : ∀ k v x es kvs, es.map (·.1) = kvs.map (·.1) -> RepV HH ρ h v x -> RepVs HH ρ h (es.map (·.2)) (kvs.map (·.2)) -> P es kvs -> P ((k, v) :: es) ((k, x) :: kvs)) :
    ∀ {es : List (Int × V)} {kvs : List (Int × Value)}, es.map (·.1) = kvs.map (·.1) -> RepVs HH ρ h (es.map (·.2)) (kvs.map (·.2)) -> P es kvs := by
  intro es
  induction es with
  | nil =>
    intro kvs hk _
    induction kvs using List.casesOn with
    | nil => exact h0
    | cons => cases hk
  | cons p es ih =>
    intro kvs hk hr
    induction kvs using List.casesOn with
    | nil => cases hk
    | cons q kvs =>
      obtain ⟨k, v⟩ := p
      obtain ⟨k', x⟩ := q
      refine el02 (pair_cons hk) fun q65_0 hk2 => ?_
      subst q65_0
      refine el02 (reps_cons hr) fun a r => ?_
      exact h1 k v x es kvs hk2 a r (ih hk2 r)
theorem look_rep {es : List (Int × V)} {kvs : List (Int × Value)} (hk : es.map (·.1) = kvs.map (·.1)) (hr : RepVs HH ρ h (es.map (·.2)) (kvs.map (·.2))) (k : Int) :
    (match lookI es k with | some v => ∃ x, valueAt kvs k = some x /\ RepV HH ρ h v x | none => valueAt kvs k = none) := by
  refine pairs_ind (P := fun es kvs => match lookI es k with | some v => ∃ x, valueAt kvs k = some x /\ RepV HH ρ h v x | none => valueAt kvs k = none) rfl (fun k' v x es kvs hk a r ih => ?_) hk hr
  simp only [Eqn.lookI_2, valueAt, List.find?_cons]
  by_cases q : k' = k
  · simp only [q, if_true, decide_true]; exact ⟨x, rfl, a⟩
  · simp only [q, if_false, decide_false]; exact ih
theorem look_some {es : List (Int × V)} {kvs : List (Int × Value)} (hk : es.map (·.1) = kvs.map (·.1)) (hr : RepVs HH ρ h (es.map (·.2)) (kvs.map (·.2))) {k : Int} {v : V} (e : lookI es k = some v) :
    ∃ x, valueAt kvs k = some x /\ RepV HH ρ h v x := by have := look_rep hk hr k; rw [e] at this; exact this
theorem look_none {es : List (Int × V)} {kvs : List (Int × Value)} (hk : es.map (·.1) = kvs.map (·.1)) (hr : RepVs HH ρ h (es.map (·.2)) (kvs.map (·.2))) {k : Int} (e : lookI es k = none) :
    valueAt kvs k = none := by have := look_rep hk hr k; rw [e] at this; exact this
theorem look_isSome {es : List (Int × V)} {kvs : List (Int × Value)} (hk : es.map (·.1) = kvs.map (·.1)) (hr : RepVs HH ρ h (es.map (·.2)) (kvs.map (·.2))) (k : Int) :
    (valueAt kvs k).isSome = (lookI es k).isSome := by
  cases e : lookI es k with
  | none => rw [look_none hk hr e]; rfl
  | some v => obtain ⟨x, q, _⟩ := look_some hk hr e; rw [q]; rfl
theorem put_rep {v : V} {x : Value} (hv : RepV HH ρ h v x) (k : Int) {es : List (Int × V)} {kvs : List (Int × Value)} (hk : es.map (·.1) = kvs.map (·.1)) (hn : (kvs.map (·.1)).Nodup) (hr : RepVs HH ρ h (es.map (·.2)) (kvs.map (·.2))) :
    (putI es k v).map (·.1) = (stored kvs k x).map (·.1) /\ RepVs HH ρ h ((putI es k v).map (·.2)) ((stored kvs k x).map (·.2)) := by
  refine pairs_ind (P := fun es kvs => (kvs.map (·.1)).Nodup -> (putI es k v).map (·.1) = (stored kvs k x).map (·.1) /\ RepVs HH ρ h ((putI es k v).map (·.2)) ((stored kvs k x).map (·.2))) (fun _ => ⟨rfl, .cons hv .nil⟩) (fun k' u y es kvs hk a r ih hn => ?_) hk hr hn
  refine cpf fun rq => ?_
  refine el02 (List.nodup_cons.mp hn) fun n1 n2 => ?_
  by_cases q : k' = k
  · subst q
    have e : stored ((k', y) :: kvs) k' x = (k', x) :: kvs := by
      simp only [stored, List.any_cons, decide_true, Bool.true_or, if_true, List.map_cons, List.cons.injEq, true_and]
      exact map_store_of_not_mem kvs k' x n1
    refine rq ?_
    rw [e, putI, if_pos rfl]
    exact ⟨congrArg (k' :: ·) hk, .cons hv r⟩
  · refine el02 (ih n2) fun i1 i2 => ?_
    have e : stored ((k', y) :: kvs) k x = (k', y) :: stored kvs k x := by
      simp only [stored, List.any_cons, q, decide_false, Bool.false_or, List.map_cons, if_false]
      split <;> rfl
    refine rq ?_
    rw [e, putI, if_neg q]
    exact ⟨congrArg (k' :: ·) i1, .cons a i2⟩
theorem eqS_at {a b : V} {x y : Value} {r : Bool} (e : eqS a b = some r) (ha : RepV HH ρ h a x) (hb : RepV HH ρ h b y) (A : Around) (s : Shared) : SeqAt.EqAt A s x y r := by
  rcases eqS_inv e with ⟨i, j, rfl, rfl, rfl⟩ | ⟨i, j, rfl, rfl, rfl⟩ | ⟨i, j, rfl, rfl, rfl⟩ | ⟨i, j, rfl, rfl, rfl⟩
  · refine el11 (rep_int ha) fun _ q105_1 => ?_
    subst q105_1
    refine el11 (rep_int hb) fun _ q106_1 => ?_
    subst q106_1
    exact SeqAt.EqAt.int_int _ _ _ _
  · refine el22 (rep_str ha) fun _ _ q108_2 hi => ?_
    subst q108_2
    refine el22 (rep_str hb) fun _ _ q109_2 hj => ?_
    subst q109_2
    rw [<- words_eq hi hj]
    exact SeqAt.EqAt.str_str _ _ _ _
  · refine el11 (rep_int ha) fun _ q112_1 => ?_
    subst q112_1
    refine el22 (rep_str hb) fun _ _ q113_2 hj => ?_
    subst q113_2
    exact SeqAt.EqAt.int_str _ _ _ _
  · refine el22 (rep_str ha) fun _ _ q115_2 hi => ?_
    subst q115_2
    refine el11 (rep_int hb) fun _ q116_1 => ?_
    subst q116_1
    exact SeqAt.EqAt.str_int _ _ _ _
theorem eqLI_rep (R : HeapRep HH w ρ h σ) {n m : Nat} {r : Bool} (e : eqLI σ n m = some r) {a b : Addr} (ha : ρ[n]? = some a) (hb : ρ[m]? = some b) :
    ∃ vs us ns ms, h.IsList a vs.toArray /\ IntsAre vs ns /\ h.IsList b us.toArray /\ IntsAre us ms /\ r = decide (ns = ms) := by
  unfold eqLI at e
  refine cpf fun rq => ?_
  cases e1 : Mine.getL σ n with
  | none => refine rq ?_; simp [e1] at e
  | some vs =>
    cases e2 : intsOf vs with
    | none => refine rq ?_; simp [e1, e2] at e
    | some ns =>
      cases e3 : Mine.getL σ m with
      | none => refine rq ?_; simp [e1, e3] at e
      | some us =>
        cases e4 : intsOf us with
        | none => refine rq ?_; simp [e1, e3, e4] at e
        | some ms =>
          simp [e1, e2, e3, e4] at e
          refine el34 (R.list e1) fun a' cvs k ha' hl hr _ => ?_
          refine el34 (R.list e3) fun b' cus k' hb' hl' hr' _ => ?_
          rw [ha] at ha'; cases ha'
          (replace hb' := Eq.trans (Eq.symm (hb ..)) (hb')); cases hb'
          refine rq ?_
          exact ⟨_, _, ns, ms, ⟨_, hl, rfl, _, rfl⟩, ints_rep hr e2, ⟨_, hl', rfl, _, rfl⟩, ints_rep hr' e4, e.symm⟩
theorem eqD_at (R : HeapRep HH w ρ s.heap σ) {a b : V} {x y : Value} {r : Bool} (e : eqD σ a b = some r) (ha : RepV HH ρ s.heap a x) (hb : RepV HH ρ s.heap b y) {A : Around} (hu : A.in1.units + 64 < cLine) :
    SeqAt.EqAt A.in1 s x y r := by
  rcases eqD_inv e with ⟨i, j, rfl, rfl, rfl⟩ | ⟨n, m, rfl, rfl, e⟩
  · refine el11 (rep_int ha) fun _ q146_1 => ?_
    subst q146_1
    refine el11 (rep_int hb) fun _ q147_1 => ?_
    subst q147_1
    exact SeqAt.EqAt.int_int _ _ _ _
  · refine el12 (rep_lst ha) fun _ q149_1 h1 => ?_
    subst q149_1
    refine el12 (rep_lst hb) fun _ q150_1 h2 => ?_
    subst q150_1
    refine el45 (eqLI_rep R e h1 h2) fun vs us ns ms l1 i1 l2 i2 q151_8 => ?_
    subst q151_8
    exact keq_ints l1 i1 l2 i2 hu
theorem hits_rep (R : HeapRep HH w ρ s.heap σ) {A : Around} (hu : A.in1.units + 64 < cLine) {eb : List (Int × V)} {kb : List (Int × Value)} (hk : eb.map (·.1) = kb.map (·.1)) (hr : RepVs HH ρ s.heap (eb.map (·.2)) (kb.map (·.2)))
    {ea : List (Int × V)} {ka : List (Int × Value)} {r : Bool} (e : eqDicts.go σ eb ea = some r) (h1 : ea.map (·.1) = ka.map (·.1)) (h2 : RepVs HH ρ s.heap (ea.map (·.2)) (ka.map (·.2))) : KeqHits A.in1 s kb ka r := by
  refine pairs_ind (P := fun ea ka => ∀ r, eqDicts.go σ eb ea = some r -> KeqHits A.in1 s kb ka r) (fun r e => by cases (show some true = some r from e); exact .nil) (fun k' v x ea ka _ a q ih r e => ?_) h1 h2 r e
  have e : (match lookI eb k' with
      | none => some false
      | some w => match eqD σ v w, eqDicts.go σ eb ea with
        | some e, some q => some (e && q)
        | _, _ => none) = some r := e
  cases e1 : lookI eb k' with
  | none => rw [e1] at e; cases (show some false = some r from e); exact .miss (look_none hk hr e1)
  | some w' =>
    rw [e1] at e
    have e : (match eqD σ v w', eqDicts.go σ eb ea with | some e, some q => some (e && q) | _, _ => none) = some r := e
    cases e2 : eqD σ v w' with
    | none => rw [e2] at e; exact no_some e
    | some b1 =>
      rw [e2] at e
      cases e3 : eqDicts.go σ eb ea with
      | none => rw [e3] at e; exact no_some e
      | some b2 =>
        rw [e3] at e
        cases (show some (b1 && b2) = some r from e)
        refine el12 (look_some hk hr e1) fun y hy ry => ?_
        exact .hit hy (eqD_at R e2 a ry hu) (ih b2 e3)
noncomputable def ceq (x y : Value) : Bool := match y, x with
  | .int a _, .int b _ => a == b
  | .str a _, .str b _ => a == b
  | _, _ => false
theorem ceq_rep {a b : V} {x y : Value} {r : Bool} (e : eqS b a = some r) (ha : RepV HH ρ h a x) (hb : RepV HH ρ h b y) : ceq x y = r := by
  rcases eqS_inv e with ⟨i, j, rfl, rfl, rfl⟩ | ⟨i, j, rfl, rfl, rfl⟩ | ⟨i, j, rfl, rfl, rfl⟩ | ⟨i, j, rfl, rfl, rfl⟩
  · refine el11 (rep_int ha) fun _ q185_1 => ?_
    subst q185_1
    refine el11 (rep_int hb) fun _ q186_1 => ?_
    subst q186_1
    rfl
  · refine el22 (rep_str ha) fun _ _ q188_2 hi => ?_
    subst q188_2
    refine el22 (rep_str hb) fun _ _ q189_2 hj => ?_
    subst q189_2
    exact words_eq hj hi
  · refine el22 (rep_str ha) fun _ _ q191_2 hi => ?_
    subst q191_2
    refine el11 (rep_int hb) fun _ q192_1 => ?_
    subst q192_1
    rfl
  · refine el11 (rep_int ha) fun _ q194_1 => ?_
    subst q194_1
    refine el22 (rep_str hb) fun _ _ q195_2 hj => ?_
    subst q195_2
    rfl
theorem inTup_at {a : V} {x : Value} (ha : RepV HH ρ h a x) (A : Around) (s : Shared) {vs : List V} {xs : List Value} {r : Bool} (e : inTup a vs = some r) (hr : RepVs HH ρ h vs xs) :
    (∀ y ∈ xs, SeqAt.EqAt A s y x (ceq x y)) /\ xs.any (ceq x) = r := by
  induction vs generalizing xs r with
  | nil =>
    cases hr
    cases (show some false = some r from e)
    exact ⟨fun _ m => (nomatch m), rfl⟩
  | cons b vs ih =>
    cases hr with
    | cons hb q =>
      have e : (match eqS b a, inTup a vs with | some e, some q => some (e || q) | _, _ => none) = some r := e
      cases h1 : eqS b a with
      | none => rw [h1] at e; exact no_some e
      | some e1 =>
        rw [h1] at e
        cases h2 : inTup a vs with
        | none => rw [h2] at e; exact no_some e
        | some q1 =>
          rw [h2] at e
          cases (show some (e1 || q1) = some r from e)
          refine el02 (ih h2 q) fun i1 i2 => ?_
          have hc := ceq_rep h1 ha hb
          refine ⟨fun z m => ?_, by rw [List.any_cons, hc, i2]⟩
          rcases List.mem_cons.mp m with rfl | m
          · rw [hc]; exact eqS_at h1 hb ha A s
          · exact i1 z m
theorem in_cases (R : HeapRep HH w ρ s.heap σ) {a b : V} {x y : Value} {r : Bool} (e : inV σ a b = some r) (ha : RepV HH ρ s.heap a x) (hb : RepV HH ρ s.heap b y) :
    (∃ c vs, y = .ref c /\ s.heap.IsTuple c (vs : List Value).toArray /\ (∃ us, RepVs HH ρ s.heap us vs /\ inTup a us = some r)) \/
      ∃ k t d kvs, x = .int k t /\ y = .ref d /\ s.heap.DictOf (intKind prog w) d kvs /\ (d == sysModules) = false /\ (valueAt kvs k).isSome = r := by
  refine cpf fun rq => ?_
  rcases inV_inv e with ⟨vs, rfl, e⟩ | ⟨k, n, es, rfl, rfl, e1, e⟩
  · refine el23 (rep_tup hb) fun _ _ q227_2 ht hr => ?_
    subst q227_2
    refine rq ?_
    exact .inl ⟨_, _, rfl, ht, _, hr, e⟩
  · refine el11 (rep_int ha) fun t q229_1 => ?_
    subst q229_1
    refine el12 (rep_dct hb) fun _ q230_1 hn => ?_
    subst q230_1
    refine el25 (R.dict e1) fun d kvs hd hm hk hr _ => ?_
    (replace hd := Eq.trans (Eq.symm (hn ..)) (hd)); (replace hd := Option.some.inj hd; subst hd)
    refine rq ?_
    exact .inr ⟨k, t, _, kvs, rfl, rfl, hm, R.notSys (List.mem_of_getElem? hn), by (refine Eq.trans (look_isSome hk hr ..) ?_); exact e⟩
theorem dicts_rep (R : HeapRep HH w ρ s.heap σ) {n m : Nat} {es fs : List (Int × V)} {r : Bool} (e1 : Mine.getD σ n = some es) (e2 : Mine.getD σ m = some fs) (e : eqDicts σ es fs = some r) {a b : Addr} (ha : ρ[n]? = some a) (hb : ρ[m]? = some b) {A : Around} (hu : A.in1.units + 64 < cLine) :
    ∃ ka kb r', s.heap.DictOf (intKind prog w) a ka /\ s.heap.DictOf (intKind prog w) b kb /\ (a == sysModules) = false /\ (b == sysModules) = false /\ (ka.length = kb.length -> KeqHits A.in1 s kb ka r') /\ (ka.length == kb.length && r') = r := by
  refine cpf fun rq => ?_
  refine el25 (R.dict e1) fun a' ka ha' d1 k1 r1 _ => ?_
  refine el25 (R.dict e2) fun b' kb hb' d2 k2 r2 _ => ?_
  rw [ha] at ha'; (replace ha' := Option.some.inj ha'; subst ha')
  rw [hb] at hb'; (replace hb' := Option.some.inj hb'; subst hb')
  have l1 : es.length = ka.length := by simpa using congrArg List.length k1
  have l2 : fs.length = kb.length := by simpa using congrArg List.length k2
  unfold eqDicts at e
  by_cases q : es.length = fs.length
  · rw [if_neg (fun z => z q)] at e
    refine rq ?_
    exact ⟨ka, kb, r, d1, d2, R.notSys (List.mem_of_getElem? ha), R.notSys (List.mem_of_getElem? hb), fun _ => hits_rep R hu k2 r2 e k1 r1, by rw [beq_iff_eq.mpr (l1.symm.trans (q.trans l2))]; rfl⟩
  · rw [if_pos q] at e
    (replace e := Option.some.inj e; subst e)
    refine rq ?_
    exact ⟨ka, kb, false, d1, d2, R.notSys (List.mem_of_getElem? ha), R.notSys (List.mem_of_getElem? hb), fun x => absurd (l1.trans (x.trans l2.symm)) q, Bool.and_false _⟩
theorem eq_at {a b : V} {x y : Value} {r : Bool} {Q : Value -> Shared -> Prop} (R : HeapRep HH w ρ s.heap σ) (e : eqV σ a b = some r) (ha : RepV HH ρ s.heap a x) (hb : RepV HH ρ s.heap b y)
    (hu : A.units <= 1000) (h : Q (.bool r) s) : wpAny (model prog w) A (compareOp .Eq x y) Q E s := by
  have hc : cLine = 9900 := rfl
  refine cpf fun rq => ?_
  rcases eqV_inv e with ⟨n, m, rfl, rfl, e⟩ | ⟨n, m, es, fs, rfl, rfl, e1, e2, e⟩ | e
  · refine el12 (rep_lst ha) fun _ q255_1 h1 => ?_
    subst q255_1
    refine el12 (rep_lst hb) fun _ q256_1 h2 => ?_
    subst q256_1
    refine el45 (eqLI_rep R e h1 h2) fun vs us ns ms l1 i1 l2 i2 q257_8 => ?_
    subst q257_8
    refine rq ?_
    exact eq_intsK l1 i1 l2 i2 (by (exact om153 hc hu)) h
  · refine el12 (rep_dct ha) fun _ q259_1 h1 => ?_
    subst q259_1
    refine el12 (rep_dct hb) fun _ q260_1 h2 => ?_
    subst q260_1
    refine el36 (dicts_rep R e1 e2 e h1 h2 (A := A) (by show A.units + 1 + 64 < cLine; (exact om154 hc hu))) fun ka kb r' d1 d2 s1 s2 hh q261_8 => ?_
    subst q261_8
    refine rq ?_
    exact keq_eq s1 s2 d1 d2 (by (exact om155 hc hu)) hh h
  · rcases eqS_inv e with ⟨i, j, rfl, rfl, rfl⟩ | ⟨i, j, rfl, rfl, rfl⟩ | ⟨i, j, rfl, rfl, rfl⟩ | ⟨i, j, rfl, rfl, rfl⟩
    · refine el11 (rep_int ha) fun _ q264_1 => ?_
      subst q264_1
      refine el11 (rep_int hb) fun _ q265_1 => ?_
      subst q265_1
      refine rq ?_
      exact eq_int h
    · refine el22 (rep_str ha) fun _ _ q267_2 hi => ?_
      subst q267_2
      refine el22 (rep_str hb) fun _ _ q268_2 hj => ?_
      subst q268_2
      refine rq ?_
      exact eq_str (by rw [words_eq hi hj]; exact h)
    · refine el11 (rep_int ha) fun _ q270_1 => ?_
      subst q270_1
      refine el22 (rep_str hb) fun _ _ q271_2 hj => ?_
      subst q271_2
      refine rq ?_
      exact EqMixed.eq_int_str h
    · refine el22 (rep_str ha) fun _ _ q273_2 hi => ?_
      subst q273_2
      refine el11 (rep_int hb) fun _ q274_1 => ?_
      subst q274_1
      refine rq ?_
      exact EqMixed.eq_str_int h
theorem ne_at {a b : V} {x y : Value} {r : Bool} {Q : Value -> Shared -> Prop} (R : HeapRep HH w ρ s.heap σ) (e : eqV σ a b = some r) (ha : RepV HH ρ s.heap a x) (hb : RepV HH ρ s.heap b y)
    (hu : A.units <= 1000) (h : Q (.bool !r) s) : wpAny (model prog w) A (compareOp .NotEq x y) Q E s := by
  have hc : cLine = 9900 := rfl
  refine cpf fun rq => ?_
  rcases eqV_inv e with ⟨n, m, rfl, rfl, e⟩ | ⟨n, m, es, fs, rfl, rfl, e1, e2, e⟩ | e
  · refine el12 (rep_lst ha) fun _ q280_1 h1 => ?_
    subst q280_1
    refine el12 (rep_lst hb) fun _ q281_1 h2 => ?_
    subst q281_1
    refine el45 (eqLI_rep R e h1 h2) fun vs us ns ms l1 i1 l2 i2 q282_8 => ?_
    subst q282_8
    refine rq ?_
    exact ne_intsK l1 i1 l2 i2 (by (exact om153 hc hu)) h
  · refine el12 (rep_dct ha) fun _ q284_1 h1 => ?_
    subst q284_1
    refine el12 (rep_dct hb) fun _ q285_1 h2 => ?_
    subst q285_1
    refine el36 (dicts_rep R e1 e2 e h1 h2 (A := A) (by show A.units + 1 + 64 < cLine; (exact om154 hc hu))) fun ka kb r' d1 d2 s1 s2 hh q286_8 => ?_
    subst q286_8
    refine rq ?_
    exact keq_ne s1 s2 d1 d2 (by (exact om155 hc hu)) hh h
  · rcases eqS_inv e with ⟨i, j, rfl, rfl, rfl⟩ | ⟨i, j, rfl, rfl, rfl⟩ | ⟨i, j, rfl, rfl, rfl⟩ | ⟨i, j, rfl, rfl, rfl⟩
    · refine el11 (rep_int ha) fun _ q289_1 => ?_
      subst q289_1
      refine el11 (rep_int hb) fun _ q290_1 => ?_
      subst q290_1
      refine rq ?_
      exact ne_int h
    · refine el22 (rep_str ha) fun _ _ q292_2 hi => ?_
      subst q292_2
      refine el22 (rep_str hb) fun _ _ q293_2 hj => ?_
      subst q293_2
      refine rq ?_
      exact ne_str (by show Q (.bool !(_ == _)) s; rw [words_eq hi hj]; exact h)
    · refine el11 (rep_int ha) fun _ q295_1 => ?_
      subst q295_1
      refine el22 (rep_str hb) fun _ _ q296_2 hj => ?_
      subst q296_2
      refine rq ?_
      exact EqMixed.ne_int_str h
    · refine el22 (rep_str ha) fun _ _ q298_2 hi => ?_
      subst q298_2
      refine el11 (rep_int hb) fun _ q299_1 => ?_
      subst q299_1
      refine rq ?_
      exact EqMixed.ne_str_int h
theorem cmp_at {op : Co} {a b : V} {x y : Value} {r : Bool} {Q : Value -> Shared -> Prop} (R : HeapRep HH w ρ s.heap σ) (e : cmpV op a b σ = some r) (ha : RepV HH ρ s.heap a x) (hb : RepV HH ρ s.heap b y)
    (hu : A.units <= 1000) (hn : op = .isNone \/ op = .isNot -> b = .none) (h : ∀ tk, Q (.bool r) { s with toks := tk }) : wpAny (model prog w) A (compareOp (cop op) x y) Q E s := by
  have hc : cLine = 9900 := rfl
  have h0 : Q (.bool r) s := h s.toks
  induction op using Co.casesOn with
  | eq => exact eq_at R e ha hb hu h0
  | ne =>
    refine el12 (map_inv e) fun b' e' q310_2 => ?_
    subst q310_2
    exact ne_at R e' ha hb hu h0
  | lt =>
    refine el23 (ltV_inv e) fun i j q313_2 q313_3 q313_4 => ?_
    subst q313_2
    subst q313_3
    subst q313_4
    refine el11 (rep_int ha) fun _ q314_1 => ?_
    subst q314_1
    refine el11 (rep_int hb) fun _ q315_1 => ?_
    subst q315_1
    exact lt_int h0
  | isNone =>
    obtain rfl := hn (.inl rfl)
    obtain rfl := rep_none hb
    obtain rfl := Option.some.inj e
    refine is_none ?_
    cases ha <;> exact h0
  | isNot =>
    obtain rfl := hn (.inr rfl)
    obtain rfl := rep_none hb
    obtain rfl := Option.some.inj e
    refine isNot_none ?_
    cases ha <;> exact h0
  | isin =>
    rcases in_cases R e ha hb with ⟨c, vs, rfl, ht, us, hr, ei⟩ | ⟨k, t, d, kvs, rfl, rfl, hd, hm, rfl⟩
    · refine el02 (inTup_at ha A.in1 s ei hr) fun i1 i2 => ?_
      refine SeqAt.in_tupleAt (ceq x) ht (fun y hy => i1 y (List.mem_toArray.mp hy)) ?_
      rw [List.any_toArray, i2]; exact h0
    · exact wpAny_in_of (intKind_is prog w k t) hm hd.mapOf (h _)
  | notin =>
    refine el12 (map_inv e) fun b' e' q336_2 => ?_
    subst q336_2
    rcases in_cases R e' ha hb with ⟨c, vs, rfl, ht, us, hr, ei⟩ | ⟨k, t, d, kvs, rfl, rfl, hd, hm, rfl⟩
    · refine el02 (inTup_at ha A.in1 s ei hr) fun i1 i2 => ?_
      refine SeqAt.notIn_tupleAt (ceq x) ht (fun y hy => i1 y (List.mem_toArray.mp hy)) ?_
      rw [List.any_toArray, i2]; exact h0
    · exact wpAny_notIn_of (intKind_is prog w k t) hm hd.mapOf (h _)
end
end
end Mine
end
section
set_option tactic.hygienic false
open PySem PySem.W PySem.Calls PyProof.Rows
namespace Mine
section
variable {HH : Heap} {w : World} {A : Around} {E : Value -> Shared -> Prop} {ρ own : List Addr} {s : Shared} {σ σ' : Sto} {h : Heap}
theorem push_keeps (h : Heap) (o : Obj) : ∀ a x, h.get? a = some x -> (h.push o).get? a = some x := fun _ _ e => Heap.get?_push_of_some _ e
theorem new_list (R : HeapRep HH w ρ s.heap σ) {vs : List V} {cvs : List Value} (r : RepVs HH ρ s.heap vs cvs) (hz : vs.length <= 1000000) (tk : Nat) :
    Stp HH w own ρ s (ρ ++ [s.heap.objs.size]) (σ ++ [.list vs]) { s with heap := s.heap.push { cls := .type "list", data := .seq cvs.toArray }, toks := tk } /\
      RepV HH (ρ ++ [s.heap.objs.size]) (s.heap.push { cls := .type "list", data := .seq cvs.toArray }) (.lst σ.length) (.ref s.heap.objs.size) := by
  have k := push_keeps s.heap { cls := .type "list", data := .seq cvs.toArray }
  refine ⟨⟨⟨_, _, rfl⟩, Evo.snoc k (get_size _), R.snoc k (get_size _) R.big (.list (n := 0) (Heap.get?_push_size _ rfl) (RepVs.mono' (List.prefix_append _ _) (fun a o e _ => k a o e) r) hz)⟩, .lst ?_⟩
  rw [<- R.len]; simp
theorem new_dict (R : HeapRep HH w ρ s.heap σ) (tk : Nat) :
    Stp HH w own ρ s (ρ ++ [s.heap.objs.size]) (σ ++ [.dict []]) { s with heap := s.heap.push { cls := .type "dict", data := .dict #[] }, toks := tk } /\
      RepV HH (ρ ++ [s.heap.objs.size]) (s.heap.push { cls := .type "dict", data := .dict #[] }) (.dct σ.length) (.ref s.heap.objs.size) := by
  have k := push_keeps s.heap { cls := .type "dict", data := .dict #[] }
  refine ⟨⟨⟨_, _, rfl⟩, Evo.snoc k (get_size _), R.snoc k (get_size _) R.big (.dict (kvs := []) (Heap.DictOf.new _) rfl .nil (Nat.zero_le _))⟩, .dct ?_⟩
  rw [<- R.len]; simp
theorem new_tuple (R : HeapRep HH w ρ s.heap σ) {vs : List V} {cvs : List Value} (r : RepVs HH ρ s.heap vs cvs) (tk : Nat) :
    Stp HH w own ρ s ρ σ { s with heap := s.heap.push { cls := .type "tuple", data := .seq cvs.toArray }, toks := tk } /\
      RepV HH ρ (s.heap.push { cls := .type "tuple", data := .seq cvs.toArray }) (.tup vs) (.ref s.heap.objs.size) := by
  have k := push_keeps s.heap { cls := .type "tuple", data := .seq cvs.toArray }
  exact ⟨Stp.keeps R tk k, .tup ⟨_, Heap.get?_push_size _ rfl, rfl, 0, rfl⟩ (RepVs.mono' (List.prefix_refl _) (fun a o e _ => k a o e) r)⟩
theorem small_of {i : Int} (h : small i = true) : -1099511627776 < i /\ i < 1099511627776 := of_decide_eq_true h
theorem tiny_of {i : Int} (h : tiny i = true) : -1000000 < i /\ i < 1000000 := of_decide_eq_true h
theorem arith_at {op : Bo} {i j k : Int} {t u : Tok} (R : HeapRep HH w ρ s.heap σ) (e : arith op i j = some k) :
    wpAny (model prog w) A (binaryOp (pyop op) (.int i t) (.int j u)) (fun z s' => EPost HH w ρ s σ (.int k) z s') E s := by
  have post : EPost HH w ρ s σ (.int k) (.int k s.toks) { s with toks := s.toks + 1 } := ⟨ρ, Stp.toks R _, .int _ _⟩
  induction op using Bo.casesOn with
  | add =>
    refine el02 (ite_inv (show (if (small i && small j) = true then some (i + j) else none) = some k from e)) fun _ e => ?_
    (replace e := Option.some.inj e; subst e)
    exact add_int post
  | sub =>
    refine el02 (ite_inv (show (if (small i && small j) = true then some (i - j) else none) = some k from e)) fun _ e => ?_
    (replace e := Option.some.inj e; subst e)
    exact sub_int post
  | mul =>
    refine el02 (ite_inv (show (if (tiny i && tiny j) = true then some (i * j) else none) = some k from e)) fun q e => ?_
    (replace e := Option.some.inj e; subst e)
    refine el02 (Bool.and_eq_true_iff.mp q) fun h1 h2 => ?_
    have b1 := tiny_of h1
    have b2 := tiny_of h2
    exact mul_int post (by mul_fits)
  | fdiv =>
    refine el02 (ite_inv (show (if (small i && decide (0 < j) && small j) = true then some (i.fdiv j) else none) = some k from e)) fun q e => ?_
    (replace e := Option.some.inj e; subst e)
    refine el02 (Bool.and_eq_true_iff.mp q) fun h12 h3 => ?_
    refine el02 (Bool.and_eq_true_iff.mp h12) fun h1 h2 => ?_
    have b2 := of_decide_eq_true h2
    have b3 := small_of h3
    refine floordiv_int (by (exact om156 b2)) post (.inl (PyProof.noPylong_of_log2 ?_))
    have : ∀ n : Nat, n ≠ 0 -> n < 2 ^ 41 -> n.log2 < 9000 := fun n h0 h1 => Nat.lt_trans ((Nat.log2_lt h0).mpr h1) (by decide)
    exact this _ (by omega) (by omega)
  | mod =>
    refine el02 (ite_inv (show (if (decide (0 < j) && small j) = true then some (i.fmod j) else none) = some k from e)) fun q e => ?_
    (replace e := Option.some.inj e; subst e)
    refine el02 (Bool.and_eq_true_iff.mp q) fun h2 h3 => ?_
    have b2 := of_decide_eq_true h2
    exact mod_int' (by (exact om156 b2)) post
theorem bin_at {op : Bo} {a b v : V} {x y : Value} (R : HeapRep HH w ρ s.heap σ) (e : binV op a b σ = some (v, σ')) (ha : RepV HH ρ s.heap a x) (hb : RepV HH ρ s.heap b y) :
    wpAny (model prog w) A (binaryOp (pyop op) x y) (fun z s' => EPost HH w ρ s σ' v z s') E s := by
  refine cpf fun rq => ?_
  rcases binV_inv e with ⟨i, j, k, rfl, rfl, e', rfl, rfl⟩ | ⟨n, m, vs, us, rfl, rfl, rfl, e1, e2, hl, rfl, rfl⟩
  · refine el11 (rep_int ha) fun t q72_1 => ?_
    subst q72_1
    refine el11 (rep_int hb) fun u q73_1 => ?_
    subst q73_1
    refine rq ?_
    exact arith_at R e'
  · refine el12 (rep_lst ha) fun _ q75_1 hn => ?_
    subst q75_1
    refine el12 (rep_lst hb) fun _ q76_1 hm => ?_
    subst q76_1
    refine el34 (R.list e1) fun a cvs k ha l1 r1 _ => ?_
    refine el34 (R.list e2) fun b cus k' hb l2 r2 _ => ?_
    rw [hn] at ha; (replace ha := Option.some.inj ha; subst ha)
    (replace hb := Eq.trans (Eq.symm (hm ..)) (hb)); (replace hb := Option.some.inj hb; subst hb)
    refine el02 (new_list (own := []) R (RepVs.append r2 r1) (by rw [List.length_append]; exact Nat.le_of_lt (Nat.lt_of_lt_of_le hl (by decide))) s.toks) fun st r => ?_
    refine rq ?_
    refine PySem.P.add_list l1 l2 ?_ ?_
    · rw [List.append_toArray]; exact ⟨_, st, r⟩
    · have : LIM = 4096 := rfl
      rw [List.size_toArray, List.size_toArray, <- r1.length, <- r2.length, sizeLine_eq]
      (exact om159 hl this)
theorem idx_at {o i v : V} {x y : Value} {value slice : Expr} (R : HeapRep HH w ρ s.heap σ) (e : idxV o i σ = some v) (ha : RepV HH ρ s.heap o x) (hb : RepV HH ρ s.heap i y)
    (hs : ∀ l u st p, slice ≠ .Slice l u st p) {Q : Value -> Shared -> Prop} (h : ∀ z tk, RepV HH ρ s.heap v z -> Q z { s with toks := tk }) :
    wpAny (model prog w) A (subscriptTail value slice x y) Q E s := by
  have sub : ∀ x y, subscripted slice false x y = operate [x, y] (getItem x y) := fun x y => by
    unfold subscripted
    induction slice using Expr.casesOn <;> first | rfl | exact absurd rfl (hs _ _ _ _)
  refine cpf fun rq => ?_
  rcases idxV_inv e with ⟨k, n, vs, rfl, rfl, e1, e'⟩ | ⟨k, vs, rfl, rfl, hk, e'⟩ | ⟨k, n, es, rfl, rfl, e1, e'⟩
  · refine el11 (rep_int hb) fun t q96_1 => ?_
    subst q96_1
    refine el12 (rep_lst ha) fun _ q97_1 hn => ?_
    subst q97_1
    refine el34 (R.list e1) fun a cvs n ha hl hr _ => ?_
    (replace ha := Eq.trans (Eq.symm (hn ..)) (ha)); (replace ha := Option.some.inj ha; subst ha)
    have il : s.heap.IsList _ cvs.toArray := ⟨_, hl, rfl, n, rfl⟩
    have e2 : (if 0 <= k /\ k < 1000000 then vs[k.toNat]? else if k = -1 then vs.getLast? else none) = some v := e'
    clear e e'
    by_cases hk : 0 <= k /\ k < 1000000
    · (replace e2 := Eq.trans (Eq.symm (if_pos hk ..)) (e2))
      refine el12 (hr.get e2) fun z hz rz => ?_
      refine rq ?_
      exact tail_any il.typeIs slot_list_getitem.lookup (wpAny_getItem_list il hk.1 (by omega) (by (refine Eq.trans (List.getElem?_toArray ..) ?_); exact hz) (h z s.toks rz)) (sub _ _)
    · (replace e2 := Eq.trans (Eq.symm (if_neg hk ..)) (e2))
      by_cases hk1 : k = -1
      · (replace e2 := Eq.trans (Eq.symm (if_pos hk1 ..)) (e2))
        subst hk1
        (replace e2 := Eq.trans (Eq.symm (List.getLast?_eq_getElem? ..)) (e2))
        refine el12 (hr.get e2) fun z hz rz => ?_
        have hlen := hr.length
        have hlt := (List.getElem?_eq_some_iff.mp e2).1
        refine rq ?_
        refine tail_any il.typeIs slot_list_getitem.lookup (wpAny_getItem_list_neg (x := z) il (by decide) ?_ (by decide) ?_ (h z s.toks rz)) (sub _ _)
        · rw [List.size_toArray]; (exact om161 hlt hlen)
        · rw [List.size_toArray, List.getElem?_toArray]
          have : ((-1 : Int) + (cvs.length : Int)).toNat = vs.length - 1 := by (exact om162 hlen)
          rw [this]; exact hz
      · (replace e2 := Eq.trans (Eq.symm (if_neg hk1 ..)) (e2)); exact no_some e2
  · refine el11 (rep_int hb) fun t q121_1 => ?_
    subst q121_1
    refine el23 (rep_tup ha) fun _ _ q122_2 ht hr => ?_
    subst q122_2
    refine el12 (hr.get e') fun z hz rz => ?_
    have hlt := (List.getElem?_eq_some_iff.mp hz).1
    refine rq ?_
    exact item_tupleT ht (by omega) (by omega) (seqIndex_of hk.1 (by (exact om164 hlt))) hz (h z s.toks rz) (sub _ _)
  · refine el11 (rep_int hb) fun t q126_1 => ?_
    subst q126_1
    refine el12 (rep_dct ha) fun _ q127_1 hn => ?_
    subst q127_1
    refine el25 (R.dict e1) fun a kvs ha hd hk hr _ => ?_
    (replace ha := Eq.trans (Eq.symm (hn ..)) (ha)); (replace ha := Option.some.inj ha; subst ha)
    refine el12 (look_some hk hr e') fun z hz rz => ?_
    refine rq ?_
    exact tail_any hd.typeIs slot_dict_getitem.lookup (wpAny_getItem_of (intKind_is prog w k t) hd.mapOf hz (h z _ rz)) (sub _ _)
end
end Mine
end
section
open PySem PySem.W PySem.Calls PyProof.Rows
namespace Mine
noncomputable section
inductive All2 {α β : Type} (P : α -> β -> Prop) : List α -> List β -> Prop
  | nil : All2 P [] []
  | cons {a : α} {b : β} {l : List α} {m : List β} : P a b -> All2 P l m -> All2 P (a :: l) (b :: m)
theorem allM_all2 {α β : Type} {f : α -> Option β} : ∀ {l : List α} {m : List β}, allM f l = some m -> All2 (fun a b => f a = some b) l m
  | [], m, e => by simp only [Eqn.allM_1, Option.some.injEq] at e; subst e; exact .nil
  | a :: l, m, e => by
    simp only [Eqn.allM_2] at e
    refine cpf fun rq => ?_
    split at e
    · rename_i y hy
      split at e
      · rename_i ys hys
        (replace e := Option.some.inj e; subst e)
        refine rq ?_
        exact .cons hy (allM_all2 hys)
      · (exact no_so e)
    · (exact no_so e)
theorem All2.mono {α β : Type} {P Q : α -> β -> Prop} (hPQ : ∀ a b, P a b -> Q a b) {l : List α} {m : List β} (r : All2 P l m) : All2 Q l m := by
  induction r with
  | nil => exact .nil
  | cons p _ k => exact .cons (hPQ _ _ p) k
theorem All2.rnil {α β : Type} {P : α -> β -> Prop} {l : List α} (r : All2 P l []) : l = [] := by
  have : ∀ m, All2 P l m -> m = [] -> l = [] := fun m r => by
    induction r using All2.casesOn with
    | nil => exact fun _ => rfl
    | cons => exact fun q => cons_no q
  exact this _ r rfl
theorem All2.rcons {α β : Type} {P : α -> β -> Prop} {l : List α} {b : β} {m : List β} (r : All2 P l (b :: m)) : ∃ a k, l = a :: k /\ P a b /\ All2 P k m := by
  have : ∀ n, All2 P l n -> n = b :: m -> ∃ a k, l = a :: k /\ P a b /\ All2 P k m := fun n r => by
    induction r using All2.casesOn with
    | nil => exact fun q => nil_no q
    | cons p k => exact fun q => ⟨_, _, rfl, (List.cons.inj q).1 ▸ p, (List.cons.inj q).2 ▸ k⟩
  exact this _ r rfl
theorem cmp_plain {m : Nat} {c : CEnv} {e : Expr} {ce : CE} (h : cmpE m c e = some ce) : Plain e := by
  induction m using Nat.casesOn with
  | zero => exact no_some h
  | succ m => exact (cview_all (cmp_view h)).1
section
variable {HH : Heap} {w : World} {A : Around} {E : Value -> Shared -> Prop} {ρ own : List Addr} {s : Shared} {σ σ' : Sto} {h : Heap} {C : Calls} {n d : Nat} {c : CEnv} {env : Env} {frames : List Env} {ls : Ls} {cv : Option V}
theorem snd_weak {e : Expr} {f : Ls -> Option V -> Sto -> Option (V × Sto)} {pu : Bool} (x : SndE HH d w e c f pu) : SndE HH d w e c f false := by
  intro A env frames ρ ls cv σ v σ' s E hf X R
  exact wpAny_mono (x hf X R) (fun _ _ h => ⟨h.1, fun q => nomatch q⟩) fun _ _ h => h
variable (HH w) in
noncomputable abbrev E2 (d : Nat) (c : CEnv) (C : Calls) (n : Nat) (e : Expr) (ce : CE) : Prop := Plain e /\ SndE HH d w e c (ev C n ce) false
variable (HH w) in
noncomputable abbrev T2 (d : Nat) (c : CEnv) (C : Calls) (n : Nat) (e : Expr) (ce : CE) : Prop := SndT HH d w e c (tst C n ce) false
theorem evs_cons {f : CE -> Sto -> Option (V × Sto)} {ce : CE} {ces : List CE} {σ σ' : Sto} {vs : List V} (h : evs f (ce :: ces) σ = some (vs, σ')) : ∃ v σ₁ us, f ce σ = some (v, σ₁) /\ evs f ces σ₁ = some (us, σ') /\ vs = v :: us := by
  have h : (match f ce σ with
    | some (v, σ) => (match evs f ces σ with | some (vs, σ) => some (v :: vs, σ) | none => none)
    | none => none) = some (vs, σ') := h
  cases h1 : f ce σ with
  | none => rw [h1] at h; exact no_some h
  | some y =>
    obtain ⟨v, σ₁⟩ := y
    rw [h1] at h
    have h : (match evs f ces σ₁ with | some (vs, σ) => some (v :: vs, σ) | none => none) = some (vs, σ') := h
    cases h2 : evs f ces σ₁ with
    | none => rw [h2] at h; exact no_some h
    | some z =>
      obtain ⟨us, σ₂⟩ := z
      rw [h2] at h
      cases h
      exact ⟨v, σ₁, us, rfl, h2, rfl⟩
theorem items_at {pos : Pos} : ∀ {es : List Expr} {ces : List CE}, All2 (E2 HH w d c C n) es ces -> ∀ {ρ : List Addr} {σ σ' : Sto} {s : Shared} {vs : List V} {E : Value -> Shared -> Prop},
    evs (fun e σ => ev C n e ls cv σ) ces σ = some (vs, σ') -> ECtx HH A d env c frames ρ s.heap ls cv -> HeapRep HH w ρ s.heap σ ->
    wpAny (model prog w) A (spliced (backTo pos (starEach es env))) (EPosts HH w ρ s σ' vs) E s := by
  intro es ces hes
  induction hes with
  | nil =>
    intro ρ σ σ' s vs E hf X R
    cases (show some ([], σ) = some (vs, σ') from hf)
    exact wpAny_items_nil ⟨ρ, Stp.refl R, .nil⟩
  | @cons e ce es ces p r ih =>
    intro ρ σ σ' s vs E hf X R
    refine el33 (evs_cons hf) fun v σ₁ us h1 h2 q73_5 => ?_
    subst q73_5
    refine wpAny_items_cons ?_ (p.1.star _ _)
    refine SndE.then p.2 h1 X R fun x s₁ ρ₁ st rx X₁ R₁ _ => ?_
    exact wpAny_mono (ih h2 X₁ R₁) (fun xs s₂ ⟨ρ₂, st₂, rs⟩ => ⟨ρ₂, st.trans st₂, .cons (rx.mono st₂.2.1) rs⟩) fun _ _ q => q
theorem evs_small {f : CE -> Sto -> Option (V × Sto)} {ces : List CE} {σ σ' : Sto} {vs : List V} (hf : evs f ces σ = some (vs, σ')) : vs.length = ces.length := by
  induction ces generalizing σ vs with
  | nil => cases (show some ([], σ) = some (vs, σ') from hf); rfl
  | cons ce ces ih =>
    refine el33 (evs_cons hf) fun v σ₁ us h1 h2 q82_5 => ?_
    subst q82_5
    exact congrArg Nat.succ (ih h2)
theorem snd_tup {es : List Expr} {ces : List CE} {k : Nat} {pos : Pos} (hes : All2 (E2 HH w d c C n) es ces) (hl : ces.length <= 1000) : SndE HH d w (.Tuple es k pos) c (ev C (n + 1) (.tup ces)) false := by
  intro A env frames ρ ls cv σ v σ' s E hf X R
  simp only [Eqn.ev_tup] at hf
  refine cpf fun rq => ?_
  split at hf
  · rename_i vs σ₁ h1
    (refine some2 hf fun w92_0 w92_1 => ?_; clear hf; subst w92_0; subst w92_1)
    refine rq ?_
    refine wpAny_Tuple (wpAny_mono (items_at hes h1 X R) (fun xs s₁ ⟨ρ₁, st, rs⟩ => ⟨?_, ?_⟩) fun _ _ q => q)
    · rw [<- rs.length, evs_small h1, sizeLine_eq]; (exact om165 hl)
    · refine el02 (new_tuple (own := []) st.2.2 rs s₁.toks) fun st' r => ?_
      exact ⟨⟨ρ₁, st.trans st', r⟩, fun q => nomatch q⟩
  · (exact no_so hf)
theorem snd_lst {es : List Expr} {ces : List CE} {pos : Pos} (hes : All2 (E2 HH w d c C n) es ces) (hl : ces.length <= 1000) : SndE HH d w (.List es pos) c (ev C (n + 1) (.lst ces)) false := by
  intro A env frames ρ ls cv σ v σ' s E hf X R
  simp only [Eqn.ev_lst] at hf
  split at hf
  · rename_i vs σ₁ h1
    (refine some2 hf fun w104_0 w104_1 => ?_; clear hf; subst w104_0; subst w104_1)
    refine wpAny_List (wpAny_mono (items_at hes h1 X R) (fun xs s₁ ⟨ρ₁, st, rs⟩ => ⟨?_, ?_⟩) fun _ _ q => q)
    · rw [<- rs.length, evs_small h1, sizeLine_eq]; (exact om165 hl)
    · refine el02 (new_list (own := []) st.2.2 rs (by rw [evs_small h1]; (exact om166 hl)) s₁.toks) fun st' r => ?_
      exact ⟨⟨_, st.trans st', r⟩, fun q => nomatch q⟩
  · (exact no_so hf)
theorem snd_dict0 {pos : Pos} : SndE HH d w (.Dict [] [] pos) c (ev C (n + 1) .dict0) false := by
  intro A env frames ρ ls cv σ v σ' s E hf X R
  simp only [Eqn.ev_dict0] at hf
  (refine some2 hf fun w114_0 w114_1 => ?_; clear hf; subst w114_0; subst w114_1)
  refine el02 (new_dict (own := []) R s.toks) fun st' r => ?_
  exact wpAny_Dict_empty ⟨⟨_, st', r⟩, fun q => nomatch q⟩
theorem snd_bin {a b : Expr} {ca cb : CE} {op : Bo} {o : Operator} {pos : Pos} {pa pb : Bool} (ho : o = pyop op) (ha : SndE HH d w a c (ev C n ca) pa) (hb : SndE HH d w b c (ev C n cb) pb) :
    SndE HH d w (.BinOp a o b pos) c (ev C (n + 1) (.bin op ca cb)) false := by
  intro A env frames ρ ls cv σ v σ' s E hf X R
  refine cpf fun rq => ?_
  subst ho
  simp only [Eqn.ev_bin] at hf
  split at hf
  · rename_i va σ₁ h1
    split at hf
    · rename_i vb σ₂ h2
      refine rq ?_
      refine wpAny_BinOp (ha.then h1 X R fun x s₁ ρ₁ st rx X₁ R₁ _ => hb.then h2 X₁ R₁ fun y s₂ ρ₂ st₂ ry X₂ R₂ _ => ?_)
      exact wpAny_mono (bin_at R₂ hf (rx.mono st₂.2.1) ry) (fun z s₃ ⟨ρ₃, st₃, rz⟩ => ⟨⟨ρ₃, (st.trans st₂).trans st₃, rz⟩, fun q => nomatch q⟩) fun _ _ q => q
    · (exact no_so hf)
  · (exact no_so hf)
theorem snd_cmp {a b : Expr} {ca cb : CE} {op : Co} {o : CmpOp} {pos : Pos} {pa pb : Bool} (ho : o = cop op) (hp : Plain b) (hn : op = .isNone \/ op = .isNot -> cb = .none) (ha : SndE HH d w a c (ev C n ca) pa) (hb : SndE HH d w b c (ev C n cb) pb) :
    SndE HH d w (.Compare a [o] [b] pos) c (ev C (n + 1) (.cmp op ca cb)) false := by
  intro A env frames ρ ls cv σ v σ' s E hf X R
  refine cpf fun rq => ?_
  subst ho
  simp only [Eqn.ev_cmp] at hf
  split at hf
  · rename_i va σ₁ h1
    split at hf
    · rename_i vb σ₂ h2
      simp only [Option.map_eq_some_iff] at hf
      refine el12 (hf) fun r hc hf => ?_
      (refine el02 (Prod.mk.inj hf) fun w143_0 w143_1 => ?_; clear hf; subst w143_0; subst w143_1)
      refine rq ?_
      refine wpAny_Compare1 (ha.then h1 X R fun x s₁ ρ₁ st rx X₁ R₁ _ => hb.then h2 X₁ R₁ fun y s₂ ρ₂ st₂ ry X₂ R₂ _ => ?_) (hp.mark _)
      refine cmp_at R₂ hc (rx.mono st₂.2.1) ry (Nat.le_trans (Nat.le_add_right _ _) X.units) (fun q => ?_) fun tk => ⟨⟨ρ₂, (st.trans st₂).trans (Stp.toks R₂ tk), .bool _⟩, fun q => nomatch q⟩
      rw [hn q] at h2
      induction n using Nat.casesOn with
      | zero => simp [Eqn.ev_zero] at h2
      | succ n => simp only [Eqn.ev_none, Option.some.injEq, Prod.mk.injEq] at h2; exact h2.1.symm
    · (exact no_so hf)
  · (exact no_so hf)
theorem snd_idx {a b : Expr} {ca cb : CE} {pos : Pos} {pa pb : Bool} (hs : ∀ l u st p, b ≠ .Slice l u st p) (ha : SndE HH d w a c (ev C n ca) pa) (hb : SndE HH d w b c (ev C n cb) pb) :
    SndE HH d w (.Subscript a b pos) c (ev C (n + 1) (.idx ca cb)) (pa && pb) := by
  intro A env frames ρ ls cv σ v σ' s E hf X R
  simp only [Eqn.ev_idx] at hf
  refine cpf fun rq => ?_
  split at hf
  · rename_i va σ₁ h1
    split at hf
    · rename_i vb σ₂ h2
      simp only [Option.map_eq_some_iff] at hf
      refine el12 (hf) fun r hc hf => ?_
      (refine el02 (Prod.mk.inj hf) fun w163_0 w163_1 => ?_; clear hf; subst w163_0; subst w163_1)
      refine rq ?_
      refine Subscript_ (ha.then h1 X R fun x s₁ ρ₁ st rx X₁ R₁ p1 => hb.then h2 X₁ R₁ fun y s₂ ρ₂ st₂ ry X₂ R₂ p2 => ?_)
      refine idx_at R₂ hc (rx.mono st₂.2.1) ry hs fun z tk rz => ⟨⟨ρ₂, (st.trans st₂).trans (Stp.toks R₂ tk), rz⟩, fun q => ?_⟩
      refine el02 (Bool.and_eq_true_iff.mp q) fun q1 q2 => ?_
      exact (p2 q2).trans (p1 q1)
    · (exact no_so hf)
  · (exact no_so hf)
end
end
end Mine
end
section
open PySem PySem.W PySem.Calls PyProof.Rows
namespace Mine
section
variable {HH : Heap} {w : World} {A : Around} {E : Value -> Shared -> Prop} {ρ own : List Addr} {s : Shared} {σ σ' : Sto} {h : Heap} {C : Calls} {n d : Nat} {c : CEnv} {env : Env} {frames : List Env} {ls : Ls} {cv : Option V}
theorem truth_at {v : V} {x : Value} {b : Bool} {Q : Bool -> Shared -> Prop} (R : HeapRep HH w ρ s.heap σ) (e : truth v σ = some b) (ha : RepV HH ρ s.heap v x) (h : ∀ tk, Q b { s with toks := tk }) :
    wpAny (model prog w) A (truthy x) Q E s := by
  induction ha using RepV.casesOn with
  | bool b => simp only [Eqn.truth_1, Option.some.injEq] at e; subst e; exact wpAny_truthy_bool (h s.toks)
  | int i t => simp only [Eqn.truth_2, Option.some.injEq] at e; subst e; exact truthy_int (by rw [show (i != 0) = decide (i ≠ 0) from by by_cases q : i = 0 <;> simp [q]]; exact h s.toks)
  | lst hn =>
    simp only [Eqn.truth_3, Option.map_eq_some_iff] at e
    obtain ⟨vs, e1, rfl⟩ := e
    obtain ⟨a, cvs, k, ha, hl, hr, hz⟩ := R.list e1
    (replace ha := Eq.trans (Eq.symm (hn ..)) (ha)); (replace ha := Option.some.inj ha; subst ha)
    have hlen := hr.length
    refine wpAny_truthy_list ⟨_, hl, rfl, k, rfl⟩ (by rw [List.size_toArray]; omega) ?_
    have e2 : (!cvs.toArray.isEmpty) = !vs.isEmpty := by induction vs using List.casesOn <;> induction cvs using List.casesOn <;> simp at hlen ⊢
    rw [e2]
    exact h _
  | _ => exact no_so e
theorem snd_not {e : Expr} {ce : CE} {pos : Pos} {pu : Bool} (he : SndE HH d w e c (ev C n ce) pu) : SndE HH d w (.UnaryOp .Not e pos) c (ev C (n + 1) (.not ce)) false := by
  intro A env frames ρ ls cv σ v σ' s E hf X R
  simp only [Eqn.ev_not] at hf
  refine cpf fun rq => ?_
  split at hf
  · rename_i v₁ σ₁ h1
    simp only [Option.map_eq_some_iff] at hf
    obtain ⟨b, hb, hf⟩ := hf
    (refine el02 (Prod.mk.inj hf) fun w30_0 w30_1 => ?_; clear hf; subst w30_0; subst w30_1)
    refine rq ?_
    refine wpAny_UnaryOp (he.then h1 X R fun x s₁ ρ₁ st rx X₁ R₁ _ => ?_)
    exact not_value (truth_at R₁ hb rx fun tk => ⟨⟨ρ₁, st.trans (Stp.toks R₁ tk), .bool _⟩, fun q => nomatch q⟩)
  · (exact no_so hf)
theorem snd_ite {t a b : Expr} {ct ca cb : CE} {pos : Pos} {pa pb pt : Bool} (ht : SndT HH d w t c (tst C n ct) pt) (ha : SndE HH d w a c (ev C n ca) pa) (hb : SndE HH d w b c (ev C n cb) pb) :
    SndE HH d w (.IfExp t a b pos) c (ev C (n + 1) (.ite ct ca cb)) false := by
  intro A env frames ρ ls cv σ v σ' s E hf X R
  simp only [Eqn.ev_ite] at hf
  split at hf
  · rename_i σ₁ h1
    refine wpAny_IfExp (ht.then h1 X R fun s₁ ρ₁ st X₁ R₁ _ => ?_)
    rw [if_pos rfl]
    exact ha.then hf X₁ R₁ fun x s₂ ρ₂ st₂ rx X₂ R₂ _ => ⟨⟨ρ₂, st.trans st₂, rx⟩, fun q => nomatch q⟩
  · rename_i σ₁ h1
    refine wpAny_IfExp (ht.then h1 X R fun s₁ ρ₁ st X₁ R₁ _ => ?_)
    rw [if_neg (by decide)]
    exact hb.then hf X₁ R₁ fun x s₂ ρ₂ st₂ rx X₂ R₂ _ => ⟨⟨ρ₂, st.trans st₂, rx⟩, fun q => nomatch q⟩
  · (exact no_so hf)
theorem boolAnd_cons {e : Expr} {es : List Expr} (hne : es ≠ []) (pos : Pos) (env : Env) : boolOp pos .And (evalEach (e :: es) env) = (do
      let v <- eval e env
      standAt pos
      let t <- holding [v] (truthy v)
      match BoolOp.And, t with
      | .And, false | .Or, true => pure v
      | _, _ => boolOp pos .And (evalEach es env)) := by
  induction es using List.casesOn with
  | nil => exact absurd rfl hne
  | cons a r => rfl
theorem andV_cons {f : CE -> Sto -> Option (V × Sto)} {e : CE} {es : List CE} (hne : es ≠ []) (σ : Sto) : andV f (e :: es) σ = match f e σ with
    | some (.bool true, σ) => andV f es σ
    | some (.bool false, σ) => some (.bool false, σ)
    | _ => none := by
  induction es using List.casesOn with
  | nil => exact absurd rfl hne
  | cons a r => rfl
theorem andV_at {pos : Pos} {es : List Expr} {ces : List CE} (hes : All2 (E2 HH w d c C n) es ces) : ∀ {ρ : List Addr} {σ σ' : Sto} {s : Shared} {v : V} {E : Value -> Shared -> Prop},
    andV (fun e σ => ev C n e ls cv σ) ces σ = some (v, σ') -> ECtx HH A d env c frames ρ s.heap ls cv -> HeapRep HH w ρ s.heap σ ->
    wpAny (model prog w) A (boolOp pos .And (evalEach es env)) (EPost HH w ρ s σ' v) E s := by
  induction hes with
  | nil => intro ρ σ σ' s v E hf X R; exact no_so hf
  | @cons e ce es ces p r ih =>
    intro ρ σ σ' s v E hf X R
    by_cases hne : es = []
    · subst hne
      cases r
      simp only [Eqn.andV_2] at hf
      show wpAny _ _ (eval e env) _ _ _
      exact SndE.then p.2 hf X R fun x s₁ ρ₁ st rx X₁ R₁ _ => ⟨ρ₁, st, rx⟩
    · have hne' : ces ≠ [] := by rintro rfl; cases r; exact hne rfl
      (replace hf := Eq.trans (Eq.symm (andV_cons hne' ..)) (hf))
      rw [boolAnd_cons hne]
      split at hf
      · rename_i σ₁ h1
        refine wpAny_bind (SndE.then p.2 h1 X R fun x s₁ ρ₁ st rx X₁ R₁ _ => ?_)
        have qrx := rep_bool rx
        subst qrx
        refine wpAny_bind (wpAny_standAt (wpAny_bind (wpAny_holding (wpAny_truthy_bool ?_))))
        exact wpAny_mono (ih hf X₁ R₁) (fun y s₂ ⟨ρ₂, st₂, ry⟩ => ⟨ρ₂, st.trans st₂, ry⟩) fun _ _ q => q
      · rename_i σ₁ h1
        (refine some2 hf fun w90_0 w90_1 => ?_; clear hf; subst w90_0; subst w90_1)
        refine wpAny_bind (SndE.then p.2 h1 X R fun x s₁ ρ₁ st rx X₁ R₁ _ => ?_)
        have qrx := rep_bool rx
        subst qrx
        exact wpAny_bind (wpAny_standAt (wpAny_bind (wpAny_holding (wpAny_truthy_bool (wpAny_pure ⟨ρ₁, st, .bool _⟩)))))
      · (exact no_so hf)
theorem snd_and {es : List Expr} {ces : List CE} {pos : Pos} (hes : All2 (E2 HH w d c C n) es ces) : SndE HH d w (.BoolOp .And es pos) c (ev C (n + 1) (.and ces)) false := by
  intro A env frames ρ ls cv σ v σ' s E hf X R
  simp only [Eqn.ev_and] at hf
  rw [arm_eval_BoolOp]
  exact wpAny_mono (andV_at hes hf X R) (fun _ _ h => ⟨h, fun q => nomatch q⟩) fun _ _ q => q
theorem tst_not {e : Expr} {ce : CE} {pos : Pos} (he : SndT HH d w e c (tst C n ce) false) : SndT HH d w (.UnaryOp .Not e pos) c (tst C (n + 1) (.not ce)) false := by
  intro A env frames ρ ls cv σ v σ' s E hf X R
  simp only [Eqn.tst_not] at hf
  refine cpf fun rq => ?_
  split at hf
  · rename_i b σ₁ h1
    (refine some2 hf fun w107_0 w107_1 => ?_; clear hf; subst w107_0; subst w107_1)
    refine rq ?_
    exact wpAny_isTrue_Not (he.then h1 X R fun s₁ ρ₁ st X₁ R₁ _ => ⟨⟨rfl, ρ₁, st⟩, fun q => nomatch q⟩)
  · (exact no_so hf)
theorem allT_cons {f : CE -> Sto -> Option (Bool × Sto)} {ce : CE} {ces : List CE} {σ σ' : Sto} {b : Bool} (h : allT f (ce :: ces) σ = some (b, σ')) : (∃ σ₁, f ce σ = some (true, σ₁) /\ allT f ces σ₁ = some (b, σ')) \/ (f ce σ = some (b, σ') /\ b = false) := by
  have h : (match f ce σ with
    | some (true, σ) => allT f ces σ
    | some (false, σ) => some (false, σ)
    | none => none) = some (b, σ') := h
  cases h1 : f ce σ with
  | none => rw [h1] at h; exact no_some h
  | some y =>
    obtain ⟨c, σ₁⟩ := y
    rw [h1] at h
    induction c using Bool.casesOn with
    | true => exact .inl ⟨σ₁, rfl, h⟩
    | false => cases (show some (false, σ₁) = some (b, σ') from h); exact .inr ⟨rfl, rfl⟩
theorem anyT_cons {f : CE -> Sto -> Option (Bool × Sto)} {ce : CE} {ces : List CE} {σ σ' : Sto} {b : Bool} (h : anyT f (ce :: ces) σ = some (b, σ')) : (∃ σ₁, f ce σ = some (false, σ₁) /\ anyT f ces σ₁ = some (b, σ')) \/ (f ce σ = some (b, σ') /\ b = true) := by
  have h : (match f ce σ with
    | some (true, σ) => some (true, σ)
    | some (false, σ) => anyT f ces σ
    | none => none) = some (b, σ') := h
  cases h1 : f ce σ with
  | none => rw [h1] at h; exact no_some h
  | some y =>
    obtain ⟨c, σ₁⟩ := y
    rw [h1] at h
    induction c using Bool.casesOn with
    | false => exact .inl ⟨σ₁, rfl, h⟩
    | true => cases (show some (true, σ₁) = some (b, σ') from h); exact .inr ⟨rfl, rfl⟩
theorem allT_at : ∀ {es : List Expr} {ces : List CE}, All2 (T2 HH w d c C n) es ces -> ∀ {ρ : List Addr} {σ σ' : Sto} {s : Shared} {b : Bool} {E : Value -> Shared -> Prop},
    allT (fun e σ => tst C n e ls cv σ) ces σ = some (b, σ') -> ECtx HH A d env c frames ρ s.heap ls cv -> HeapRep HH w ρ s.heap σ ->
    wpAny (model prog w) A (allTrue .And es env) (BPost HH w ρ s σ' b) E s := by
  intro es ces hes
  induction hes with
  | nil =>
    intro ρ σ σ' s b E hf X R
    cases (show some (true, σ) = some (b, σ') from hf)
    exact wpAny_allTrue_And_nil ⟨rfl, ρ, Stp.refl R⟩
  | cons p r ih =>
    intro ρ σ σ' s b E hf X R
    rcases allT_cons hf with ⟨σ₁, h1, h2⟩ | ⟨h1, h2⟩
    · refine wpAny_allTrue_And_cons (SndT.then p h1 X R fun s₁ ρ₁ st X₁ R₁ _ => ?_)
      rw [if_pos rfl]
      exact wpAny_mono (ih h2 X₁ R₁) (fun y s₂ ⟨hb, ρ₂, st₂⟩ => ⟨hb, ρ₂, st.trans st₂⟩) fun _ _ q => q
    · subst h2
      refine wpAny_allTrue_And_cons (SndT.then p h1 X R fun s₁ ρ₁ st X₁ R₁ _ => ?_)
      rw [if_neg Bool.false_ne_true]
      exact ⟨rfl, ρ₁, st⟩
theorem anyT_at : ∀ {es : List Expr} {ces : List CE}, All2 (T2 HH w d c C n) es ces -> ∀ {ρ : List Addr} {σ σ' : Sto} {s : Shared} {b : Bool} {E : Value -> Shared -> Prop},
    anyT (fun e σ => tst C n e ls cv σ) ces σ = some (b, σ') -> ECtx HH A d env c frames ρ s.heap ls cv -> HeapRep HH w ρ s.heap σ ->
    wpAny (model prog w) A (allTrue .Or es env) (BPost HH w ρ s σ' b) E s := by
  intro es ces hes
  induction hes with
  | nil =>
    intro ρ σ σ' s b E hf X R
    cases (show some (false, σ) = some (b, σ') from hf)
    exact wpAny_allTrue_Or_nil ⟨rfl, ρ, Stp.refl R⟩
  | cons p r ih =>
    intro ρ σ σ' s b E hf X R
    rcases anyT_cons hf with ⟨σ₁, h1, h2⟩ | ⟨h1, h2⟩
    · refine wpAny_allTrue_Or_cons (SndT.then p h1 X R fun s₁ ρ₁ st X₁ R₁ _ => ?_)
      rw [if_neg Bool.false_ne_true]
      exact wpAny_mono (ih h2 X₁ R₁) (fun y s₂ ⟨hb, ρ₂, st₂⟩ => ⟨hb, ρ₂, st.trans st₂⟩) fun _ _ q => q
    · subst h2
      refine wpAny_allTrue_Or_cons (SndT.then p h1 X R fun s₁ ρ₁ st X₁ R₁ _ => ?_)
      rw [if_pos rfl]
      exact ⟨rfl, ρ₁, st⟩
theorem tst_and {es : List Expr} {ces : List CE} {pos : Pos} (hes : All2 (T2 HH w d c C n) es ces) : SndT HH d w (.BoolOp .And es pos) c (tst C (n + 1) (.and ces)) false := by
  intro A env frames ρ ls cv σ v σ' s E hf X R
  simp only [Eqn.tst_and] at hf
  exact wpAny_isTrue_BoolOp (wpAny_mono (allT_at hes hf X R) (fun _ _ h => ⟨h, fun q => nomatch q⟩) fun _ _ q => q)
theorem tst_or {es : List Expr} {ces : List CE} {pos : Pos} (hes : All2 (T2 HH w d c C n) es ces) : SndT HH d w (.BoolOp .Or es pos) c (tst C (n + 1) (.or ces)) false := by
  intro A env frames ρ ls cv σ v σ' s E hf X R
  simp only [Eqn.tst_or] at hf
  exact wpAny_isTrue_BoolOp (wpAny_mono (anyT_at hes hf X R) (fun _ _ h => ⟨h, fun q => nomatch q⟩) fun _ _ q => q)
theorem tst_val {e : Expr} {f : Ls -> Option V -> Sto -> Option (V × Sto)} {g : Ls -> Option V -> Sto -> Option (Bool × Sto)} {pu : Bool} (he : SndE HH d w e c f pu)
    (hg : ∀ ls cv σ, g ls cv σ = match f ls cv σ with | some (v, σ) => (truth v σ).map (·, σ) | none => none)
    (hw : ∀ env, PySem.isTrue e env (eval e env) = (do let v <- eval e env; standAt e.pos; holding [v] (truthy v))) : SndT HH d w e c g pu := by
  intro A env frames ρ ls cv σ v σ' s E hf X R
  rw [hg] at hf
  refine cpf fun rq => ?_
  split at hf
  · rename_i v₁ σ₁ h1
    simp only [Option.map_eq_some_iff] at hf
    obtain ⟨b, hb, hf⟩ := hf
    (refine el02 (Prod.mk.inj hf) fun w194_0 w194_1 => ?_; clear hf; subst w194_0; subst w194_1)
    refine rq ?_
    refine wpAny_isTrue_value (he.then h1 X R fun x s₁ ρ₁ st rx X₁ R₁ p1 => ?_) (hw _)
    exact truth_at R₁ hb rx fun tk => ⟨⟨rfl, ρ₁, st.trans (Stp.toks R₁ tk)⟩, p1⟩
  · (exact no_so hf)
theorem tst_cmp {a b : Expr} {ca cb : CE} {op : Co} {o : CmpOp} {pos : Pos} {pa pb : Bool} (ho : o = cop op) (hp : Plain b) (hn : op = .isNone \/ op = .isNot -> cb = .none) (ha : SndE HH d w a c (ev C n ca) pa) (hb : SndE HH d w b c (ev C n cb) pb) :
    SndT HH d w (.Compare a [o] [b] pos) c (tst C (n + 2) (.cmp op ca cb)) false := by
  intro A env frames ρ ls cv σ v σ' s E hf X R
  refine cpf fun rq => ?_
  subst ho
  simp only [Eqn.tst_cmp, Eqn.ev_cmp] at hf
  split at hf
  · rename_i v₁ σ₁' h0
    split at h0
    · rename_i va σ₁ h1
      split at h0
      · rename_i vb σ₂ h2
        simp only [Option.map_eq_some_iff] at h0
        obtain ⟨r, hc, h0⟩ := h0
        (refine el02 (Prod.mk.inj h0) fun w213_0 w213_1 => ?_; clear h0; subst w213_0; subst w213_1)
        simp only [Eqn.truth_1, Option.map_some, Option.some.injEq, Prod.mk.injEq] at hf
        obtain ⟨rfl, rfl⟩ := hf
        refine rq ?_
        refine wpAny_isTrue_Compare1 (ha.then h1 X R fun x s₁ ρ₁ st rx X₁ R₁ _ => hb.then h2 X₁ R₁ fun y s₂ ρ₂ st₂ ry X₂ R₂ _ => ?_) (hp.mark _)
        refine cmp_at R₂ hc (rx.mono st₂.2.1) ry (Nat.le_trans (Nat.le_add_right _ _) X.units) (fun q => ?_) fun tk => wpAny_truthy_bool ⟨⟨rfl, ρ₂, (st.trans st₂).trans (Stp.toks R₂ tk)⟩, fun q => nomatch q⟩
        rw [hn q] at h2
        induction n using Nat.casesOn with
        | zero => simp [Eqn.ev_zero] at h2
        | succ n => simp only [Eqn.ev_none, Option.some.injEq, Prod.mk.injEq] at h2; exact h2.1.symm
      · (exact no_so h0)
    · (exact no_so h0)
  · (exact no_so hf)
end
end Mine
end
section
open PySem PySem.W PySem.Calls PyProof.Rows
namespace Mine
noncomputable section
noncomputable def AttrRule (w : World) (HH : Heap) : Prop :=
  ∀ {A : Around} {E : Value -> Shared -> Prop} {s : Shared} {a d : Addr} {es : List DictEntry} {n : Nat} {x : Str} {b : Addr} {Q : Value -> Shared -> Prop},
    HH.StaysIn s.heap -> s.heap.get? a = some (instObj 63 d) -> s.heap.get? d = some (dictOf es n) -> x ∈ attrNames -> W.getL x es = some (some (.ref b)) ->
    (∀ tk, Q (.ref b) { s with toks := tk }) -> wpAny (model prog w) A (getAttr (.ref a) x true) Q E s
theorem slicePick_but1 (items : Array Value) : slicePick items none (some (-1)) none = items.toList.dropLast.toArray := by
  have e : sliceBounds none (some (-1)) none items.size = (((0 : Nat) : Int), ((items.size - 1 : Nat) : Int), 1) := by
    simp only [sliceBounds, Option.getD_none]
    simp only [show ((-1 : Int) < 0) from by decide, if_true, show (1 : Int) > 0 by decide]
    congr 1
    congr 1; (exact om168)
  unfold slicePick
  rw [e]
  simp only [sliceRange_one, pick_run]
  simp [List.dropLast_eq_take]
theorem slicePick_most (items : Array Value) (k : Int) (h0 : 0 <= k) : slicePick items none (some k) none = (items.toList.take k.toNat).toArray := by
  have e : sliceBounds none (some k) none items.size = (((0 : Nat) : Int), ((min k.toNat items.size : Nat) : Int), 1) := by
    simp only [sliceBounds, Option.getD_none]
    have h2 : ¬ (k < 0) := by (exact om169 h0)
    simp only [h2, if_false, show (1 : Int) > 0 by decide, if_true]
    congr 1
    congr 1; (exact om170)
  unfold slicePick
  rw [e]
  simp only [sliceRange_one, pick_run]
  simp
section
variable {HH : Heap} {w : World} {A : Around} {E : Value -> Shared -> Prop} {ρ own : List Addr} {s : Shared} {σ σ' : Sto} {h : Heap} {C : Calls} {n d : Nat} {c : CEnv} {env : Env} {frames : List Env} {ls : Ls} {cv : Option V}
theorem ints_map {ρ : List Addr} {h : Heap} {cvs : List Value} {xs : List Int} (r : IntsAre cvs xs) : RepVs HH ρ h (xs.map .int) cvs := by
  induction r with
  | nil => exact .nil
  | cons i t _ k => exact .cons (.int i t) k
theorem IntsAre.take' {cvs : List Value} {xs : List Int} (r : IntsAre cvs xs) : ∀ k, IntsAre (cvs.take k) (xs.take k) := by
  induction r with
  | nil => intro k; rw [List.take_nil, List.take_nil]; exact .nil
  | cons i t _ ih => exact fun k => Nat.casesOn k .nil fun k => .cons i t (ih k)
theorem snd_slHi {x : Str} {xp pos p : Pos} {hi : Expr} {co ch : CE} {po ph : Bool} (ho : SndE HH d w (.Name x xp) c (ev C n co) po) (hh : SndE HH d w hi c (ev C n ch) ph) :
    SndE HH d w (.Subscript (.Name x xp) (.Slice none (some hi) none p) pos) c (ev C (n + 1) (.slHi co ch)) false := by
  intro A env frames ρ ls cv σ v σ' s E hf X R
  simp only [Eqn.ev_slHi] at hf
  split at hf
  · rename_i vo σ₁ h1
    split at hf
    · rename_i k σ₂ h2
      refine wpAny_Subscript_list_slice (ho.then h1 X R fun y s₁ ρ₁ st ry X₁ R₁ _ => evalPart_none_step (evalPart_some_step (hh.then h2 X₁ R₁ fun z s₂ ρ₂ st₂ rz X₂ R₂ _ => ?_))) (fun _ _ => rfl)
      have ry := ry.mono st₂.2.1
      cases rz with
      | int _ t =>
      split at hf
      · rename_i xs
        split at hf
        · rename_i hk
          (refine some2 hf fun w59_0 w59_1 => ?_; clear hf; subst w59_0; subst w59_1)
          refine el24 (ry.inv) fun a cvs qz60 hl hi hz => ?_
          subst qz60
          ·
            have hl' : s₂.heap.IsList a cvs.toArray := let ⟨o, ho, r⟩ := hl; ⟨o, R₂.stays _ _ ho, r⟩
            have hlen := hi.length
            refine ⟨a, cvs.toArray, none, some k, rfl, hl', by rw [List.size_toArray, sizeLine_eq]; (exact om171 hlen hz), .none, .int _ _, ?_⟩
            rw [slicePick_most _ _ hk.1]
            have k1 := push_keeps s₂.heap { cls := .type "slice", data := .fields #[.none, .int k t, .none] }
            have R₃ : HeapRep HH w ρ₂ (s₂.heap.push { cls := .type "slice", data := .fields #[.none, .int k t, .none] }) σ₂ := R₂.keepsAll k1
            refine el02 (new_list (own := []) (s := { s₂ with heap := s₂.heap.push { cls := .type "slice", data := .fields #[.none, .int k t, .none] } }) R₃ (ints_map (IntsAre.take' hi k.toNat)) (by rw [List.length_map, List.length_take]; (exact om172 hz)) s₂.toks) fun st' r' => ?_
            have es : (s₂.heap.push { cls := .type "slice", data := .fields #[.none, .int k t, .none] }).objs.size = s₂.heap.objs.size + 1 := Heap.size_push _ _
            refine ⟨⟨ρ₂ ++ [s₂.heap.objs.size + 1], ?_, ?_⟩, fun q => nomatch q⟩
            · rw [<- es]
              exact ((st.trans st₂).trans (Stp.keeps R₂ s₂.toks k1)).trans st'
            · rw [<- es]; exact r'
        · (exact no_so hf)
      · rename_i m
        split at hf
        · rename_i vs hv
          split at hf
          · rename_i hk
            subst hk
            (refine some2 hf fun w81_0 w81_1 => ?_; clear hf; subst w81_0; subst w81_1)
            refine el12 (rep_lst ry) fun a qz82 hn => ?_
            subst qz82
            ·
              refine el34 (R₂.list hv) fun a' cvs k0 ha hl hr hz => ?_
              (replace ha := Eq.trans (Eq.symm (hn ..)) (ha)); (replace ha := Option.some.inj ha; subst ha)
              have hlen := hr.length
              refine ⟨a, cvs.toArray, none, some (-1), rfl, ⟨_, hl, rfl, k0, rfl⟩, by rw [List.size_toArray, sizeLine_eq]; (exact om146 hlen hz), .none, .int _ _, ?_⟩
              rw [slicePick_but1]
              have k1 := push_keeps s₂.heap { cls := .type "slice", data := .fields #[.none, .int (-1) t, .none] }
              have R₃ : HeapRep HH w ρ₂ (s₂.heap.push { cls := .type "slice", data := .fields #[.none, .int (-1) t, .none] }) σ₂ := R₂.keepsAll k1
              refine el02 (new_list (own := []) (s := { s₂ with heap := s₂.heap.push { cls := .type "slice", data := .fields #[.none, .int (-1) t, .none] } }) R₃ ((hr.mono (Evo.push (own := []) _)).dropLast) (by rw [List.length_dropLast]; (exact om173 hz)) s₂.toks) fun st' r' => ?_
              have es : (s₂.heap.push { cls := .type "slice", data := .fields #[.none, .int (-1) t, .none] }).objs.size = s₂.heap.objs.size + 1 := Heap.size_push _ _
              refine ⟨⟨ρ₂ ++ [s₂.heap.objs.size + 1], ?_, ?_⟩, fun q => nomatch q⟩
              · rw [<- es]
                exact ((st.trans st₂).trans (Stp.keeps R₂ s₂.toks k1)).trans st'
              · rw [<- es]; exact r'
          · (exact no_so hf)
        · (exact no_so hf)
      · (exact no_so hf)
    · (exact no_so hf)
  · (exact no_so hf)
theorem snd_attr {x m : Str} {k : Nat} {xp pos : Pos} {co : CE} {po : Bool} (HA : AttrRule w HH) (hm : attrNames[k]? = some m) (ho : SndE HH d w (.Name x xp) c (ev C n co) po) :
    SndE HH d w (.Attribute (.Name x xp) m pos) c (ev C (n + 1) (.attr co k)) false := by
  intro A env frames ρ ls cv σ v σ' s E hf X R
  simp only [Eqn.ev_attr] at hf
  refine cpf fun rq => ?_
  split at hf
  · rename_i q σ₁ h1
    split at hf
    · rename_i ds hds
      simp only [Option.map_eq_some_iff] at hf
      refine el12 (hf) fun dd hd hf => ?_
      (refine el02 (Prod.mk.inj hf) fun w113_0 w113_1 => ?_; clear hf; subst w113_0; subst w113_1)
      refine rq ?_
      refine Attribute_any_ (ho.then h1 X R fun y s₁ ρ₁ st ry X₁ R₁ _ => ?_) rfl
      refine el23 (ry.inv) fun a dA qz117 hn ha => ?_
      subst qz117
      ·
        refine el12 (R₁.addr hds) fun a' ha' oa => ?_
        (replace ha' := Eq.trans (Eq.symm (hn ..)) (ha')); (replace ha' := Option.some.inj ha'; subst ha')
        cases oa with
        | attrs hda hall =>
          refine el12 (hall k m dd hm hd) fun b hb hg => ?_
          exact HA R₁.stays ha hda (List.mem_of_getElem? hm) hg fun tk => ⟨⟨ρ₁, st.trans (Stp.toks R₁ tk), .dct hb⟩, fun q => nomatch q⟩
    · (exact no_so hf)
  · (exact no_so hf)
theorem tst_chain {a b e f : Expr} {ca cb ce cf : CE} {pos : Pos} {pa pb pe pf : Bool} (hp : Plain f) (ha : SndE HH d w a c (ev C n ca) pa) (hb : SndE HH d w b c (ev C n cb) pb) (he : SndE HH d w e c (ev C n ce) pe) (hF : SndE HH d w f c (ev C n cf) pf) :
    SndT HH d w (.Compare a [.Lt, .Lt, .Lt] [b, e, f] pos) c (tst C (n + 1) (.chain ca cb ce cf)) (pa && pb && pe && pf) := by
  intro A env frames ρ ls cv σ v σ' s E hf X R
  simp only [Eqn.tst_chain'] at hf
  have hm : lastMarks [CmpOp.Lt, .Lt, .Lt] [b, e, f] = false := hp.mark _
  split at hf
  · rename_i i σ₁ h1
    split at hf
    · rename_i j σ₂ h2
      refine isTrue_chain (ha.then h1 X R fun x s₁ ρ₁ st₁ rx X₁ R₁ p1 => test_link (hb.then h2 X₁ R₁ fun y s₂ ρ₂ st₂ ry X₂ R₂ p2 => ?_)) hm
      have rx := rx.mono st₂.2.1
      refine el11 (rep_int rx) fun tk1 qrx => ?_
      subst qrx
      refine el11 (rep_int ry) fun tk2 qry => ?_
      subst qry
      refine lt_int (wpAny_truthy_bool ?_)
      split at hf
      · rename_i hij
        rw [if_pos (decide_eq_true hij)]
        split at hf
        · rename_i k σ₃ h3
          refine test_link (he.then h3 X₂ R₂ fun z s₃ ρ₃ st₃ rz X₃ R₃ p3 => ?_)
          refine el11 (rep_int rz) fun tk3 qrz => ?_
          subst qrz
          refine lt_int (wpAny_truthy_bool ?_)
          split at hf
          · rename_i hjk
            rw [if_pos (decide_eq_true hjk)]
            split at hf
            · rename_i l σ₄ h4
              (refine some2 hf fun w152_0 w152_1 => ?_; clear hf; subst w152_0; subst w152_1)
              refine test_last (hF.then h4 X₃ R₃ fun u s₄ ρ₄ st₄ ru X₄ R₄ p4 => ?_)
              refine el11 (rep_int ru) fun tk4 qru => ?_
              subst qru
              refine lt_int (wpAny_truthy_bool ⟨⟨rfl, ρ₄, ((st₁.trans st₂).trans st₃).trans st₄⟩, fun q => ?_⟩)
              simp only [Bool.and_eq_true] at q
              exact (p4 q.2).trans ((p3 q.1.2).trans ((p2 q.1.1.2).trans (p1 q.1.1.1)))
            · (exact no_so hf)
          · rename_i hjk
            rw [if_neg (by simpa using hjk)]
            (refine some2 hf fun w161_0 w161_1 => ?_; clear hf; subst w161_0; subst w161_1)
            refine ⟨⟨rfl, ρ₃, (st₁.trans st₂).trans st₃⟩, fun q => ?_⟩
            simp only [Bool.and_eq_true] at q
            exact (p3 q.1.2).trans ((p2 q.1.1.2).trans (p1 q.1.1.1))
        · (exact no_so hf)
      · rename_i hij
        rw [if_neg (by simpa using hij)]
        (refine some2 hf fun w168_0 w168_1 => ?_; clear hf; subst w168_0; subst w168_1)
        refine ⟨⟨rfl, ρ₂, st₁.trans st₂⟩, fun q => ?_⟩
        simp only [Bool.and_eq_true] at q
        exact (p2 q.1.1.2).trans (p1 q.1.1.1)
    · (exact no_so hf)
  · (exact no_so hf)
end
end
end Mine
end
section
open PySem PySem.W PySem.Calls PyProof.Rows
namespace Mine
noncomputable section
section
variable (w : World) (HH : Heap) (fa : Nat -> Addr) (mg mb : Str -> Option Value)
structure CCtx (A : Around) (d : Nat) (frames : List Env) (ρ : List Addr) (h : Heap) : Prop where
  handled : A.handled = none
  depth : A.depth + d <= 400
  units : A.units + 20 * d <= 1000
  fr : A.frames = some frames
  ff : h.FunFrames HH frames
  fn : ∀ b ∈ frames.filterMap (·.frame), Safe ρ h b
noncomputable def XPost (frames : List Env) (ρ : List Addr) (s : Shared) (e : Addr) (s' : Shared) : Prop :=
  (∃ h' tk, s' = { s with heap := h', toks := tk }) /\ (∃ a0, Heap.FlyingW HH frames e (.ref 44) a0 s'.heap) /\
    ∀ a o, s.heap.get? a = some o -> a ∉ ρ -> (∀ vs, o.data ≠ .fields vs) -> ∃ sl, s'.heap.get? a = some { o with slots := sl }
noncomputable def CallPost (frames : List Env) (ρ : List Addr) (s : Shared) (out : Res) (r : Result) (s' : Shared) : Prop :=
  match out with
  | .ok v σ' => ∃ x, r = .ok (.ret x) /\ EPost HH w ρ s σ' v x s'
  | .exc => ∃ e, r = .error (.ref e) /\ XPost HH frames ρ s e s'
noncomputable def CallsOk (C : Calls) (d : Nat) : Prop :=
  ∀ {i : Nat} {x : Str} {args : List V} {σ : Sto} {out : Res} {A : Around} {frames : List Env} {ρ : List Addr} {s : Shared} {cvs : List Value},
    funNames[i]? = some x -> C i args σ = some out -> CCtx HH A d frames ρ s.heap -> HeapRep HH w ρ s.heap σ -> RepVs HH ρ s.heap args cvs ->
    codeAny (model prog w) A (.call (.ref (fa i)) ⟨cvs, []⟩) (CallPost w HH frames ρ s out) s
structure Gl : Prop where
  g : HH.Ns mainGlobals mg
  b : HH.Ns builtinsNs mb
  lim : HH.NoLimit
  fn : ∀ i x, funNames[i]? = some x -> mg x = some (.ref (fa i))
  fobj : ∀ i x, funNames[i]? = some x -> ∃ o fd, HH.get? (fa i) = some o /\ o.data = .func fd
  flow : mg "Flow" = some (.ref 63)
  fcls : ∀ (M : Model) (h : Heap), HH.StaysIn h -> ∃ k, (k = Keeper.frame \/ k = Keeper.machine \/ k = Keeper.boundFrame) /\ Looks M h (keeperOf (.ref 63)) k
  len : mg "len" = none /\ mb "len" = some (.builtin "len")
  range : mg "range" = none /\ mb "range" = some (.type "range")
  dict : mg "dict" = none /\ mb "dict" = some (.type "dict")
  list : mg "list" = none /\ mb "list" = some (.type "list")
  sorted : mg "sorted" = none /\ mb "sorted" = some (.builtin "sorted")
  reversed : mg "reversed" = none /\ mb "reversed" = some (.type "reversed")
  attr : AttrRule w HH
  mkdict : ∀ {A : Around} {E : Value -> Shared -> Prop} {s : Shared} {ρ : List Addr} {σ : Sto} {m : Nat} {a : Addr} {vs : List V} {ps : List (Int × V)}, A.handled = none -> A.units <= 1000 ->
    HeapRep HH w ρ s.heap σ -> ρ[m]? = some a -> Mine.getL σ m = some vs -> pairsOfV vs = some ps ->
    wpAny (model prog w) A (call (.type "dict") [.ref a]) (EPost HH w ρ s (σ ++ [.dict (ps.foldl (fun d p => putI d p.1 p.2) [])]) (.dct σ.length)) E s
  sortD : ∀ {A : Around} {E : Value -> Shared -> Prop} {s : Shared} {ρ : List Addr} {σ : Sto} {m : Nat} {a : Addr} {es : List (Int × V)}, A.handled = none -> A.units <= 1000 ->
    HeapRep HH w ρ s.heap σ -> ρ[m]? = some a -> Mine.getD σ m = some es -> es.length < 64 ->
    wpAny (model prog w) A (call (.builtin "sorted") [.ref a] [(Str.ofString "reverse", .bool true)]) (EPost HH w ρ s (σ ++ [.list ((sortDown (es.map (·.1))).map .int)]) (.lst σ.length)) E s
  newflow : ∀ {A : Around} {E : Value -> Shared -> Prop} {s : Shared} {ρ : List Addr} {σ : Sto} {d : Nat} {frames : List Env}, CCtx HH A (d + 1) frames ρ s.heap -> HeapRep HH w ρ s.heap σ ->
    wpAny (model prog w) A (call (.ref 63) []) (EPost HH w ρ s (σ ++ [.dict [], .dict [], .dict [], .dict [], .dict [], .attrs [σ.length, σ.length + 1, σ.length + 2, σ.length + 3, σ.length + 4]]) (.flow (σ.length + 5))) E s
end
section
variable {HH : Heap} {fa : Nat -> Addr} {mg mb : Str -> Option Value} {w : World} {A : Around} {E : Value -> Shared -> Prop} {ρ own : List Addr} {s : Shared} {σ σ' : Sto} {h : Heap} {C : Calls} {n d : Nat} {c : CEnv} {env : Env} {frames : List Env} {ls : Ls} {cv : Option V}
theorem ECtx.call (X : ECtx HH A d env c frames ρ h ls cv) : CCtx HH A d frames ρ h := ⟨X.handled, X.depth, X.units, X.fr, X.ff, X.fn⟩
theorem glob_name {f x : Str} (hg : isGlob c f x = true) : f = x /\ c.cvar = none /\ c.names.lookup x = some .globalImplicit := by
  unfold isGlob at hg
  simp only [Bool.and_eq_true, beq_iff_eq] at hg
  exact ⟨hg.1.1, hg.1.2, hg.2⟩
theorem ns_of {h : Heap} {a : Addr} {m : Str -> Option Value} (x : HH.Ns a m) (k : HH.StaysIn h) : h.Ns a m := x.at' fun o e => k a o e
theorem load_g {x : Str} {pos : Pos} {v : Value} {Q : Value -> Shared -> Prop} (X : ECtx HH A d env c frames ρ s.heap ls cv) (R : HeapRep HH w ρ s.heap σ) (G : Gl w HH fa mg mb) (hg : c.cvar = none /\ c.names.lookup x = some .globalImplicit)
    (hv : mg x = some v) (hd : (x == ("__debug__" : Str)) = false) (h : Q v s) : wpAny (model prog w) A (eval (.Name x pos) env) Q E s := by
  refine Name_function_global X.kind (by rw [kindOf_eq, <- X.glob hg.1]; exact hg.2) (loadGlobal_global (mg := mg) ?_ hv h) hd
  rw [X.globals]; exact ns_of G.g R.stays
theorem load_b {x : Str} {pos : Pos} {v : Value} {Q : Value -> Shared -> Prop} (X : ECtx HH A d env c frames ρ s.heap ls cv) (R : HeapRep HH w ρ s.heap σ) (G : Gl w HH fa mg mb) (hg : c.cvar = none /\ c.names.lookup x = some .globalImplicit)
    (hv : mg x = none /\ mb x = some v) (hd : (x == ("__debug__" : Str)) = false) (h : Q v s) : wpAny (model prog w) A (eval (.Name x pos) env) Q E s := by
  refine Name_function_global X.kind (by rw [kindOf_eq, <- X.glob hg.1]; exact hg.2) (loadGlobal_builtin (mg := mg) (mb := mb) ?_ hv.1 ?_ hv.2 h) hd
  · rw [X.globals]; exact ns_of G.g R.stays
  · rw [X.builtins]; exact ns_of G.b R.stays
theorem args_at {pos : Pos} {f : Value} {es : List Expr} {ces : List CE} (hes : All2 (E2 HH w d c C n) es ces) {vs : List V} {E : Value -> Shared -> Prop}
    (hf : evs (fun e σ => ev C n e ls cv σ) ces σ = some (vs, σ')) (X : ECtx HH A d env c frames ρ s.heap ls cv) (R : HeapRep HH w ρ s.heap σ) :
    wpAny (model prog w) A (evalArgs f true (backTo pos (starEach es env)) []) (fun a s' => a.kw = [] /\ EPosts HH w ρ s σ' vs a.pos s') E s := by
  cases hes with
  | nil =>
    simp only [Eqn.evs_1, Option.some.injEq, Prod.mk.injEq] at hf
    refine el02 (hf) fun q85_0 q85_1 => ?_
    subst q85_0
    subst q85_1
    exact evalArgs_nil3 ⟨rfl, ρ, Stp.refl R, .nil⟩
  | @cons e ce es ces p r =>
    have hx := items_at (pos := pos) (E := E) (.cons p r) hf X R
    rw [p.1.star] at hx ⊢
    exact evalArgs_plain (wpAny_mono hx (fun vs s₁ q => ⟨rfl, q⟩) fun _ _ q => q)
theorem callR_at {f : Str} {i : Nat} {np pos : Pos} {args : List Expr} {cargs : List CE} {vs : List V} {out : Res} {Q : Value -> Shared -> Prop} (G : Gl w HH fa mg mb) (CO : CallsOk w HH fa C d)
    (hi : funNames[i]? = some f) (hg : isGlob c f f = true) (hargs : All2 (E2 HH w d c C n) args cargs)
    (h1 : evs (fun e σ => ev C n e ls cv σ) cargs σ = some (vs, σ')) (h2 : C i vs σ' = some out) (X : ECtx HH A d env c frames ρ s.heap ls cv) (R : HeapRep HH w ρ s.heap σ)
    (hd : (f == ("__debug__" : Str)) = false)
    (k : ∀ ρ₁ s₁, Stp HH w [] ρ s ρ₁ σ' s₁ -> ∀ s₂, match out with
      | .ok v σ₂ => ∀ x, EPost HH w ρ₁ s₁ σ₂ v x s₂ -> Q x s₂
      | .exc => ∀ e, XPost HH frames ρ₁ s₁ e s₂ -> E (.ref e) s₂) :
    wpAny (model prog w) A (eval (.Call (.Name f np) args [] pos) env) Q E s := by
  refine el03 (glob_name hg) fun _ g1 g2 => ?_
  refine Call_ (load_g X R G ⟨g1, g2⟩ (G.fn i f hi) hd ?_)
  refine el22 (G.fobj i f hi) fun o fd ho hd => ?_
  refine callWith_function (o := o) (fd := fd) (wpAny_mono (args_at hargs h1 X R) (fun a s₁ ⟨hk, ρ₁, st, rs⟩ => ⟨⟨st.2.2.stays _ _ ho, hd⟩, ?_⟩) fun _ _ q => q)
  rw [hk, List.nil_append]
  refine wpAny_call (codeAny_mono (CO hi h2 (X.mono st.2.1).call st.2.2 rs) fun r s₂ hp => ?_)
  have hk := k ρ₁ s₁ st s₂
  induction out using Res.casesOn with
  | ok v σ₂ => obtain ⟨x, rfl, e⟩ := hp; exact hk x e
  | exc => obtain ⟨e, rfl, x⟩ := hp; exact hk e x
theorem snd_call {f : Str} {i : Nat} {np pos : Pos} {args : List Expr} {cargs : List CE} (G : Gl w HH fa mg mb) (CO : CallsOk w HH fa C d)
    (hi : funNames[i]? = some f) (hg : isGlob c f f = true) (hargs : All2 (E2 HH w d c C n) args cargs) (hd : (f == ("__debug__" : Str)) = false) :
    SndE HH d w (.Call (.Name f np) args [] pos) c (ev C (n + 1) (.call i cargs)) false := by
  intro A env frames ρ ls cv σ v σ' s E hf X R
  simp only [Eqn.ev_call] at hf
  refine cpf fun rq => ?_
  split at hf
  · rename_i vs σ₁ h1
    split at hf
    · rename_i u σ₂ h2
      (refine some2 hf fun w123_0 w123_1 => ?_; clear hf; subst w123_0; subst w123_1)
      refine rq ?_
      exact callR_at G CO hi hg hargs h1 h2 X R hd fun ρ₁ s₁ st s₂ x ⟨ρ₂, st₂, r⟩ => ⟨⟨ρ₂, st.trans st₂, r⟩, fun q => nomatch q⟩
    · (exact no_so hf)
  · (exact no_so hf)
end
end
end Mine
end
section
open PySem PySem.W PySem.Calls PyProof.Rows
namespace Mine
noncomputable section
noncomputable abbrev GlobIn (c : CEnv) (x : Str) : Prop := c.cvar = none /\ c.names.lookup x = some .globalImplicit
section
variable {HH : Heap} {fa : Nat -> Addr} {mg mb : Str -> Option Value} {w : World} {A : Around} {E : Value -> Shared -> Prop} {ρ own : List Addr} {s : Shared} {σ σ' : Sto} {h : Heap} {C : Calls} {n d : Nat} {c : CEnv} {env : Env} {frames : List Env} {ls : Ls} {cv : Option V}
theorem ECtx.units1000 (X : ECtx HH A d env c frames ρ h ls cv) : A.units <= 1000 := Nat.le_trans (Nat.le_add_right _ _) X.units
theorem one_at {pos : Pos} {e : Expr} {ce : CE} {v : V} {Q : List Value -> Shared -> Prop} (p : Plain e) (he : SndE HH d w e c (ev C n ce) false)
    (hf : ev C n ce ls cv σ = some (v, σ')) (X : ECtx HH A d env c frames ρ s.heap ls cv) (R : HeapRep HH w ρ s.heap σ)
    (k : ∀ x s₁ ρ₁, Stp HH w [] ρ s ρ₁ σ' s₁ -> RepV HH ρ₁ s₁.heap v x -> ECtx HH A d env c frames ρ₁ s₁.heap ls cv -> HeapRep HH w ρ₁ s₁.heap σ' -> Q [x] s₁) :
    wpAny (model prog w) A (spliced (backTo pos (starEach [e] env))) Q E s :=
  wpAny_items_cons (he.then hf X R fun x s₁ ρ₁ st rx X₁ R₁ _ => wpAny_items_nil (k x s₁ ρ₁ st rx X₁ R₁)) (p.star _ _)
theorem snd_len {np pos : Pos} {e : Expr} {ce : CE} (G : Gl w HH fa mg mb) (hg : GlobIn c "len") (p : Plain e) (he : SndE HH d w e c (ev C n ce) false) :
    SndE HH d w (.Call (.Name "len" np) [e] [] pos) c (ev C (n + 1) (.len ce)) false := by
  intro A env frames ρ ls cv σ v σ' s E hf X R
  refine Call_ (load_b X R G hg G.len (by decide) ?_)
  simp only [Eqn.ev_len] at hf
  split at hf
  · rename_i m σ₁ h1
    simp only [Option.map_eq_some_iff] at hf
    refine el12 (hf) fun vs hv hf => ?_
    (refine el02 (Prod.mk.inj hf) fun w26_0 w26_1 => ?_; clear hf; subst w26_0; subst w26_1)
    refine callWith_method1 (one_at p he h1 X R fun x s₁ ρ₁ st rx X₁ R₁ => ?_) (p.star _ _) rfl
    refine el12 (rep_lst rx) fun az28 qz28 hn => ?_
    subst qz28
    ·
      refine el34 (R₁.list hv) fun a cvs k ha hl hr hz => ?_
      rw [hn] at ha; (replace ha := Option.some.inj ha; subst ha)
      have hlen := hr.length
      refine call_len_list ⟨_, hl, rfl, k, rfl⟩ (by rw [List.size_toArray]; omega) ⟨⟨ρ₁, st.trans (Stp.toks R₁ _), ?_⟩, fun q => nomatch q⟩
      rw [List.size_toArray, <- hlen]
      exact .int _ _
  · rename_i m σ₁ h1
    simp only [Option.map_eq_some_iff] at hf
    refine el12 (hf) fun es hv hf => ?_
    (refine el02 (Prod.mk.inj hf) fun w39_0 w39_1 => ?_; clear hf; subst w39_0; subst w39_1)
    refine callWith_method1 (one_at p he h1 X R fun x s₁ ρ₁ st rx X₁ R₁ => ?_) (p.star _ _) rfl
    refine el12 (rep_dct rx) fun az41 qz41 hn => ?_
    subst qz41
    ·
      refine el25 (R₁.dict hv) fun a kvs ha hd hk hr hz => ?_
      rw [hn] at ha; (replace ha := Option.some.inj ha; subst ha)
      have hlen : es.length = kvs.length := by simpa using congrArg List.length hk
      refine call_len_dict (R₁.notSys (List.mem_of_getElem? hn)) hd (by omega) ⟨⟨ρ₁, st.trans (Stp.toks R₁ _), ?_⟩, fun q => nomatch q⟩
      rw [<- hlen]
      exact .int _ _
  · (exact no_so hf)
theorem snd_range1 {np pos : Pos} {e : Expr} {ce : CE} (G : Gl w HH fa mg mb) (hg : GlobIn c "range") (p : Plain e) (he : SndE HH d w e c (ev C n ce) false) :
    SndE HH d w (.Call (.Name "range" np) [e] [] pos) c (ev C (n + 1) (.range1 ce)) false := by
  intro A env frames ρ ls cv σ v σ' s E hf X R
  refine Call_ (load_b X R G hg G.range (by decide) ?_)
  simp only [Eqn.ev_range1] at hf
  split at hf
  · rename_i k σ₁ h1
    split at hf
    · rename_i htiny
      (refine some2 hf fun w60_0 w60_1 => ?_; clear hf; subst w60_0; subst w60_1)
      refine PyProof.Rows.callWith_type1 (one_at p he h1 X R fun x s₁ ρ₁ st rx X₁ R₁ => ?_) (p.star _ _) rfl
      refine el11 (rep_int rx) fun t qz62 => ?_
      subst qz62
      ·
        refine call_range_1 ⟨⟨ρ₁, st.trans (Stp.keeps R₁ _ (push_keeps _ _)), .rng (Heap.get?_push_size _ rfl) rfl htiny⟩, fun q => nomatch q⟩
    · (exact no_so hf)
  · (exact no_so hf)
theorem snd_range2 {np pos : Pos} {e f : Expr} {ce cf : CE} (G : Gl w HH fa mg mb) (hg : GlobIn c "range") (p : Plain e) (he : SndE HH d w e c (ev C n ce) false)
    (q : Plain f) (hF : SndE HH d w f c (ev C n cf) false) :
    SndE HH d w (.Call (.Name "range" np) [e, f] [] pos) c (ev C (n + 1) (.range2 ce cf)) false := by
  intro A env frames ρ ls cv σ v σ' s E hf X R
  refine Call_ (load_b X R G hg G.range (by decide) ?_)
  simp only [Eqn.ev_range2] at hf
  refine cpf fun rq => ?_
  split at hf
  · rename_i i σ₁ h1
    split at hf
    · rename_i j σ₂ h2
      split at hf
      · rename_i htiny
        refine el02 (Bool.and_eq_true_iff.mp htiny) fun ht1 ht2 => ?_
        (refine some2 hf fun w81_0 w81_1 => ?_; clear hf; subst w81_0; subst w81_1)
        refine rq ?_
        refine PyProof.Rows.callWith_type1 (wpAny_items_cons (he.then h1 X R fun x s₁ ρ₁ st rx X₁ R₁ _ => one_at q hF h2 X₁ R₁ fun y s₂ ρ₂ st₂ ry X₂ R₂ => ?_) (p.star _ _)) (p.star _ _) (by rw [q.star]; rfl)
        refine el11 (rep_int rx) fun t qz85 => ?_
        subst qz85
        ·
          refine el11 (rep_int ry) fun u qz87 => ?_
          subst qz87
          ·
            refine call_range_2 ⟨⟨ρ₂, (st.trans st₂).trans (Stp.keeps R₂ _ (push_keeps _ _)), .rng (Heap.get?_push_size _ rfl) ht1 ht2⟩, fun q => nomatch q⟩
      · (exact no_so hf)
    · (exact no_so hf)
  · (exact no_so hf)
theorem snd_mkdict {np pos : Pos} {e : Expr} {ce : CE} (G : Gl w HH fa mg mb) (hg : GlobIn c "dict") (p : Plain e) (he : SndE HH d w e c (ev C n ce) false) :
    SndE HH d w (.Call (.Name "dict" np) [e] [] pos) c (ev C (n + 1) (.mkdict ce)) false := by
  intro A env frames ρ ls cv σ v σ' s E hf X R
  refine Call_ (load_b X R G hg G.dict (by decide) ?_)
  simp only [Eqn.ev_mkdict'] at hf
  refine cpf fun rq => ?_
  split at hf
  · rename_i m σ₁ h1
    split at hf
    · rename_i ps hps
      (refine some2 hf fun w101_0 w101_1 => ?_; clear hf; subst w101_0; subst w101_1)
      refine el12 (Option.bind_eq_some_iff.mp hps) fun vs hv hp => ?_
      refine rq ?_
      refine PyProof.Rows.callWith_type1 (one_at p he h1 X R fun x s₁ ρ₁ st rx X₁ R₁ => ?_) (p.star _ _) rfl
      refine el12 (rep_lst rx) fun az108 qz108 hn => ?_
      subst qz108
      · exact wpAny_mono (G.mkdict X.handled X.units1000 R₁ hn hv hp) (fun y s₂ ⟨ρ₂, st₂, ry⟩ => ⟨⟨ρ₂, st.trans st₂, ry⟩, fun q => nomatch q⟩) fun _ _ q => q
    · (exact no_so hf)
  · (exact no_so hf)
theorem snd_mklist {np pos : Pos} {e : Expr} {ce : CE} (G : Gl w HH fa mg mb) (hg : GlobIn c "list") (p : Plain e) (he : SndE HH d w e c (ev C n ce) false) :
    SndE HH d w (.Call (.Name "list" np) [e] [] pos) c (ev C (n + 1) (.mklist ce)) false := by
  intro A env frames ρ ls cv σ v σ' s E hf X R
  refine Call_ (load_b X R G hg G.list (by decide) ?_)
  simp only [Eqn.ev_mklist] at hf
  split at hf
  · rename_i m σ₁ h1
    simp only [Option.map_eq_some_iff] at hf
    refine el12 (hf) fun vs hv hf => ?_
    (refine el02 (Prod.mk.inj hf) fun w118_0 w118_1 => ?_; clear hf; subst w118_0; subst w118_1)
    refine PyProof.Rows.callWith_type1 (one_at p he h1 X R fun x s₁ ρ₁ st rx X₁ R₁ => ?_) (p.star _ _) rfl
    refine el12 (rep_lst rx) fun az124 qz124 hn => ?_
    subst qz124
    ·
      refine el34 (R₁.list hv) fun a cvs k ha hl hr hz => ?_
      rw [hn] at ha; (replace ha := Option.some.inj ha; subst ha)
      have hlen := hr.length
      refine call_list_seq _ (.inl rfl) hl rfl rfl (fun h' c' hk hD => ?_) (by rw [List.size_toArray, sizeLine_eq]; (exact om146 hlen hz))
      have stp : Stp HH w [] ρ₁ s₁ (ρ₁ ++ [s₁.heap.objs.size]) (σ₁ ++ [.list vs]) { s₁ with heap := h' } :=
        ⟨⟨_, _, rfl⟩, Evo.snoc hk (get_size _), R₁.snoc hk (get_size _) R₁.big (.list (n := c') hD (RepVs.mono' (List.prefix_append _ _) (fun a o e _ => hk a o e) hr) hz)⟩
      exact ⟨⟨_, st.trans stp, .lst (by rw [<- R₁.len]; simp)⟩, fun q => nomatch q⟩
  · (exact no_so hf)
theorem snd_newflow {np pos : Pos} (G : Gl w HH fa mg mb) (hg : GlobIn c "Flow") :
    SndE HH (d + 1) w (.Call (.Name "Flow" np) [] [] pos) c (ev C (n + 1) .newflow) false := by
  intro A env frames ρ ls cv σ v σ' s E hf X R
  refine Call_ (load_g X R G hg G.flow (by decide) ?_)
  simp only [Eqn.ev_newflow] at hf
  (refine some2 hf fun w136_0 w136_1 => ?_; clear hf; subst w136_0; subst w136_1)
  refine callWith_of (P := fun h => HH.StaysIn h) rfl (fun h hh => G.fcls _ h hh) (evalArgs_nil3 ⟨R.stays, ?_⟩)
  exact wpAny_mono (G.newflow X.call R) (fun y s₂ h => ⟨h, fun q => nomatch q⟩) fun _ _ q => q
theorem RepVs.append' {ρ : List Addr} {vs : List V} {xs : List Value} {v : V} {x : Value} (a : RepVs HH ρ h vs xs) (b : RepV HH ρ h v x) : RepVs HH ρ h (vs ++ [v]) (xs ++ [x]) := RepVs.append (.cons b .nil) a
theorem meth_eq {o : Expr} {name : Str} {apos pos : Pos} {args : List Expr} (hb : baseOk o = true) (hl : (apos.endLine == pos.line) = true) (hargs : (backTo pos (starEach args env)).all (!·.1) = true) (hn : args.length < 20) :
    eval (.Call (.Attribute o name apos) args [] pos) env = (do
      let ov <- eval o env
      standAt apos.atName
      let (f, first) <- holding [ov] (getMethod ov name (do return (<- importBound o env).getD true))
      callWith pos f first (backTo pos (starEach args env)) []) := by
  have hb' : attributeBase o name env (eval o env) = eval o env := by
    induction o using Expr.casesOn <;> first | rfl | exact Bool.noConfusion hb
  have hf : methodCallForm (args.length + 0) (backTo pos (starEach args env)) [] = true := by
    unfold methodCallForm
    rw [hargs]
    simp; (exact om174 hn)
  rw [arm_eval_Call, hb']
  show (do
    let ov <- eval o env
    standAt apos.atName
    methodCall o name apos pos env ov (args.length + 0) (backTo pos (starEach args env)) []) = _
  unfold methodCall
  rw [hf]
  have hp : methodCallPos true o env apos pos = pure pos := by
    unfold methodCallPos
    rw [hl]; rfl
  rw [hp]
  rfl
theorem snd_sorted {np pos kp pp : Pos} {k : Nat} {e : Expr} {ce : CE} (G : Gl w HH fa mg mb) (hg : GlobIn c "sorted") (p : Plain e) (he : SndE HH d w e c (ev C n ce) false) :
    SndE HH d w (.Call (.Name "sorted" np) [e] [⟨some "reverse", .Constant (.bool true) k kp, pp⟩] pos) c (ev C (n + 1) (.sorted ce)) false := by
  intro A env frames ρ ls cv σ v σ' s E hf X R
  refine wpAny_Call_Name_kw (load_b X R G hg G.sorted (by decide) ?_)
  simp only [Eqn.ev_sorted'] at hf
  refine cpf fun rq => ?_
  split at hf
  · rename_i m σ₁ h1
    split at hf
    · rename_i es hv
      split at hf
      · rename_i hz
        (refine some2 hf fun w179_0 w179_1 => ?_; clear hf; subst w179_0; subst w179_1)
        refine rq ?_
        refine callWith_kw (one_at p he h1 X R fun x s₁ ρ₁ st rx X₁ R₁ => ?_) (by show backTo pos (starEach [e] env) = _; rw [p.star]; rfl) (by rw [p.star]; rfl) rfl rfl
        show wpAny _ _ (evalAll [do let v <- eval (.Constant (.bool true) k kp) env; standAt pos; pure v]) _ _ _
        refine wpAny_evalAll_cons (wpAny_bind (wpAny_Constant_bool (wpAny_bind (wpAny_standAt (wpAny_pure (wpAny_evalAll_nil ?_))))))
        refine el12 (rep_dct rx) fun az189 qz189 hn => ?_
        subst qz189
        · exact wpAny_mono (G.sortD X.handled X.units1000 R₁ hn hv hz) (fun y s₂ ⟨ρ₂, st₂, ry⟩ => ⟨⟨ρ₂, st.trans st₂, ry⟩, fun q => nomatch q⟩) fun _ _ q => q
      · (exact no_so hf)
    · (exact no_so hf)
  · (exact no_so hf)
theorem snd_app {o x : Expr} {apos pos : Pos} {co cx : CE} (hb : baseOk o = true) (hl : (apos.endLine == pos.line) = true) (ho : SndE HH d w o c (ev C n co) false) (p : Plain x) (hx : SndE HH d w x c (ev C n cx) false) :
    SndE HH d w (.Call (.Attribute o "append" apos) [x] [] pos) c (ev C (n + 1) (.app co cx)) false := by
  intro A env frames ρ ls cv σ v σ' s E hf X R
  simp only [Eqn.ev_app] at hf
  refine cpf fun rq => ?_
  split at hf
  · rename_i m σ₁ h1
    split at hf
    · rename_i hs
      refine el11 (Option.isSome_iff_exists.mp hs) fun ws hws => ?_
      split at hf
      · rename_i v₂ σ₂ h2
        split at hf
        · rename_i vs hv
          split at hf
          · rename_i hz
            (refine some2 hf fun w204_0 w204_1 => ?_; clear hf; subst w204_0; subst w204_1)
            refine rq ?_
            refine MethodCall_ (pl := do return (<- importBound o env).getD true) (ho.then h1 X R fun y s₁ ρ₁ st ry X₁ R₁ _ => ?_) (meth_eq hb hl (by rw [p.star]; rfl) (by simp))
            refine el12 (rep_lst ry) fun a qz214 hn => ?_
            subst qz214
            ·
              refine el34 (R₁.list hws) fun a1 cvs1 k1 ha1 hL _ _ => ?_
              rw [hn] at ha1; (replace ha1 := Option.some.inj ha1; subst ha1)
              refine getMethod_list_of PySem.F.slot_list_append PySem.F.type_list_append ⟨_, hL, rfl, k1, rfl⟩ ⟨_, hL, rfl⟩ ?_
              have e1 : backTo pos (starEach [x] env) = [(false, eval x env)] := by rw [p.star]; rfl
              dsimp only
              rw [e1]
              refine PySem.P.append_list (hx.then h2 X₁ R₁ fun z s₂ ρ₂ st₂ rz X₂ R₂ _ => ?_)
              refine el34 (R₂.list hv) fun a' cvs k' ha' hl' hr hz' => ?_
              have hn₂ := pre_get st₂.2.1.pre hn
              rw [hn₂] at ha'; (replace ha' := Option.some.inj ha'; subst ha')
              have hlen := hr.length
              have hL4 : LIM = 4096 := rfl
              refine ⟨cvs.toArray, k', by rw [List.size_toArray, sizeLine_eq]; (exact om146 hlen hz'), hl', ?_⟩
              have hup := IsL.update hl' (fun xs => xs.push z)
              have hfix : ∀ b o, s₂.heap.get? b = some o -> Fix o -> (s₂.heap.update a (Obj.mapSeq fun xs => xs.push z)).get? b = some o := fun b o e f => by
                by_cases q : b = a
                · subst q; rw [hl'] at e; (replace e := Option.some.inj e; subst e); rcases f with f | f | f <;> simp at f
                · exact ((Heap.SameBut.update _ _ _).2 b q).trans e
              have ho' : ObjRep HH w ρ₂ (s₂.heap.update a (Obj.mapSeq fun xs => xs.push z)) a (.list (vs ++ [v₂])) :=
                .list (cvs := cvs ++ [z]) (by simpa using hup) (RepVs.append' (RepVs.mono' (List.prefix_refl _) hfix hr) (RepV.mono' (List.prefix_refl _) hfix rz)) (by rw [List.length_append]; simp; (exact om175 hz hL4))
              have hsb : Heap.SameBut a s₂.heap (s₂.heap.update a (Obj.mapSeq fun xs => xs.push z)) := Heap.SameBut.update _ _ _
              have stp : Stp HH w [] ρ₂ s₂ ρ₂ (σ₂.set m (.list (vs ++ [v₂]))) { s₂ with heap := s₂.heap.update a (Obj.mapSeq fun xs => xs.push z) } :=
                ⟨⟨_, _, rfl⟩, R₂.evoSet (List.mem_of_getElem? hn₂) hsb hup, R₂.set hn₂ hsb ho'⟩
              exact ⟨⟨ρ₂, (st.trans st₂).trans stp, .none⟩, fun q => nomatch q⟩
          · (exact no_so hf)
        · (exact no_so hf)
      · (exact no_so hf)
    · (exact no_so hf)
  · (exact no_so hf)
theorem snd_pop {o : Expr} {apos pos : Pos} {co : CE} (hb : baseOk o = true) (hl : (apos.endLine == pos.line) = true) (ho : SndE HH d w o c (ev C n co) false) :
    SndE HH d w (.Call (.Attribute o "pop" apos) [] [] pos) c (ev C (n + 1) (.pop co)) false := by
  intro A env frames ρ ls cv σ v σ' s E hf X R
  simp only [Eqn.ev_pop] at hf
  refine cpf fun rq => ?_
  split at hf
  · rename_i m σ₁ h1
    split at hf
    · rename_i vs hv
      split at hf
      · rename_i v₂ hlast
        (refine some2 hf fun w248_0 w248_1 => ?_; clear hf; subst w248_0; subst w248_1)
        refine rq ?_
        refine MethodCall_ (pl := do return (<- importBound o env).getD true) (ho.then h1 X R fun y s₁ ρ₁ st ry X₁ R₁ _ => ?_) (meth_eq hb hl rfl (by simp))
        refine el12 (rep_lst ry) fun a qz260 hn => ?_
        subst qz260
        ·
          refine el34 (R₁.list hv) fun a1 cvs k1 ha1 hL hr hz => ?_
          rw [hn] at ha1; (replace ha1 := Option.some.inj ha1; subst ha1)
          have hlen := hr.length
          refine getMethod_list_of PySem.F.slot_list_pop PySem.F.type_list_pop ⟨_, hL, rfl, k1, rfl⟩ ⟨_, hL, rfl⟩ ?_
          rw [List.getLast?_eq_getElem?] at hlast
          refine el12 (hr.get hlast) fun z hz' rz => ?_
          dsimp only
          show wpAny _ _ (callWith pos (.builtin "list.pop") [.ref a] [] []) _ _ _
          have hup := IsL.update hL (fun xs => xs.eraseIdxIfInBounds (cvs.toArray.size - 1))
          have he : cvs.toArray.eraseIdxIfInBounds (cvs.toArray.size - 1) = cvs.dropLast.toArray := by
            rw [List.eraseIdxIfInBounds_toArray]
            simp []
          refine PySem.P.pop_list hL (y := z) (by rw [List.size_toArray, List.getElem?_toArray, <- hlen]; exact hz') ?_ (by rw [List.size_toArray, sizeLine_eq]; (exact om146 hlen hz))
          have hfix : ∀ b o, s₁.heap.get? b = some o -> Fix o -> (s₁.heap.update a (Obj.mapSeq fun xs => xs.eraseIdxIfInBounds (cvs.toArray.size - 1))).get? b = some o := fun b o e f => by
            by_cases q : b = a
            · subst q; rw [hL] at e; (replace e := Option.some.inj e; subst e); rcases f with f | f | f <;> simp at f
            · exact ((Heap.SameBut.update _ _ _).2 b q).trans e
          have ho' : ObjRep HH w ρ₁ (s₁.heap.update a (Obj.mapSeq fun xs => xs.eraseIdxIfInBounds (cvs.toArray.size - 1))) a (.list vs.dropLast) :=
            .list (cvs := cvs.dropLast) (he ▸ hup) (RepVs.mono' (List.prefix_refl _) hfix hr.dropLast) (by rw [List.length_dropLast]; (exact om173 hz))
          have hsb : Heap.SameBut a s₁.heap (s₁.heap.update a (Obj.mapSeq fun xs => xs.eraseIdxIfInBounds (cvs.toArray.size - 1))) := Heap.SameBut.update _ _ _
          have stp : Stp HH w [] ρ₁ s₁ ρ₁ (σ₁.set m (.list vs.dropLast)) { s₁ with heap := s₁.heap.update a (Obj.mapSeq fun xs => xs.eraseIdxIfInBounds (cvs.toArray.size - 1)) } :=
            ⟨⟨_, _, rfl⟩, R₁.evoSet (List.mem_of_getElem? hn) hsb hup, R₁.set hn hsb ho'⟩
          exact ⟨⟨ρ₁, st.trans stp, RepV.mono' (List.prefix_refl _) hfix rz⟩, fun q => nomatch q⟩
      · (exact no_so hf)
    · (exact no_so hf)
  · (exact no_so hf)
theorem snd_get2 {o x y : Expr} {apos pos : Pos} {co cx cy : CE} (hb : baseOk o = true) (hl : (apos.endLine == pos.line) = true) (ho : SndE HH d w o c (ev C n co) false) (p : Plain x) (hx : SndE HH d w x c (ev C n cx) false)
    (q : Plain y) (hy : SndE HH d w y c (ev C n cy) false) :
    SndE HH d w (.Call (.Attribute o "get" apos) [x, y] [] pos) c (ev C (n + 1) (.get2 co cx cy)) false := by
  intro A env frames ρ ls cv σ v σ' s E hf X R
  simp only [Eqn.ev_get2'] at hf
  refine cpf fun rq => ?_
  split at hf
  · rename_i m σ₁ h1
    split at hf
    · rename_i hs
      refine el11 (Option.isSome_iff_exists.mp hs) fun ws hws => ?_
      split at hf
      · rename_i i σ₂ h2
        split at hf
        · rename_i w₃ σ₃ h3
          simp only [Option.map_eq_some_iff] at hf
          refine el12 (hf) fun es hv hf => ?_
          (refine el02 (Prod.mk.inj hf) fun w295_0 w295_1 => ?_; clear hf; subst w295_0; subst w295_1)
          refine rq ?_
          refine MethodCall_ (pl := do return (<- importBound o env).getD true) (ho.then h1 X R fun z s₁ ρ₁ st rz X₁ R₁ _ => ?_) (meth_eq hb hl (by rw [p.star, q.star]; rfl) (by simp))
          refine el12 (rep_dct rz) fun a qz309 hn => ?_
          subst qz309
          ·
            refine el25 (R₁.dict hws) fun a1 kvs1 ha1 hD _ _ _ => ?_
            rw [hn] at ha1; (replace ha1 := Option.some.inj ha1; subst ha1)
            have hD' := hD
            refine el33 (hD') fun ob es' ep hob hex _ => ?_
            refine getMethod_builtin hD.typeIs PySem.F.plainAttrs_dict PySem.F.slot_dict_get PySem.F.type_dict_get (fun b e => by (replace e := PySem.Value.ref.inj e; subst e); exact ⟨ob, hob, hex.2.1⟩) ?_
            have e1 : backTo pos (starEach [x, y] env) = [(false, eval x env), (false, eval y env)] := by rw [p.star, q.star]; rfl
            dsimp only
            rw [e1]
            refine wpAny_dict_get2 (K := Int) (knd := intKind prog w) (R₁.notSys (List.mem_of_getElem? hn)) (hx.then h2 X₁ R₁ fun kx s₂ ρ₂ st₂ rk X₂ R₂ _ => hy.then h3 X₂ R₂ fun dy s₃ ρ₃ st₃ rd X₃ R₃ _ => ?_)
            refine el11 (rep_int rk) fun t qz320 => ?_
            subst qz320
            ·
              refine el25 (R₃.dict hv) fun a2 kvs ha2 hD2 hk hr _ => ?_
              have hn₃ := pre_get st₃.2.1.pre (pre_get st₂.2.1.pre hn)
              rw [hn₃] at ha2; (replace ha2 := Option.some.inj ha2; subst ha2)
              refine ⟨i, valueAt kvs, intKind_is prog w i t, hD2.mapOf, ⟨ρ₃, ((st.trans st₂).trans st₃).trans (Stp.toks R₃ _), ?_⟩, fun q => nomatch q⟩
              cases e : lookI es i with
              | none => rw [look_none hk hr e]; exact rd
              | some u => obtain ⟨z, hz, rz⟩ := look_some hk hr e; rw [hz]; exact rz
        · cases hf
      · cases hf
    · cases hf
  · cases hf
end
end
end Mine
end
section
open PySem PySem.W PySem.Calls PyProof.Rows
namespace Mine
noncomputable section
section
variable {HH : Heap} {fa : Nat -> Addr} {mg mb : Str -> Option Value} {w : World} {A : Around} {E : Value -> Shared -> Prop} {ρ ρ₀ own : List Addr} {s : Shared} {σ σ' τ : Sto} {h h' hb : Heap} {C : Calls} {n d : Nat} {c : CEnv} {env : Env} {frames : List Env} {ls : Ls} {cv : Option V} {a : Addr}
structure Hid (hb : Heap) (ρ : List Addr) (h : Heap) (a : Addr) : Prop where
  new : hb.get? a = none
  out : a ∉ ρ
  nfix : ∀ o, h.get? a = some o -> ¬ Fix o
theorem Evo.hidden (x : Evo own ρ₀ hb ρ h) (hs : Heap.ExtBut a h h') (hn : hb.get? a = none) : Evo own ρ₀ hb ρ h' where
  pre := x.pre
  fresh := x.fresh
  live := fun b o e => by
    have q : b ≠ a := fun q => by subst q; (replace e := Eq.trans (Eq.symm (hn ..)) (e)); (exact no_so e)
    refine el11 (x.live b o e) fun o' e' => ?_
    exact ⟨o', hs b o' q e'⟩
  keep := fun b o e h1 h2 => hs b o (fun q => by subst q; (replace e := Eq.trans (Eq.symm (hn ..)) (e)); (exact no_so e)) (x.keep b o e h1 h2)
  fix := fun b o e f => hs b o (fun q => by subst q; (replace e := Eq.trans (Eq.symm (hn ..)) (e)); (exact no_so e)) (x.fix b o e f)
theorem Hid.fix (x : Hid hb ρ h a) (hs : Heap.ExtBut a h h') : ∀ b o, h.get? b = some o -> Fix o -> h'.get? b = some o := fun b o e f =>
  hs b o (fun q => by subst q; exact x.nfix o e f) e
theorem HeapRep.hidden (R : HeapRep HH w ρ h τ) (x : Hid hb ρ h a) (hs : Heap.ExtBut a h h') (hH : HH.StaysIn hb) : HeapRep HH w ρ h' τ := by
  have hHa : HH.get? a = none := by
    cases e : HH.get? a with
    | none => rfl
    | some o => have := hH _ _ e; (replace this := Eq.trans (Eq.symm (x.new ..)) (this)); cases this
  exact R.keeps (fun b hb' o e => hs b o (fun q => by subst q; exact x.out hb') e) (x.fix hs) fun b o e => hs b o (fun q => by subst q; (replace e := Eq.trans (Eq.symm (hHa ..)) (e)); cases e) (R.stays b o e)
theorem Hid.step {ρ' : List Addr} (x : Hid hb ρ h a) (e : Evo own ρ h ρ' h') (ho : a ∉ own) (ha : ∃ o, h.get? a = some o) : Hid hb ρ' h' a /\ ∀ o, h.get? a = some o -> h'.get? a = some o := by
  have k : ∀ o, h.get? a = some o -> h'.get? a = some o := fun o q => e.keep a o q ho x.out
  refine el11 (ha) fun o ho' => ?_
  refine ⟨⟨x.new, e.mem ho' x.out, fun o' q f => ?_⟩, k⟩
  rw [k o ho'] at q; (replace q := Option.some.inj q; subst q)
  exact x.nfix o ho' f
theorem Hid.other {b : Addr} (x : Hid hb ρ h a) (hs : Heap.ExtBut b h h') (hne : a ≠ b) (ha : ∃ o, h.get? a = some o) : Hid hb ρ h' a /\ ∀ o, h.get? a = some o -> h'.get? a = some o := by
  have k : ∀ o, h.get? a = some o -> h'.get? a = some o := fun o q => hs a o hne q
  refine el11 (ha) fun o ho' => ?_
  refine ⟨⟨x.new, x.out, fun o' q f => ?_⟩, k⟩
  rw [k o ho'] at q; (replace q := Option.some.inj q; subst q)
  exact x.nfix o ho' f
noncomputable def IterAt (v : V) (rev : Bool) (len : Nat) (ρ : List Addr) (I : Addr) (j : Nat) (h : Heap) : Prop := match v, rev with
  | .lst n, false => ∃ a, ρ[n]? = some a /\ h.IsListIter I a j
  | .lst n, true => ∃ a, ρ[n]? = some a /\ h.IsRevIter I a ((len : Int) - 1 - j)
  | .rng lo hi, false => IsRangeIter h I (lo + j) (((hi - lo).toNat : Int) - j) 1
  | _, _ => False
theorem IterAt.move {v : V} {rev : Bool} {len : Nat} {I : Addr} {j : Nat} {ρ' : List Addr} (x : IterAt v rev len ρ I j h) (hp : ρ <+: ρ') (k : ∀ o, h.get? I = some o -> h'.get? I = some o) : IterAt v rev len ρ' I j h' := by
  induction v using V.casesOn with
  | lst n =>
    induction rev using Bool.casesOn with
    | false => obtain ⟨a, ha, o, ho, r⟩ := x; exact ⟨a, pre_get hp ha, o, k _ ho, r⟩
    | true => obtain ⟨a, ha, o, ho, r⟩ := x; exact ⟨a, pre_get hp ha, o, k _ ho, r⟩
  | rng =>
    induction rev using Bool.casesOn with
    | false => exact k _ x
    | true => exact False.elim x
  | _ => exact False.elim x
theorem IterAt.there {v : V} {rev : Bool} {len : Nat} {I : Addr} {j : Nat} (x : IterAt v rev len ρ I j h) : (∃ o, h.get? I = some o) /\ ∀ o, h.get? I = some o -> ¬ Fix o := by
  induction v using V.casesOn with
  | lst n =>
    induction rev using Bool.casesOn with
    | false => obtain ⟨a, ha, o, ho, hc, hd⟩ := x; exact ⟨⟨o, ho⟩, fun o' e f => by rw [ho] at e; (replace e := Option.some.inj e; subst e); rcases f with f | f | f <;> simp [hc, hd] at f⟩
    | true => obtain ⟨a, ha, o, ho, hc, hd⟩ := x; exact ⟨⟨o, ho⟩, fun o' e f => by rw [ho] at e; (replace e := Option.some.inj e; subst e); rcases f with f | f | f <;> simp [hc, hd] at f⟩
  | rng =>
    induction rev using Bool.casesOn with
    | false => exact ⟨⟨_, x⟩, fun o' e f => by rw [x] at e; (replace e := Option.some.inj e; subst e); rcases f with f | f | f <;> simp at f⟩
    | true => exact False.elim x
  | _ => exact False.elim x
theorem iter_step {v u : V} {rev : Bool} {I : Addr} {j : Nat} {items : List V} {Q : Option Value -> Shared -> Prop} (R : HeapRep HH w ρ s.heap τ) (hi : itemsOf v τ = some items)
    (x : IterAt v rev items.length ρ I j s.heap) (hu : (if rev then items.reverse else items)[j]? = some u)
    (hQ : ∀ y h' tk, IterAt v rev items.length ρ I (j + 1) h' -> Heap.ExtBut I s.heap h' -> RepV HH ρ s.heap u y -> Q (some y) { s with heap := h', toks := tk }) :
    wpAny (model prog w) A (pyNext (.ref I)) Q E s := by
  refine cpf fun rq => ?_
  induction v using V.casesOn with
  | lst m =>
    simp only [Eqn.itemsOf_1] at hi
    refine el34 (R.list hi) fun a cvs k ha hl hr _ => ?_
    have hlen := hr.length
    induction rev using Bool.casesOn with
    | false =>
      refine el12 (x) fun a' ha' hit => ?_
      rw [ha] at ha'; (replace ha' := Option.some.inj ha'; subst ha')
      refine el12 (hr.get (k := j) (by simpa using hu)) fun y hy ry => ?_
      refine rq ?_
      exact wpAny_pyNext_list_item hit ⟨_, hl, rfl, k, rfl⟩ (by simpa using hy) fun h' hit' hs => hQ y h' s.toks ⟨a, ha, hit'⟩ hs.extBut ry
    | true =>
      refine el12 (x) fun a' ha' hit => ?_
      rw [ha] at ha'; (replace ha' := Option.some.inj ha'; subst ha')
      rw [if_pos rfl] at hu
      have hj : j < items.length := by simpa using (List.getElem?_eq_some_iff.mp hu).1
      rw [List.getElem?_reverse hj] at hu
      refine el12 (hr.get hu) fun y hy ry => ?_
      have e : ((items.length : Int) - 1 - (j : Int)) = ((items.length - 1 - j : Nat) : Int) := by (exact om127 hj)
      rw [e] at hit
      refine rq ?_
      refine wpAny_pyNext_rev_item hit ⟨_, hl, rfl, k, rfl⟩ (by simpa using hy) fun h' hit' hs => hQ y h' s.toks ⟨a, ha, ?_⟩ hs.extBut ry
      have e' : ((items.length - 1 - j : Nat) : Int) - 1 = (items.length : Int) - 1 - ((j + 1 : Nat) : Int) := by (exact om128 e)
      rw [<- e']; exact hit'
  | rng lo hi' =>
    induction rev using Bool.casesOn with
    | true => refine rq ?_; exact x.elim
    | false =>
      simp only [Eqn.itemsOf_2, Option.some.injEq] at hi
      subst hi
      rw [if_neg (by decide)] at hu
      simp only [List.getElem?_map, Option.map_eq_some_iff] at hu
      refine el12 (hu) fun i hi1 q105_2 => ?_
      subst q105_2
      refine el11 (List.getElem?_eq_some_iff.mp hi1) fun h1 h2 => ?_
      simp at h1 h2
      subst h2
      have x : IsRangeIter s.heap I (lo + j) (((hi' - lo).toNat : Int) - j) 1 := x
      refine rq ?_
      refine wpAny_pyNext_range_item x (by (exact om129 h1)) fun h' hit' hs => hQ _ h' _ ?_ hs.extBut (.int _ _)
      show IsRangeIter h' I (lo + ((j + 1 : Nat) : Int)) (((hi' - lo).toNat : Int) - ((j + 1 : Nat) : Int)) 1
      have e1 : lo + (j : Int) + 1 = lo + ((j + 1 : Nat) : Int) := by (exact om130)
      have e2 : ((hi' - lo).toNat : Int) - (j : Int) - 1 = ((hi' - lo).toNat : Int) - ((j + 1 : Nat) : Int) := by (exact om131)
      rw [<- e1, <- e2]; exact hit'
  | _ => refine rq ?_; exact no_so hi
theorem iter_end {v : V} {rev : Bool} {I : Addr} {j : Nat} {items : List V} {Q : Option Value -> Shared -> Prop} (hh : A.handled = none) (R : HeapRep HH w ρ s.heap τ) (hi : itemsOf v τ = some items)
    (x : IterAt v rev items.length ρ I j s.heap) (hj : j = items.length) (hQ : ∀ h', Heap.ExtBut I s.heap h' -> Q none { s with heap := h' }) :
    wpAny (model prog w) A (pyNext (.ref I)) Q E s := by
  refine cpf fun rq => ?_
  induction v using V.casesOn with
  | lst m =>
    simp only [Eqn.itemsOf_1] at hi
    refine el34 (R.list hi) fun a cvs k ha hl hr _ => ?_
    have hlen := hr.length
    induction rev using Bool.casesOn with
    | false =>
      refine el12 (x) fun a' ha' hit => ?_
      rw [ha] at ha'; (replace ha' := Option.some.inj ha'; subst ha')
      refine rq ?_
      exact wpAny_pyNext_list_end hh hit ⟨_, hl, rfl, k, rfl⟩ (by simp; (exact om132 hj hlen)) hQ
    | true =>
      refine el12 (x) fun a' ha' hit => ?_
      have e : ((items.length : Int) - 1 - (j : Int)) = -1 := by (exact om133 hj)
      rw [e] at hit
      refine rq ?_
      exact wpAny_pyNext_rev_end hh hit hQ
  | rng lo hi' =>
    induction rev using Bool.casesOn with
    | true => refine rq ?_; exact x.elim
    | false =>
      simp only [Eqn.itemsOf_2, Option.some.injEq] at hi
      subst hi
      have x : IsRangeIter s.heap I (lo + j) (((hi' - lo).toNat : Int) - j) 1 := x
      simp at hj
      refine rq ?_
      exact wpAny_pyNext_range_end hh x (by (exact om134 hj)) hQ
  | _ => refine rq ?_; exact no_so hi
theorem iter_start {v : V} {y : Value} {items : List V} {Q : Value -> Shared -> Prop} (R : HeapRep HH w ρ s.heap τ) (ry : RepV HH ρ s.heap v y) (hi : itemsOf v τ = some items)
    (hQ : ∀ o, IterAt v false items.length ρ s.heap.objs.size 0 (s.heap.push o) -> Q (.ref s.heap.objs.size) { s with heap := s.heap.push o }) :
    wpAny (model prog w) A (pyIter y) Q E s := by
  cases ry with
  | lst hn =>
    simp only [Eqn.itemsOf_1] at hi
    refine el34 (R.list hi) fun a cvs k ha hl hr _ => ?_
    (replace ha := Eq.trans (Eq.symm (hn ..)) (ha)); (replace ha := Option.some.inj ha; subst ha)
    exact wpAny_pyIter_list ⟨_, hl, rfl, k, rfl⟩ (hQ _ ⟨_, hn, ⟨_, Heap.get?_push_size _ rfl, rfl, rfl⟩⟩)
  | rng hr h1 h2 =>
    refine el02 (tiny_of h1) fun a1 a2 => ?_
    refine el02 (tiny_of h2) fun b1 b2 => ?_
    simp only [Eqn.itemsOf_2, Option.some.injEq] at hi
    subst hi
    refine wpAny_pyIter_range hr (small_one (by omega) (by omega) (by omega) (by omega)) (hQ _ ?_)
    show IsRangeIter _ _ _ _ _
    rw [rangeSize_one]
    rename_i lo hi' _ _ _ _
    have e : (lo + ((0 : Nat) : Int)) = lo := by (exact om137)
    rw [e]
    have e2 : (((hi' - lo).toNat : Int) - ((0 : Nat) : Int)) = (((hi' - lo).toNat : Nat) : Int) := by (rfl)
    have e3 : (if lo < hi' then hi' - lo else 0) = (((hi' - lo).toNat : Nat) : Int) := by split <;> omega
    rw [e2, e3]
    exact Heap.get?_push_size _ rfl
  | _ => exact no_so hi
end
end
end Mine
end
section
open PySem PySem.W PySem.Calls PyProof.Rows
namespace Mine
noncomputable section
section
variable {HH : Heap} {fa : Nat -> Addr} {mg mb : Str -> Option Value} {w : World} {A : Around} {E : Value -> Shared -> Prop} {ρ ρ₀ own : List Addr} {s : Shared} {σ σ' τ : Sto} {h h' hb : Heap} {C : Calls} {n d : Nat} {c ci : CEnv} {env : Env} {frames : List Env} {ls : Ls} {cv : Option V} {a : Addr}
noncomputable def closOf (env : Env) : List (Str × NameKind) -> List (Str × Addr) -> List (Str × Addr)
  | [], acc => acc
  | (y, k) :: r, acc => if k == .free then (match env.cells.lookup y with | some ca => closOf env r ((y, ca) :: acc) | none => closOf env r acc) else closOf env r acc
theorem closOf_c {env : Env} {y k r acc} : closOf env ((y, k) :: r) acc = if k == .free then (match env.cells.lookup y with | some ca => closOf env r ((y, ca) :: acc) | none => closOf env r acc) else closOf env r acc := rfl
theorem closure_eq {scope : Scope} (hc : ∀ y ∈ scope.names, y.2 = .free -> ∃ ca, env.cells.lookup y.1 = some ca) : closureFor scope env = pure (closOf env scope.names []) := by
  have key : ∀ (l : List (Str × NameKind)) (acc : List (Str × Addr)), (∀ y ∈ l, y.2 = .free -> ∃ ca, env.cells.lookup y.1 = some ca) ->
      (forIn l acc fun x r => match x with
        | (name, kind) => if (kind == NameKind.free) = true then (do let c <- cellOf env name; pure (ForInStep.yield ((name, c) :: r))) else (pure (ForInStep.yield r) : Sem (ForInStep (List (Str × Addr))))) = (pure (closOf env l acc) : Sem _) := by
    intro l
    induction l with
    | nil => intro acc _; rfl
    | cons x l ih =>
      intro acc h
      obtain ⟨y, k⟩ := x
      (refine Eq.trans (List.forIn_cons ..) ?_)
      by_cases hk : (k == NameKind.free) = true
      · refine el11 (h (y, k) (.head _) (by simpa using hk)) fun ca hca => ?_
        have e : cellOf env y = pure ca := by unfold cellOf; rw [hca]
        simp only [hk, if_true, e, closOf_c, hca]
        exact ih _ fun z hz => h z (.tail _ hz)
      · simp only [hk, closOf_c]
        exact ih _ fun z hz => h z (.tail _ hz)
  unfold closureFor
  have := key scope.names [] hc
  show (forIn scope.names ([] : List (Str × Addr)) _ >>= fun r => pure r) = _
  rw [this]; rfl
theorem clos_sound {y : Str} {ca : Addr} : ∀ {l : List (Str × NameKind)} {acc : List (Str × Addr)}, (closOf env l acc).lookup y = some ca -> (∀ z cz, acc.lookup z = some cz -> env.cells.lookup z = some cz) -> env.cells.lookup y = some ca
  | [], acc, h, ha => ha _ _ h
  | (z, k) :: r, acc, h, ha => by
    simp only [closOf_c] at h
    split at h
    · split at h
      · rename_i cz hz
        refine clos_sound h fun u cu hu => ?_
        rw [List.lookup_cons] at hu
        by_cases q : (u == z) = true
        · rw [q] at hu; (replace hu := Option.some.inj hu; subst hu); rw [beq_iff_eq.mp q]; exact hz
        · simp only [q] at hu; exact ha u cu hu
      · exact clos_sound h ha
    · exact clos_sound h ha
theorem clos_keep {y : Str} {ca : Addr} : ∀ {l : List (Str × NameKind)} {acc : List (Str × Addr)}, acc.lookup y = some ca -> env.cells.lookup y = some ca -> (closOf env l acc).lookup y = some ca
  | [], acc, h, _ => h
  | (z, k) :: r, acc, h, he => by
    simp only [closOf_c]
    split
    · split
      · rename_i cz hz
        refine clos_keep ?_ he
        (refine Eq.trans (List.lookup_cons ..) ?_)
        by_cases q : (y == z) = true
        · rw [q]; rw [beq_iff_eq.mp q, hz] at he; exact he
        · simp only [q]; exact h
      · exact clos_keep h he
    · exact clos_keep h he
theorem clos_full {y : Str} {ca : Addr} (he : env.cells.lookup y = some ca) : ∀ {l : List (Str × NameKind)} {acc : List (Str × Addr)}, l.lookup y = some .free -> (closOf env l acc).lookup y = some ca
  | (z, k) :: r, acc, h => by
    rw [List.lookup_cons] at h
    simp only [closOf_c]
    by_cases q : (y == z) = true
    · rw [q] at h; (replace h := Option.some.inj h; subst h)
      have hyz := beq_iff_eq.mp q
      subst hyz
      rw [if_pos (by decide), he]
      exact clos_keep (by simp) he
    · simp only [q] at h
      split
      · split
        · exact clos_full he h
        · exact clos_full he h
      · exact clos_full he h
theorem relabel_free : ∀ {names : List (Str × NameKind)} {x : Str}, names.lookup x = some .free -> env.scope.kind = .function -> env.kindOf x = some .cell ->
    (names.map fun (n, k) => if (k == NameKind.free && env.scope.kind == .function && env.kindOf n == some .cell) then (n, NameKind.cell) else (n, k)).lookup x = some .cell
  | [], _, h, _, _ => by simp at h
  | (n, k) :: r, x, h, hk, hc => by
    (replace h := Eq.trans (Eq.symm (List.lookup_cons ..)) (h))
    simp only [List.map_cons]
    by_cases q : (x == n) = true
    · rw [q] at h; (replace h := Option.some.inj h; subst h)
      have hn : x = n := beq_iff_eq.mp q
      subst hn
      simp [hk, hc]
    · have ih := relabel_free (names := r) (x := x) (by simpa only [q] using h) hk hc
      split <;> ((refine Eq.trans (List.lookup_cons ..) ?_); simp only [q]; exact ih)
theorem comp_lookup {scope : Scope} {y : Str} {k : NameKind} : ∀ {l : List (Str × NameKind)}, (l.map fun z => if scope.names.lookup z.1 == some .free then z else (z.1, NameKind.globalExplicit)).findIdx? (fun z => z.1 == y) = l.findIdx? (fun z => z.1 == y)
  | [] => rfl
  | z :: l => by
    rw [List.map_cons, List.findIdx?_cons, List.findIdx?_cons, comp_lookup (k := k) (l := l)]
    split <;> rfl
theorem resolve_comp {scope : Scope} {x y : Str} {i : Nat} (hr : resolve ⟨compNames c scope, some x⟩ y = .slot i) (hcv : c.cvar = none) :
    y ≠ x /\ scope.names.lookup y = some .free /\ resolve c y = .slot i := by
  unfold resolve at hr ⊢
  by_cases q : y = x
  · subst q; simp at hr
  · have q' : ((some x : Option Str) == some y) = false := by simpa using fun e => q e.symm
    simp only [q', Bool.false_eq_true, if_false] at hr
    refine ⟨q, ?_⟩
    rw [hcv]
    simp only [show ((none : Option Str) == some y) = false from rfl, Bool.false_eq_true, if_false]
    have e := comp_lookup (scope := scope) (y := y) (k := .local) (l := c.names)
    unfold compNames at hr
    rw [e] at hr
    cases hj : c.names.findIdx? (fun z => z.1 == y) with
    | none => rw [hj] at hr; simp at hr
    | some j =>
      rw [hj] at hr
      simp only [List.getElem?_map] at hr
      cases hz : c.names[j]? with
      | none => rw [hz] at hr; simp at hr
      | some z =>
        obtain ⟨z1, z2⟩ := z
        have hzy : z1 = y := by
          refine el12 (List.findIdx?_eq_some_iff_getElem.mp hj) fun hlt h1 _ => ?_
          refine el11 (List.getElem?_eq_some_iff.mp hz) fun _ h2 => ?_
          rw [h2] at h1
          simpa using h1
        subst hzy
        rw [hz] at hr
        by_cases hf : scope.names.lookup z1 = some .free
        · simp only [Option.map_some, hf, BEq.rfl, if_true] at hr
          refine ⟨hf, ?_⟩
          dsimp only
          rw [hz]
          exact hr
        · have hf' : (scope.names.lookup z1 == some NameKind.free) = false := beq_eq_false_iff_ne.mpr hf
          simp only [Option.map_some, hf', Bool.false_eq_true, if_false, show isVar .globalExplicit = false from rfl] at hr
          cases hr
theorem resolve_cvar {names : List (Str × NameKind)} {x y : Str} (hr : resolve ⟨names, some x⟩ y = .cvar) : y = x := by
  unfold resolve at hr
  refine cpf fun rq => ?_
  by_cases q : y = x
  · refine rq ?_
    exact q
  · have q' : ((some x : Option Str) == some y) = false := by simpa using fun e => q e.symm
    simp only [q', Bool.false_eq_true, if_false] at hr
    split at hr
    · split at hr
      · refine rq ?_
        split at hr <;> cases hr
      · refine rq ?_
        (exact Mine.Ref.noConfusion hr)
    · refine rq ?_
      (exact Mine.Ref.noConfusion hr)
theorem conds_at {es : List Expr} {ces : List CE} (x : All2 (T2 HH w d c C n) es ces) : ∀ {ρ : List Addr} {σ σ' : Sto} {s : Shared} {b : Bool} {E : Value -> Shared -> Prop},
    allT (fun e σ => tst C n e ls cv σ) ces σ = some (b, σ') -> ECtx HH A d env c frames ρ s.heap ls cv -> HeapRep HH w ρ s.heap σ ->
    wpAny (model prog w) A (forIn es true fun c r => if r = true then do let ok <- PySem.isTrue c env (eval c env); pure (ForInStep.yield ok) else pure (ForInStep.yield r)) (BPost HH w ρ s σ' b) E s := by
  induction x with
  | nil =>
    intro ρ σ σ' s b E hf X R
    simp only [Eqn.allT_1, Option.some.injEq, Prod.mk.injEq] at hf
    refine el02 (hf) fun q158_0 q158_1 => ?_
    subst q158_0
    subst q158_1
    exact wpAny_pure ⟨rfl, ρ, Stp.refl R⟩
  | @cons e ce es ces p r ih =>
    intro ρ σ σ' s b E hf X R
    simp only [Eqn.allT_2] at hf
    rw [List.forIn_cons]
    simp only [if_true]
    split at hf
    · rename_i σ₁ h1
      refine wpAny_bind (wpAny_bind (SndT.then p h1 X R fun s₁ ρ₁ st X₁ R₁ _ => wpAny_pure ?_))
      exact wpAny_mono (ih hf X₁ R₁) (fun y s₂ ⟨hb, ρ₂, st₂⟩ => ⟨hb, ρ₂, st.trans st₂⟩) fun _ _ q => q
    · rename_i σ₁ h1
      (refine some2 hf fun w171_0 w171_1 => ?_; clear hf; subst w171_0; subst w171_1)
      refine wpAny_bind (wpAny_bind (SndT.then p h1 X R fun s₁ ρ₁ st X₁ R₁ _ => wpAny_pure ?_))
      have stay : ∀ l : List Expr, (forIn l false fun c r => if r = true then do let ok <- PySem.isTrue c env (eval c env); pure (ForInStep.yield ok) else pure (ForInStep.yield r)) = (pure false : Sem Bool) := by
        intro l
        induction l with
        | nil => rfl
        | cons a l ih => (refine Eq.trans (List.forIn_cons ..) ?_); simp only [Bool.false_eq_true, if_false]; exact ih
      dsimp only
      rw [stay]
      exact wpAny_pure ⟨rfl, ρ₁, st⟩
    · (exact no_so hf)
end
end
end Mine
end
section
open PySem PySem.W PySem.Calls PyProof.Rows
namespace Mine
noncomputable section
section
variable {HH : Heap} {fa : Nat -> Addr} {mg mb : Str -> Option Value} {w : World} {A : Around} {E : Value -> Shared -> Prop} {ρ ρ₀ own : List Addr} {s : Shared} {σ σ' τ : Sto} {h h' hb : Heap} {C : Calls} {n d : Nat} {c ci : CEnv} {env : Env} {frames : List Env} {ls : Ls} {cv : Option V} {a : Addr}
theorem compGo_nil {chk : Sto -> Bool} {conds : V -> Sto -> Option (Bool × Sto)} {elt : V -> Sto -> Option (V × Sto)} {acc acc' : List V} (h : compGo chk conds elt [] acc τ = some (acc', σ')) : chk τ = true /\ acc' = acc /\ σ' = τ := by
  simp only [Eqn.compGo_1] at h
  split at h
  · rename_i q; (refine some2 h fun w10_0 w10_1 => ?_; clear h; subst w10_0; subst w10_1); exact ⟨q, rfl, rfl⟩
  · (exact no_so h)
theorem ECtx.comp {scope : Scope} {x : Str} {Cn : Addr} {u : V} {y : Value} {m : Str -> Option Value} (X : ECtx HH A d env c frames ρ h ls cv) (hcv : c.cvar = none)
    (hkind : scope.kind = .function) (hx : scope.names.lookup x = some .local) (hfree : ∀ z ∈ scope.names, z.2 = .free -> c.names.lookup z.1 = some .cell)
    (hloc : Safe ρ h Cn) (hn : h.Ns Cn m) (hm : m x = some y) (hu : RepV HH ρ h u y) :
    ECtx HH A d (compEnvC scope (closOf env scope.names []) Cn env) ⟨compNames c scope, some x⟩ frames ρ h ls (some u) where
  kind := hkind
  globals := X.globals
  builtins := X.builtins
  handled := X.handled
  depth := X.depth
  units := X.units
  fr := X.fr
  ff := X.ff
  fn := X.fn
  loc := hloc
  cel := fun z ca hz => X.cel z ca (clos_sound hz fun _ _ q => by simp at q)
  glob := fun q => by (exact some_no q)
  cells := fun q => by (exact some_no q)
  slot := fun z i v hr hv => by
    refine el03 (resolve_comp hr hcv) fun hzx hzf hrz => ?_
    refine el12 (X.slot z i v hrz hv) fun t n r => ?_
    have hck : env.kindOf z = some .cell := by
      have hmem : ∃ k, (z, k) ∈ scope.names /\ k = .free := by
        have : ∀ l : List (Str × NameKind), l.lookup z = some .free -> ∃ k, (z, k) ∈ l /\ k = .free := by
          intro l
          induction l with
          | nil => intro q; simp at q
          | cons p l ih =>
            obtain ⟨p1, p2⟩ := p
            intro q
            (replace q := Eq.trans (Eq.symm (List.lookup_cons ..)) (q))
            by_cases e : (z == p1) = true
            · rw [e] at q; (replace q := Option.some.inj q; subst q); rw [beq_iff_eq.mp e]; exact ⟨_, .head _, rfl⟩
            · simp only [e] at q
              refine el12 (ih q) fun k hk hf => ?_
              exact ⟨k, .tail _ hk, hf⟩
        exact this _ hzf
      refine el12 (hmem) fun k hk q50_2 => ?_
      subst q50_2
      have := hfree _ hk rfl
      rw [kindOf_eq, <- X.glob hcv]; exact this
    rcases n with ⟨hl, _⟩ | ⟨_, ca, hca, hcell⟩
    · (replace hl := Eq.trans (Eq.symm (hck ..)) (hl)); cases hl
    · exact ⟨t, .inr ⟨relabel_free hzf X.kind hck, ca, clos_full hca hzf, hcell⟩, r⟩
  cvar := fun z v hr hv => by
    (replace hv := Option.some.inj hv; subst hv)
    have := resolve_cvar hr
    subst this
    exact ⟨y, .inl ⟨lookup_relabel_local hx, m, hn, hm⟩, hu⟩
theorem HeapRep.join (R : HeapRep HH w ρ h σ) {D : Addr} {ao : AO} (hD : D ∉ ρ) (hH : HH.get? D = none) (h2 : 2 < D) (ho : ObjRep HH w (ρ ++ [D]) h D ao) : HeapRep HH w (ρ ++ [D]) h (σ ++ [ao]) where
  len := by simp [R.len]
  nodup := by
    rw [List.nodup_append]
    refine ⟨R.nodup, by simp, fun a ha b hb => ?_⟩
    rw [List.mem_singleton.mp hb]
    intro q; subst q
    exact hD ha
  out := fun a ha => by
    rcases List.mem_append.mp ha with q | q
    · exact R.out a q
    · rw [List.mem_singleton.mp q]; exact ⟨hH, h2⟩
  stays := R.stays
  base := R.base
  obj := fun n a ao' e1 e2 => by
    by_cases hn : n < ρ.length
    · (replace e1 := Eq.trans (Eq.symm (List.getElem?_append_left hn ..)) (e1))
      (replace e2 := Eq.trans (Eq.symm (List.getElem?_append_left (by rw [<- R.len]; exact hn) ..)) (e2))
      exact (R.obj n a ao' e1 e2).mono (List.prefix_append _ _) (fun a o e _ => e) (fun o e => e)
    · have hn' : n = ρ.length := by
        have := (List.getElem?_eq_some_iff.mp e1).1
        simp at this; (exact om126 hn this)
      subst hn'
      simp at e1
      rw [R.len] at e2
      simp at e2
      subst e1 e2
      exact ho
theorem Evo.join {D : Addr} (x : Evo own ρ₀ hb ρ h) (hD : hb.get? D = none) : Evo own ρ₀ hb (ρ ++ [D]) h :=
  ⟨x.pre.trans (List.prefix_append _ _), fun a ha => by
    rcases List.mem_append.mp ha with q | q
    · exact x.fresh a q
    · rw [List.mem_singleton.mp q]; exact .inr hD, x.live, x.keep, x.fix⟩
theorem not_fix_list {xs : Array Value} {k : Nat} {sl : Array (Option Value)} {dd : Option Addr} : ¬ Fix { cls := .type "list", dict := dd, data := .seq xs k, slots := sl } := fun q => by rcases q with q | q | q <;> simp at q
theorem not_fix_ns {m : Str -> Option Value} (hn : h.Ns a m) : ∀ o, h.get? a = some o -> ¬ Fix o := fun o e f => by
  refine el33 (hn) fun o' es ep ho hd _ => ?_
  rw [ho] at e; (replace e := Option.some.inj e; subst e)
  rcases f with ⟨_, _, _, f⟩ | f | ⟨_, _, f⟩ <;> ((replace f := Eq.trans (Eq.symm (hd ..)) (f)); cases f)
theorem ns_there {m : Str -> Option Value} (hn : h.Ns a m) : ∃ o, h.get? a = some o := let ⟨o, _, _, ho, _⟩ := hn; ⟨o, ho⟩
theorem not_fix_plain {xs : Array Value} (hl : h.PlainList a xs) : ∀ o, h.get? a = some o -> ¬ Fix o := fun o e f => by
  refine el11 (hl) fun n ho => ?_
  rw [ho] at e; (replace e := Option.some.inj e; subst e)
  exact not_fix_list f
structure CLoop (HH : Heap) (w : World) (hb : Heap) (ρ₀ : List Addr) (v : V) (rev : Bool) (len : Nat) (I D Cn : Addr) (j : Nat) (acc : List V) (ρ : List Addr) (h : Heap) (τ : Sto) (m : Str -> Option Value) (ys : List Value) : Prop where
  evo : Evo [] ρ₀ hb ρ h
  rep : HeapRep HH w ρ h τ
  it : IterAt v rev len ρ I j h
  pl : h.PlainList D ys.toArray
  ra : RepVs HH ρ h acc ys
  ns : h.Ns Cn m
  hI : Hid hb ρ h I
  hD : Hid hb ρ h D
  hC : Hid hb ρ h Cn
  ID : I ≠ D
  IC : I ≠ Cn
  DC : D ≠ Cn
theorem PlainList.keep {xs : Array Value} (x : h.PlainList a xs) (k : ∀ o, h.get? a = some o -> h'.get? a = some o) : h'.PlainList a xs := let ⟨n, ho⟩ := x; ⟨n, k _ ho⟩
theorem PlainList.there {xs : Array Value} (x : h.PlainList a xs) : ∃ o, h.get? a = some o := let ⟨n, ho⟩ := x; ⟨_, ho⟩
theorem CLoop.step {v : V} {rev : Bool} {len : Nat} {I D Cn : Addr} {j : Nat} {acc : List V} {m : Str -> Option Value} {ys : List Value} {ρ' : List Addr} {τ' : Sto}
    (L : CLoop HH w hb ρ₀ v rev len I D Cn j acc ρ h τ m ys) (e : Evo [] ρ h ρ' h') (R : HeapRep HH w ρ' h' τ') : CLoop HH w hb ρ₀ v rev len I D Cn j acc ρ' h' τ' m ys := by
  refine el02 (L.hI.step e (fun q => nomatch q) L.it.there.1) fun i1 k1 => ?_
  refine el02 (L.hD.step e (fun q => nomatch q) (PlainList.there L.pl)) fun i2 k2 => ?_
  refine el02 (L.hC.step e (fun q => nomatch q) (ns_there L.ns)) fun i3 k3 => ?_
  exact ⟨L.evo.trans e, R, L.it.move e.pre k1, PlainList.keep L.pl k2, L.ra.mono e, L.ns.at' k3, i1, i2, i3, L.ID, L.IC, L.DC⟩
theorem CLoop.next {v : V} {rev : Bool} {len : Nat} {I D Cn : Addr} {j j' : Nat} {acc : List V} {m : Str -> Option Value} {ys : List Value}
    (L : CLoop HH w hb ρ₀ v rev len I D Cn j acc ρ h τ m ys) (hH : HH.StaysIn hb) (hs : Heap.ExtBut I h h') (it : IterAt v rev len ρ I j' h') : CLoop HH w hb ρ₀ v rev len I D Cn j' acc ρ h' τ m ys := by
  refine el02 (L.hD.other hs (Ne.symm L.ID) (PlainList.there L.pl)) fun i2 k2 => ?_
  refine el02 (L.hC.other hs (Ne.symm L.IC) (ns_there L.ns)) fun i3 k3 => ?_
  exact ⟨L.evo.hidden hs L.hI.new, L.rep.hidden L.hI hs hH, it, PlainList.keep L.pl k2, RepVs.mono' (List.prefix_refl _) (L.hI.fix hs) L.ra, L.ns.at' k3, ⟨L.hI.new, L.hI.out, it.there.2⟩, i2, i3, L.ID, L.IC, L.DC⟩
theorem CLoop.var {v : V} {rev : Bool} {len : Nat} {I D Cn : Addr} {j : Nat} {acc : List V} {m m' : Str -> Option Value} {ys : List Value}
    (L : CLoop HH w hb ρ₀ v rev len I D Cn j acc ρ h τ m ys) (hH : HH.StaysIn hb) (hs : Heap.ExtBut Cn h h') (ns : h'.Ns Cn m') : CLoop HH w hb ρ₀ v rev len I D Cn j acc ρ h' τ m' ys := by
  refine el02 (L.hI.other hs L.IC L.it.there.1) fun i1 k1 => ?_
  refine el02 (L.hD.other hs L.DC (PlainList.there L.pl)) fun i2 k2 => ?_
  exact ⟨L.evo.hidden hs L.hC.new, L.rep.hidden L.hC hs hH, L.it.move (List.prefix_refl _) k1, PlainList.keep L.pl k2, RepVs.mono' (List.prefix_refl _) (L.hC.fix hs) L.ra, ns, i1, i2, ⟨L.hC.new, L.hC.out, not_fix_ns ns⟩, L.ID, L.IC, L.DC⟩
theorem CLoop.grow {v : V} {rev : Bool} {len : Nat} {I D Cn : Addr} {j : Nat} {acc acc' : List V} {m : Str -> Option Value} {ys ys' : List Value}
    (L : CLoop HH w hb ρ₀ v rev len I D Cn j acc ρ h τ m ys) (hH : HH.StaysIn hb) (hs : Heap.ExtBut D h h') (pl : h'.PlainList D ys'.toArray) (ra : RepVs HH ρ h acc' ys') : CLoop HH w hb ρ₀ v rev len I D Cn j acc' ρ h' τ m ys' := by
  refine el02 (L.hI.other hs L.ID L.it.there.1) fun i1 k1 => ?_
  refine el02 (L.hC.other hs (Ne.symm L.DC) (ns_there L.ns)) fun i3 k3 => ?_
  exact ⟨L.evo.hidden hs L.hD.new, L.rep.hidden L.hD hs hH, L.it.move (List.prefix_refl _) k1, pl, RepVs.mono' (List.prefix_refl _) (L.hD.fix hs) ra, L.ns.at' k3, i1, ⟨L.hD.new, L.hD.out, not_fix_plain pl⟩, i3, L.ID, L.IC, L.DC⟩
end
end
end Mine
end
section
open PySem PySem.W PySem.Calls PyProof.Rows
namespace Mine
section
variable {HH : Heap} {fa : Nat -> Addr} {mg mb : Str -> Option Value} {w : World} {A : Around} {E : Value -> Shared -> Prop} {ρ ρ₀ own : List Addr} {s : Shared} {σ σ' τ : Sto} {h h' hb : Heap} {C : Calls} {n d : Nat} {c ci : CEnv} {env : Env} {frames : List Env} {ls : Ls} {cv : Option V} {a : Addr}
theorem chk_items {v : V} {items : List V} (h : chkItems v items τ = true) : itemsOf v τ = some items := chk_iff.mp h
theorem compLoop_at {scope : Scope} {x : Str} {px pos : Pos} {elt iter : Expr} {ifs : List Expr} {celt : CE} {cconds : List CE} {v : V} {rev : Bool} {items accF : List V} {I D Cn : Addr} {R : Result -> Shared -> Prop}
    (hcv : c.cvar = none) (hkind : scope.kind = .function) (hx : scope.names.lookup x = some .local) (hfree : ∀ z ∈ scope.names, z.2 = .free -> c.names.lookup z.1 = some .cell)
    (helt : SndE HH d w elt ⟨compNames c scope, some x⟩ (ev C n celt) false) (hconds : All2 (T2 HH w d ⟨compNames c scope, some x⟩ C n) ifs cconds)
    (X : ECtx HH A d env c frames ρ₀ hb ls cv) (hH : HH.StaysIn hb)
    (hR : ∀ h' tk ρ' m ys, Evo [] ρ₀ hb ρ' h' -> HeapRep HH w ρ' h' σ' -> h'.PlainList D ys.toArray -> RepVs HH ρ' h' accF ys -> h'.Ns Cn m -> Hid hb ρ' h' D -> Hid hb ρ' h' Cn -> D ≠ Cn -> accF.length <= 4096 ->
      R (.ok .next) { s with heap := h', toks := tk }) :
    ∀ (j : Nat) (ρ : List Addr) (τ : Sto) (m : Str -> Option Value) (ys : List Value) (acc : List V),
      CLoop HH w hb ρ₀ v rev items.length I D Cn j acc ρ s.heap τ m ys ->
      compGo (chkItems v items) (fun x τ => allT (fun e τ => tst C n e ls (some x) τ) cconds τ) (fun x τ => ev C n celt ls (some x) τ) ((if rev then items.reverse else items).drop j) acc τ = some (accF, σ') ->
      acc.length <= 4096 -> j <= items.length ->
      codeAny (model prog w) A (.compLoop (.ListComp elt [⟨.Name x px, iter, ifs, 0⟩] scope pos) 0 (.ref I) (.ref D) (compEnvC scope (closOf env scope.names []) Cn env)) R s := by
  intro j₀ ρ₁ τ₁ m₁ ys₁ acc₁ L₁ go₁ hl₁ hj₁
  have hlim : LIM = 4096 := rfl
  have hseq : (if rev then items.reverse else items).length = items.length := by split <;> simp
  refine codeAny_compLoop_tests (fun k s' => ∃ h' tk ρ τ m ys acc j, s' = { s with heap := h', toks := tk } /\ CLoop HH w hb ρ₀ v rev items.length I D Cn j acc ρ h' τ m ys /\
    compGo (chkItems v items) (fun x τ => allT (fun e τ => tst C n e ls (some x) τ) cconds τ) (fun x τ => ev C n celt ls (some x) τ) ((if rev then items.reverse else items).drop j) acc τ = some (accF, σ') /\
    acc.length <= 4096 /\ j <= items.length /\ k = items.length - j) ?_ (items.length - j₀) ⟨s.heap, s.toks, ρ₁, τ₁, m₁, ys₁, acc₁, j₀, rfl, L₁, go₁, hl₁, hj₁, rfl⟩
  rintro k s' ⟨h₁, tk, ρ, τ, m, ys, acc, j, rfl, L, go, hl, hj, rfl⟩
  by_cases hlt : j < items.length
  · have hlt' : j < (if rev then items.reverse else items).length := by rw [hseq]; exact hlt
    rw [List.drop_eq_getElem_cons hlt'] at go
    generalize hu : (if rev then items.reverse else items)[j] = u at go
    have hu' : (if rev then items.reverse else items)[j]? = some u := by rw [List.getElem?_eq_getElem hlt', hu]
    simp only [Eqn.compGo_2] at go
    split at go
    · rename_i hchk
      refine iter_step (s := { s with heap := h₁, toks := tk }) L.rep (chk_items hchk) L.it hu' fun y h₂ tk₂ it₂ hs₂ ry => ?_
      have L₂ := L.next hH hs₂ it₂
      dsimp only
      refine wpAny_assign_Name (wpAny_storeName_local (lookup_relabel_local hx) L₂.ns (fun h₃ ns₃ hs₃ => ?_) (by simp [compEnvC, relabel, hkind]))
      have L₃ := L₂.var hH hs₃.extBut ns₃
      have ru : RepV HH ρ h₃ u y := RepV.mono' (List.prefix_refl _) (L₂.hC.fix hs₃.extBut) (RepV.mono' (List.prefix_refl _) (L.hI.fix hs₂) ry)
      have X₃ := (X.mono L₃.evo).comp (u := u) (y := y) hcv hkind hx hfree ⟨L₃.hC.out, ns_there ns₃⟩ ns₃ (by simp) ru
      refine cpf fun rq => ?_
      split at go
      · rename_i σ₁ hc1
        split at go
        · rename_i v₂ σ₂ he2
          split at go
          · rename_i hacc
            refine rq ?_
            refine wpAny_mono (conds_at (s := { s with heap := h₃, toks := tk₂ + 1 }) hconds hc1 X₃ L₃.rep) (fun b s₄ ⟨hb4, ρ₄, st₄⟩ => ?_) fun _ _ q => q
            subst hb4
            rw [if_pos rfl]
            refine el03 (st₄) fun z50_0 ev4 rp4 => ?_
            obtain ⟨h4, t4, e4⟩ := z50_0
            subst e4
            have L₄ := L₃.step ev4 rp4
            have X₄ := X₃.mono ev4
            refine SndE.then helt he2 X₄ L₄.rep fun z s₅ ρ₅ st₅ rz X₅ R₅ _ => ?_
            refine el03 (st₅) fun z55_0 ev5 rp5 => ?_
            obtain ⟨h5, t5, e5⟩ := z55_0
            subst e5
            have L₅ := L₄.step ev5 rp5
            refine wpAny_list_append_plain L₅.pl (fun h₆ pl₆ hs₆ => ?_) (by rw [List.size_toArray, <- L₅.ra.length, sizeLine_eq]; (exact om138 hl))
            have L₆ := L₅.grow (acc' := acc ++ [v₂]) (ys' := ys ++ [z]) hH hs₆.extBut (by simpa using pl₆) (RepVs.append' L₅.ra rz)
            exact ⟨items.length - (j + 1), by (exact om139 hlt), h₆, t5, ρ₅, σ₂, _, ys ++ [z], acc ++ [v₂], j + 1, rfl, { L₆ with }, go, by rw [List.length_append, List.length_singleton]; (assumption), hlt, rfl⟩
          · (exact no_so go)
        · (exact no_so go)
      · rename_i σ₁ hc1
        refine rq ?_
        refine wpAny_mono (conds_at (s := { s with heap := h₃, toks := tk₂ + 1 }) hconds hc1 X₃ L₃.rep) (fun b s₄ ⟨hb4, ρ₄, st₄⟩ => ?_) fun _ _ q => q
        subst hb4
        rw [if_neg (by decide)]
        refine el03 (st₄) fun z67_0 ev4 rp4 => ?_
        obtain ⟨h4, t4, e4⟩ := z67_0
        subst e4
        have L₄ := L₃.step ev4 rp4
        exact ⟨items.length - (j + 1), by (exact om139 hlt), h4, t4, ρ₄, σ₁, _, ys, acc, j + 1, rfl, L₄, go, hl, hlt, rfl⟩
      · (exact no_so go)
    · (exact no_so go)
  · have hje : j = items.length := by (exact om140 hlt hj)
    rw [List.drop_of_length_le (by rw [hseq]; (exact on7 hlt))] at go
    refine cpf fun rq => ?_
    refine el03 (compGo_nil go) fun hchk q75_1 q75_2 => ?_
    subst q75_1
    subst q75_2
    refine rq ?_
    refine iter_end (s := { s with heap := h₁, toks := tk }) X.handled L.rep (chk_items hchk) L.it hje fun h₂ hs₂ => ?_
    refine cpf fun rq => ?_
    refine el02 (L.hD.other hs₂ (Ne.symm L.ID) (PlainList.there L.pl)) fun i2 k2 => ?_
    refine el02 (L.hC.other hs₂ (Ne.symm L.IC) (ns_there L.ns)) fun i3 k3 => ?_
    refine rq ?_
    exact hR h₂ tk ρ m ys (L.evo.hidden hs₂ L.hI.new) (L.rep.hidden L.hI hs₂ hH) (PlainList.keep L.pl k2) (RepVs.mono' (List.prefix_refl _) (L.hI.fix hs₂) L.ra) (L.ns.at' k3) i2 i3 L.DC hl
end
end Mine
end
section
open PySem PySem.W PySem.Calls PyProof.Rows
namespace Mine
section
variable {HH : Heap} {fa : Nat -> Addr} {mg mb : Str -> Option Value} {w : World} {A : Around} {E : Value -> Shared -> Prop} {ρ ρ₀ own : List Addr} {s : Shared} {σ σ' τ : Sto} {h h' hb : Heap} {C : Calls} {n d : Nat} {c ci : CEnv} {env : Env} {frames : List Env} {ls : Ls} {cv : Option V} {a : Addr}
theorem notin_new (R : HeapRep HH w ρ h σ) (hn : h.get? a = none) : a ∉ ρ := fun q => by
  obtain ⟨o, e, _⟩ := R.notFix q
  (replace e := Eq.trans (Eq.symm (hn ..)) (e)); (exact no_so e)
theorem comp_core {scope : Scope} {x : Str} {px pos : Pos} {elt iter : Expr} {ifs : List Expr} {celt : CE} {cconds : List CE} {v : V} {rev : Bool} {items accF : List V} {o : Obj} {RR : Value -> Addr -> Result -> Shared -> Prop}
    (hcv : c.cvar = none) (hkind : scope.kind = .function) (hx : scope.names.lookup x = some .local) (hcell : ∀ y ∈ scope.names, y.2 ≠ .cell) (hfree : ∀ z ∈ scope.names, z.2 = .free -> c.names.lookup z.1 = some .cell)
    (helt : SndE HH d w elt ⟨compNames c scope, some x⟩ (ev C n celt) false) (hconds : All2 (T2 HH w d ⟨compNames c scope, some x⟩ C n) ifs cconds)
    (X : ECtx HH A d env c frames ρ s.heap ls cv) (R : HeapRep HH w ρ s.heap σ) (hit : IterAt v rev items.length ρ s.heap.objs.size 0 (s.heap.push o))
    (go : compGo (chkItems v items) (fun x τ => allT (fun e τ => tst C n e ls (some x) τ) cconds τ) (fun x τ => ev C n celt ls (some x) τ) (if rev then items.reverse else items) [] σ = some (accF, σ'))
    (hRR : ∀ D Cn s' ρ' m, Stp HH w [] ρ s ρ' (σ' ++ [.list accF]) s' -> RepV HH ρ' s'.heap (.lst σ'.length) (.ref D) -> s'.heap.Ns Cn m -> Hid s.heap ρ' s'.heap Cn -> RR (.ref D) Cn (.ok .next) s') :
    wpAny (model prog w) A (newList []) (fun acc s₃ => wpAny (model prog w) A (newFunctionEnv scope env.globals (closOf env scope.names []) [] env.qual none .none (some env)) (fun cenv s₄ =>
      codeAny (model prog w) A (.compStart (.ListComp elt [⟨.Name x px, iter, ifs, 0⟩] scope pos) 0 (.ref s.heap.objs.size) acc { cenv with scope := relabel scope env }) (RR acc cenv.locals) s₄) E s₃) E { s with heap := s.heap.push o } := by
  refine wpAny_newObj_type (wpAny_newFunctionEnv hcell (by intro y hy; simp at hy) (fun h₁ hns₁ hsb₁ => ?_) hkind)
  dsimp only at hns₁ hsb₁ ⊢
  have es1 : (s.heap.push o).objs.size = s.heap.objs.size + 1 := Heap.size_push _ _
  generalize hH2 : (s.heap.push o).push { cls := .type "list", dict := none, data := .seq ([] : List Value).toArray } = H2 at hns₁ hsb₁ ⊢
  have es2 : H2.objs.size = s.heap.objs.size + 2 := by rw [<- hH2, Heap.size_push, es1]
  have k2 : ∀ a ob, (s.heap.push o).get? a = some ob -> h₁.get? a = some ob := fun a ob e => by
    have h3 := Heap.get?_push_of_some { cls := .type (if (some env : Option Env).isSome = true then "dict" else "frame"), data := .dict #[] } (Heap.get?_push_of_some { cls := .type "list", dict := none, data := .seq ([] : List Value).toArray } e)
    rw [hH2] at h3
    exact hsb₁.extBut a ob (fun q => by subst q; have h5 : H2.objs.size < (s.heap.push o).objs.size := Heap.lt_size e; rw [es1, es2] at h5; (exact om141 h5)) h3
  have k1 : ∀ a ob, s.heap.get? a = some ob -> h₁.get? a = some ob := fun a ob e => k2 a ob (Heap.get?_push_of_some _ e)
  have hD1 : h₁.get? (s.heap.push o).objs.size = some { cls := .type "list", dict := none, data := .seq ([] : List Value).toArray } := by
    have h3 : ((s.heap.push o).push { cls := .type "list", dict := none, data := .seq ([] : List Value).toArray }).get? (s.heap.push o).objs.size = some { cls := .type "list", dict := none, data := .seq ([] : List Value).toArray } := Heap.get?_push_size _ rfl
    have h4 := Heap.get?_push_of_some { cls := .type (if (some env : Option Env).isSome = true then "dict" else "frame"), data := .dict #[] } h3
    rw [hH2] at h4
    exact hsb₁.extBut _ _ (by rw [es1, es2]; exact Nat.ne_of_lt (Nat.lt_succ_self _)) h4
  have fresh : ∀ b : Nat, s.heap.objs.size <= b -> s.heap.get? b = none := fun b hb => by
    cases e : s.heap.get? b with
    | none => rfl
    | some o' => exact absurd (Heap.lt_size e) (Nat.not_lt.mpr hb)
  have nin : ∀ b : Nat, s.heap.objs.size <= b -> b ∉ ρ := fun b hb => notin_new R (fresh b hb)
  have it1 : IterAt v rev items.length ρ s.heap.objs.size 0 h₁ := hit.move (List.prefix_refl _) fun ob e => k2 _ ob e
  have pl1 : h₁.PlainList (s.heap.push o).objs.size ([] : List Value).toArray := ⟨_, hD1⟩
  have L : CLoop HH w s.heap ρ v rev items.length s.heap.objs.size (s.heap.push o).objs.size H2.objs.size 0 [] ρ h₁ σ (fun x => List.lookup x ([] : List (Str × Value)).reverse) [] :=
    { evo := Evo.of_keeps k1, rep := R.keepsAll k1, it := it1, pl := pl1, ra := .nil, ns := hns₁
      hI := ⟨fresh _ (Nat.le_refl _), nin _ (Nat.le_refl _), it1.there.2⟩
      hD := ⟨fresh _ (by rw [es1]; exact Nat.le_succ _), nin _ (by rw [es1]; exact Nat.le_succ _), not_fix_plain pl1⟩
      hC := ⟨fresh _ (by rw [es2]; exact Nat.le_add_right _ _), nin _ (by rw [es2]; exact Nat.le_add_right _ _), not_fix_ns hns₁⟩
      ID := by rw [es1]; exact Nat.ne_of_lt (Nat.lt_succ_self _)
      IC := by rw [es2]; exact Nat.ne_of_lt (Nat.lt_add_of_pos_right (by decide))
      DC := by rw [es1, es2]; exact Nat.ne_of_lt (Nat.lt_succ_self _) }
  have hHD : HH.get? (s.heap.push o).objs.size = none := by
    cases e : HH.get? (s.heap.push o).objs.size with
    | none => rfl
    | some o' => have := R.stays _ _ e; (replace this := Eq.trans (Eq.symm (L.hD.new ..)) (this)); cases this
  have loop : ∀ s₃ : Shared, s₃ = { s with heap := h₁, toks := s.toks + ([] : List (Str × Value)).length } ->
      codeAny (model prog w) A (.compLoop (.ListComp elt [⟨.Name x px, iter, ifs, 0⟩] scope pos) 0 (.ref s.heap.objs.size) (.ref (s.heap.push o).objs.size) (compEnvC scope (closOf env scope.names []) H2.objs.size env))
        (RR (.ref (s.heap.push o).objs.size) H2.objs.size) s₃ := by
    rintro s₃ rfl
    refine compLoop_at hcv hkind hx hfree helt hconds X R.stays (fun h' tk ρ' m ys e1 r1 p1 a1 n1 d1 c1 dc1 len1 => ?_) 0 ρ σ _ [] [] L (by rw [List.drop_zero]; exact go) (by simp) (Nat.zero_le _)
    obtain ⟨kk, hpl⟩ := p1
    have hrep : HeapRep HH w (ρ' ++ [(s.heap.push o).objs.size]) h' (σ' ++ [.list accF]) :=
      r1.join d1.out hHD (by have := R.big; rw [es1]; exact Nat.lt_succ_of_lt this) (.list (n := kk) hpl (RepVs.mono' (List.prefix_append _ _) (fun a o e _ => e) a1) (by (exact om142 len1)))
    refine hRR _ _ _ (ρ' ++ [(s.heap.push o).objs.size]) m ⟨⟨_, _, rfl⟩, e1.join d1.new, hrep⟩ (.lst (by rw [<- r1.len]; simp)) n1 ⟨c1.new, fun q => ?_, c1.nfix⟩
    rcases List.mem_append.mp q with q | q
    · exact c1.out q
    · exact dc1 (List.mem_singleton.mp q).symm
  exact codeAny_compStart_list (loop _ rfl) (by
    have hit2 : wpAny (model prog w) A (pyIter (.ref s.heap.objs.size)) (fun it' s' => it' = .ref s.heap.objs.size /\ s' = { s with heap := h₁, toks := s.toks + ([] : List (Str × Value)).length }) (notedBy (model prog w) A (compEnvC scope (closOf env scope.names []) H2.objs.size env) fun x s' => RR (.ref (s.heap.push o).objs.size) H2.objs.size (.error x) s') { s with heap := h₁, toks := s.toks + ([] : List (Str × Value)).length } := by
      have it2 := it1
      unfold IterAt at it2
      split at it2
      · obtain ⟨_, _, q⟩ := it2; exact wpAny_pyIter_listiter q ⟨rfl, rfl⟩
      · obtain ⟨_, _, q⟩ := it2; exact wpAny_pyIter_revIter q ⟨rfl, rfl⟩
      · exact wpAny_pyIter_rangeiter it2 ⟨rfl, rfl⟩
      · exact it2.elim
    exact wpAny_mono hit2 (fun it' s' ⟨q1, q2⟩ => by subst q1; exact loop s' q2) fun _ _ q => q)
theorem iterOf_cases (c : CEnv) (e : Expr) : iterOf c e = (e, false) \/ ∃ f fp e' pp, e = .Call (.Name f fp) [e'] [] pp /\ isGlob c f "reversed" = true /\ iterOf c e = (e', true) := by
  induction e using Expr.casesOn with
  | Call f as ks p =>
    induction f using Expr.casesOn with
    | Name f fp =>
      induction as using List.casesOn with
      | nil => exact .inl rfl
      | cons e' as =>
      induction as using List.casesOn with
      | cons => exact .inl rfl
      | nil =>
      induction ks using List.casesOn with
      | cons => exact .inl rfl
      | nil =>
        by_cases hg : isGlob c f "reversed" = true
        · exact .inr ⟨f, fp, e', p, rfl, hg, if_pos hg⟩
        · exact .inl (if_neg hg)
    | _ => exact .inl rfl
  | _ => exact .inl rfl
theorem compHead_at {e : Expr} {ce : CE} {v : V} {items : List V} {Q : Value -> Shared -> Prop} (G : Gl w HH fa mg mb) (p : Plain (iterOf c e).1)
    (he : SndE HH d w (iterOf c e).1 c (ev C n ce) false) (hf : ev C n ce ls cv σ = some (v, σ')) (hi : itemsOf v σ' = some items) (hr : (iterOf c e).2 = true -> ∃ m, v = .lst m)
    (X : ECtx HH A d env c frames ρ s.heap ls cv) (R : HeapRep HH w ρ s.heap σ)
    (k : ∀ s₁ ρ₁ o, Stp HH w [] ρ s ρ₁ σ' s₁ -> ECtx HH A d env c frames ρ₁ s₁.heap ls cv -> HeapRep HH w ρ₁ s₁.heap σ' -> IterAt v (iterOf c e).2 items.length ρ₁ s₁.heap.objs.size 0 (s₁.heap.push o) ->
      Q (.ref s₁.heap.objs.size) { s₁ with heap := s₁.heap.push o }) :
    wpAny (model prog w) A (eval e env) (fun x s₁ => wpAny (model prog w) A (pyIter x) Q E s₁) E s := by
  refine cpf fun rq => ?_
  rcases iterOf_cases c e with q | ⟨f, fp, e', pp, rfl, hg, q⟩
  · rw [q] at he k
    refine rq ?_
    exact he.then hf X R fun y s₁ ρ₁ st ry X₁ R₁ _ => iter_start R₁ ry hi fun o it => k s₁ ρ₁ o st X₁ R₁ it
  · rw [q] at he k p hr
    refine el03 (glob_name hg) fun hfe g1 g2 => ?_
    subst hfe
    refine el11 (hr rfl) fun m q98_1 => ?_
    subst q98_1
    refine rq ?_
    refine Call_ (load_b X R G ⟨g1, g2⟩ G.reversed (by decide) ?_)
    refine PyProof.Rows.callWith_type1 (one_at p he hf X R fun x s₁ ρ₁ st rx X₁ R₁ => ?_) (p.star _ _) rfl
    refine el12 (rep_lst rx) fun a qz105 hn => ?_
    subst qz105
    ·
      simp only [Eqn.itemsOf_1] at hi
      refine el34 (R₁.list hi) fun a' cvs kk ha hl hrr _ => ?_
      (replace ha := Eq.trans (Eq.symm (hn ..)) (ha)); (replace ha := Option.some.inj ha; subst ha)
      refine call_reversed_list ⟨_, hl, rfl, kk, rfl⟩ ?_
      have hrev : (s₁.heap.push (revObj a ((cvs.toArray.size : Int) - 1))).IsRevIter s₁.heap.objs.size a ((cvs.toArray.size : Int) - 1) := ⟨_, Heap.get?_push_size _ rfl, rfl, rfl⟩
      refine wpAny_pyIter_revIter hrev (k s₁ ρ₁ _ st X₁ R₁ ⟨a, hn, ?_⟩)
      have e0 : (items.length : Int) - 1 - ((0 : Nat) : Int) = (cvs.toArray.size : Int) - 1 := by rw [List.size_toArray, hrr.length]; (exact om143)
      rw [e0]; exact hrev
end
end Mine
end
section
open PySem PySem.W PySem.Calls PyProof.Rows
namespace Mine
noncomputable section
section
variable {HH : Heap} {fa : Nat -> Addr} {mg mb : Str -> Option Value} {w : World} {A : Around} {E : Value -> Shared -> Prop} {ρ ρ₀ own : List Addr} {s : Shared} {σ σ' τ : Sto} {h h' hb : Heap} {C : Calls} {n d : Nat} {c ci : CEnv} {env : Env} {frames : List Env} {ls : Ls} {cv : Option V} {a : Addr}
theorem folded_plain {e : Expr} (h : ∀ l k p, e ≠ .Set l k p) (env : Env) (x : Value) : foldedSetIterable e env x = pure x := by
  induction e using Expr.casesOn <;> first | rfl | exact absurd rfl (h _ _ _)
theorem cmp_notSet {m : Nat} {e : Expr} {ce : CE} (h : cmpE m c e = some ce) : ∀ l k p, e ≠ .Set l k p := by
  rintro l k p rfl
  induction m using Nat.casesOn <;> exact no_some h
theorem iterOf_notSet {m : Nat} {e : Expr} {ce : CE} (h : cmpE m c (iterOf c e).1 = some ce) : ∀ l k p, e ≠ .Set l k p := by
  rcases iterOf_cases c e with q | ⟨f, fp, e', pp, rfl, _, _⟩
  · rw [q] at h; exact cmp_notSet h
  · rintro l k p q; (exact PySem.Expr.noConfusion q)
structure CompOk (c : CEnv) (scope : Scope) (x : Str) : Prop where
  cvar : c.cvar = none
  kind : scope.kind = .function
  var : scope.names.lookup x = some .local
  loc : ∀ y ∈ scope.names, y.2 = .local -> scope.names.lookup y.1 = some .local
  cell : ∀ y ∈ scope.names, y.2 ≠ .cell
  free : ∀ y ∈ scope.names, y.2 = .free -> c.names.lookup y.1 = some .cell
theorem compInfo_inv {g : Comprehension} {scope : Scope} {x : Str} (h : compInfo c g scope = some (x, ci)) : CompOk c scope x /\ (∃ px, g.target = .Name x px) /\ g.is_async = 0 /\ ci = ⟨compNames c scope, some x⟩ := by
  unfold compInfo at h
  refine cpf fun rq => ?_
  split at h
  · rename_i x' px ht
    split at h
    · rename_i hc
      (refine some2 h fun w30_0 w30_1 => ?_; clear h; subst w30_0; subst w30_1)
      simp only [Bool.and_eq_true, beq_iff_eq, List.all_eq_true, Bool.or_eq_true] at hc
      refine el02 (hc) fun z32_0 h5 => ?_
      obtain ⟨⟨⟨h1, h2⟩, h3⟩, h4⟩ := z32_0
      refine rq ?_
      refine ⟨⟨h1, h3, h4, fun y hy hl => ?_, fun y hy q => ?_, fun y hy q => ?_⟩, ⟨px, ht⟩, h2, rfl⟩
      · rcases h5 y hy with q | q
        · exact q.2
        · rw [hl] at q; cases q.1.1
      · rcases h5 y hy with r | r
        · rw [q] at r; cases r.1
        · rw [q] at r; cases r.1.1
      · rcases h5 y hy with r | r
        · rw [q] at r; cases r.1
        · exact r.2
    · (exact no_so h)
  · (exact no_so h)
theorem comp_at {scope : Scope} {x : Str} {px pos : Pos} {elt iter : Expr} {ifs : List Expr} {celt cit : CE} {cconds : List CE} {v : V} {use : Option (Value -> Sem Unit)} {Q : Value -> Shared -> Prop} {m : Nat}
    (G : Gl w HH fa mg mb) (K : CompOk c scope x) (hit : cmpE m c (iterOf c iter).1 = some cit) (hitE : SndE HH d w (iterOf c iter).1 c (ev C n cit) false)
    (helt : SndE HH d w elt ⟨compNames c scope, some x⟩ (ev C n celt) false) (hconds : All2 (T2 HH w d ⟨compNames c scope, some x⟩ C n) ifs cconds)
    (hf : ev C (n + 1) (.comp celt cit cconds (iterOf c iter).2) ls cv σ = some (v, σ'))
    (X : ECtx HH A d env c frames ρ s.heap ls cv) (R : HeapRep HH w ρ s.heap σ)
    (hRR : ∀ D Cn s' ρ' mm, Stp HH w [] ρ s ρ' σ' s' -> RepV HH ρ' s'.heap v (.ref D) -> s'.heap.Ns Cn mm -> s.heap.get? Cn = none -> Cn ∉ ρ' -> (∀ o, s'.heap.get? Cn = some o -> ¬ Fix o) ->
      compPost (model prog w) A E use Q (.ref D) Cn (.ok .next) s') :
    wpAny (model prog w) A (comprehension (.ListComp elt [⟨.Name x px, iter, ifs, 0⟩] scope pos) scope env iter.pos (newList []) false (eval iter env) use) Q E s := by
  simp only [Eqn.ev_comp] at hf
  refine cpf fun rq => ?_
  split at hf
  · rename_i v₁ σ₁ h1
    split at hf
    · (exact no_so hf)
    · rename_i hrev
      split at hf
      · rename_i items hi
        split at hf
        · rename_i acc σ₂ h2
          (refine some2 hf fun w66_0 w66_1 => ?_; clear hf; subst w66_0; subst w66_1)
          refine rq ?_
          refine wpAny_comprehension_free (gs := []) rfl (folded_plain (iterOf_notSet hit) env) (closure_eq fun y hy hyf => X.cells K.cvar _ (K.free y hy hyf)) K.kind K.loc ?_
          refine compHead_at G (cmp_plain hit) hitE h1 hi (fun q => ?_) X R fun s₁ ρ₁ o st X₁ R₁ it => ?_
          · rw [q] at hrev
            induction v₁ using V.casesOn <;> simp [isLst] at hrev ⊢
          · refine comp_core K.cvar K.kind K.var K.cell K.free helt hconds X₁ R₁ it h2 fun D Cn s' ρ' mm st' rv ns hC => ?_
            have hn : s.heap.get? Cn = none := by
              cases e : s.heap.get? Cn with
              | none => rfl
              | some o' => obtain ⟨o2, e2⟩ := st.2.1.live _ _ e; (replace e2 := Eq.trans (Eq.symm (hC.new ..)) (e2)); cases e2
            exact hRR D Cn s' ρ' mm (st.trans st') rv ns hn hC.out hC.nfix
        · cases hf
      · cases hf
  · cases hf
theorem comp_after {own : List Addr} {s' : Shared} {ρ' : List Addr} {Cn : Addr} {h'' : Heap} (st : Stp HH w own ρ s ρ' σ' s') (hn : s.heap.get? Cn = none) (ho : Cn ∉ ρ') (hf : ∀ o, s'.heap.get? Cn = some o -> ¬ Fix o) (hH : HH.StaysIn s.heap)
    (hs : Heap.SameBut Cn s'.heap h'') : Stp HH w own ρ s ρ' σ' { s' with heap := h'' } /\ ∀ b o, s'.heap.get? b = some o -> Fix o -> h''.get? b = some o := by
  refine el03 (st) fun z83_0 e1 r1 => ?_
  obtain ⟨h1, t1, rfl⟩ := z83_0
  have hd : Hid s.heap ρ' h1 Cn := ⟨hn, ho, hf⟩
  exact ⟨⟨⟨_, _, rfl⟩, e1.hidden hs.extBut hn, r1.hidden hd hs.extBut hH⟩, hd.fix hs.extBut⟩
theorem snd_comp {scope : Scope} {x : Str} {px pos : Pos} {elt iter : Expr} {ifs : List Expr} {celt cit : CE} {cconds : List CE} {m : Nat}
    (G : Gl w HH fa mg mb) (K : CompOk c scope x) (hit : cmpE m c (iterOf c iter).1 = some cit) (hitE : SndE HH d w (iterOf c iter).1 c (ev C n cit) false)
    (helt : SndE HH d w elt ⟨compNames c scope, some x⟩ (ev C n celt) false) (hconds : All2 (T2 HH w d ⟨compNames c scope, some x⟩ C n) ifs cconds) :
    SndE HH d w (.ListComp elt [⟨.Name x px, iter, ifs, 0⟩] scope pos) c (ev C (n + 1) (.comp celt cit cconds (iterOf c iter).2)) false := by
  intro A env frames ρ ls cv σ v σ' s E hf X R
  rw [eval_ListComp]
  show wpAny _ _ (comprehension _ scope env iter.pos (newList []) false (eval iter env) none) _ _ _
  refine comp_at (use := none) G K hit hitE helt hconds hf X R fun D Cn s' ρ' mm st rv ns hn ho hfx => ?_
  refine ⟨mm, ns, fun h'' hs => ?_⟩
  refine el02 (comp_after st hn ho hfx R.stays hs) fun st' fx => ?_
  exact ⟨⟨ρ', st', RepV.mono' (List.prefix_refl _) fx rv⟩, fun q => nomatch q⟩
end
end
end Mine
end
section
set_option tactic.hygienic false
open PySem PySem.W PySem.Calls PyProof.Rows
namespace Mine
noncomputable section
section
variable {HH : Heap} {fa : Nat -> Addr} {mg mb : Str -> Option Value} {w : World} {C : Calls} {d : Nat}
theorem snd_zero {e : Expr} {c : CEnv} {ce : CE} {pu : Bool} : SndE HH d w e c (ev C 0 ce) pu := by
  intro A env frames ρ ls cv σ v σ' s E hf X R
  exact no_some hf
theorem tst_zero {e : Expr} {c : CEnv} {ce : CE} {pu : Bool} : SndT HH d w e c (tst C 0 ce) pu := by
  intro A env frames ρ ls cv σ v σ' s E hf X R
  exact no_some hf
noncomputable abbrev Both (HH : Heap) (d : Nat) (w : World) (C : Calls) (c : CEnv) (e : Expr) (ce : CE) : Prop :=
  (∀ n, SndE HH d w e c (ev C n ce) (pureE ce)) /\ (∀ n, SndT HH d w e c (tst C n ce) (pureE ce))
theorem both_val {e : Expr} {c : CEnv} {ce : CE} (h : ∀ n, SndE HH d w e c (ev C (n + 1) ce) (pureE ce))
    (hg : ∀ n ls cv σ, tst C (n + 1) ce ls cv σ = match ev C n ce ls cv σ with | some (v, σ) => (truth v σ).map (·, σ) | none => none)
    (hw : ∀ env, PySem.isTrue e env (eval e env) = (do let v <- eval e env; standAt e.pos; holding [v] (truthy v))) : Both HH d w C c e ce := by
  have hE : ∀ n, SndE HH d w e c (ev C n ce) (pureE ce) := fun n => by
    induction n using Nat.casesOn with
    | zero => exact snd_zero
    | succ n => exact h n
  refine ⟨hE, fun n => ?_⟩
  induction n using Nat.casesOn with
  | zero => exact tst_zero
  | succ n => exact tst_val (hE n) (hg n) hw
theorem all2_both {m : Nat} {c : CEnv} {es : List Expr} {ces : List CE} (ih : ∀ e ce, cmpE m c e = some ce -> Both HH d w C c e ce) (h : allM (cmpE m c) es = some ces) (n : Nat) :
    All2 (E2 HH w d c C n) es ces /\ All2 (T2 HH w d c C n) es ces := by
  have := allM_all2 h
  exact ⟨this.mono fun e ce q => ⟨cmp_plain q, snd_weak ((ih e ce q).1 n)⟩, this.mono fun e ce q => by
    intro A env frames ρ ls cv σ v σ' s E hf X R
    exact wpAny_mono ((ih e ce q).2 n hf X R) (fun _ _ h => ⟨h.1, fun q => nomatch q⟩) fun _ _ h => h⟩
theorem all2_len {α β : Type} {P : α -> β -> Prop} {l : List α} {m : List β} (r : All2 P l m) : l.length = m.length := by
  induction r with
  | nil => exact rfl
  | cons _ _ k => exact congrArg (· + 1) k
theorem both_cmp {c : CEnv} {a b : Expr} {op : Co} {p : Pos} {ca cb : CE} (hp : Plain b) (hn : op = .isNone \/ op = .isNot -> cb = .none) (ha : ∀ n, SndE HH d w a c (ev C n ca) false) (hb : ∀ n, SndE HH d w b c (ev C n cb) false) :
    Both HH d w C c (.Compare a [cop op] [b] p) (.cmp op ca cb) := by
  refine ⟨fun n => ?_, fun n => ?_⟩
  · induction n using Nat.casesOn with
    | zero => exact snd_zero
    | succ n => exact snd_cmp rfl hp hn (ha n) (hb n)
  · induction n using Nat.casesOn with
    | zero => exact tst_zero
    | succ n =>
      induction n using Nat.casesOn with
      | zero => intro A env frames ρ ls cv σ v σ' s E hf X R; exact no_some hf
      | succ n => exact tst_cmp rfl hp hn (ha n) (hb n)
theorem both_or {c : CEnv} {es : List Expr} {ces : List CE} {p : Pos} (h : ∀ n, All2 (T2 HH w d c C n) es ces) : Both HH d w C c (.BoolOp .Or es p) (.or ces) := by
  refine ⟨fun n => ?_, fun n => ?_⟩
  · induction n using Nat.casesOn with
    | zero => exact snd_zero
    | succ n => intro A env frames ρ ls cv σ v σ' s E hf X R; exact no_some hf
  · induction n using Nat.casesOn with
    | zero => exact tst_zero
    | succ n => exact tst_or (h n)
theorem both_and {c : CEnv} {es : List Expr} {ces : List CE} {p : Pos} (h : ∀ n, All2 (E2 HH w d c C n) es ces /\ All2 (T2 HH w d c C n) es ces) : Both HH d w C c (.BoolOp .And es p) (.and ces) := by
  refine ⟨fun n => ?_, fun n => ?_⟩
  · induction n using Nat.casesOn with
    | zero => exact snd_zero
    | succ n => exact snd_and (h n).1
  · induction n using Nat.casesOn with
    | zero => exact tst_zero
    | succ n => exact tst_and (h n).2
theorem both_not {c : CEnv} {a : Expr} {ca : CE} {p : Pos} (h : Both HH d w C c a ca) : Both HH d w C c (.UnaryOp .Not a p) (.not ca) := by
  refine ⟨fun n => ?_, fun n => ?_⟩
  · induction n using Nat.casesOn with
    | zero => exact snd_zero
    | succ n => exact snd_not (snd_weak (h.1 n))
  · induction n using Nat.casesOn with
    | zero => exact tst_zero
    | succ n =>
      refine tst_not ?_
      intro A env frames ρ ls cv σ v σ' s E hf X R
      exact wpAny_mono (h.2 n hf X R) (fun _ _ h => ⟨h.1, fun q => nomatch q⟩) fun _ _ h => h
theorem both_ite {c : CEnv} {t a b : Expr} {ct ca cb : CE} {p : Pos} (ht : Both HH d w C c t ct) (ha : ∀ n, SndE HH d w a c (ev C n ca) false) (hb : ∀ n, SndE HH d w b c (ev C n cb) false) : Both HH d w C c (.IfExp t a b p) (.ite ct ca cb) := by
  refine ⟨fun n => ?_, fun n => ?_⟩
  · induction n using Nat.casesOn with
    | zero => exact snd_zero
    | succ n => exact snd_ite (ht.2 n) (ha n) (hb n)
  · induction n using Nat.casesOn with
    | zero => exact tst_zero
    | succ n => intro A env frames ρ ls cv σ v σ' s E hf X R; exact no_some hf
theorem both_chain {c : CEnv} {a b e f : Expr} {ca cb ce cf : CE} {p : Pos} (hp : Plain f) (ha : Both HH d w C c a ca) (hb : Both HH d w C c b cb) (he : Both HH d w C c e ce) (hf : Both HH d w C c f cf) :
    Both HH d w C c (.Compare a [.Lt, .Lt, .Lt] [b, e, f] p) (.chain ca cb ce cf) := by
  refine ⟨fun n => ?_, fun n => ?_⟩
  · induction n using Nat.casesOn with
    | zero => exact snd_zero
    | succ n => intro A env frames ρ ls cv σ v σ' s E hf X R; exact no_some hf
  · induction n using Nat.casesOn with
    | zero => exact tst_zero
    | succ n => exact tst_chain hp (ha.1 n) (hb.1 n) (he.1 n) (hf.1 n)
theorem snd_neg {c : CEnv} {i : Int} {k : Nat} {q p : Pos} {pu : Bool} {n : Nat} : SndE HH d w (.UnaryOp .USub (.Constant (.int i) k q) p) c (ev C (n + 1) (.int (-i))) pu := by
  intro A env frames ρ ls cv σ v σ' s E hf X R
  cases (show some (V.int (-i), σ) = some (v, σ') from hf)
  exact wpAny_UnaryOp (wpAny_Constant_int (neg_int ⟨⟨ρ, Stp.toks R _, .int _ _⟩, fun _ => rfl⟩))
theorem fun_debug : ∀ f ∈ funNames, (f == ("__debug__" : Str)) = false := by decide +kernel
theorem both_comp {m : Nat} {c ci : CEnv} {elt : Expr} {g : Comprehension} {scope : Scope} {p : Pos} {x : Str} {a b : CE} {cs : List CE} (G : Gl w HH fa mg mb) (ih : ∀ (c : CEnv) (e : Expr) (ce : CE), cmpE m c e = some ce -> Both HH (d + 1) w C c e ce)
    (hci : compInfo c g scope = some (x, ci)) (ha : cmpE m ci elt = some a) (hb : cmpE m c (iterOf c g.iter).1 = some b) (hcs : allM (cmpE m ci) g.ifs = some cs) : Both HH (d + 1) w C c (.ListComp elt [g] scope p) (.comp a b cs (iterOf c g.iter).2) := by
  refine el04 (compInfo_inv hci) fun K z107_1 hy q107_3 => ?_
  obtain ⟨px, ht⟩ := z107_1
  subst q107_3
  obtain ⟨gt, gi, gf, ga⟩ := g
  cases ht
  cases hy
  exact both_val (fun n => snd_comp G K hb (snd_weak ((ih _ _ _ hb).1 n)) (snd_weak ((ih _ _ _ ha).1 n)) (all2_both (ih _) hcs n).2) (fun _ _ _ _ => rfl) fun _ => rfl
theorem main_expr (G : Gl w HH fa mg mb) (CO : CallsOk w HH fa C (d + 1)) : ∀ (m : Nat) (c : CEnv) (e : Expr) (ce : CE), cmpE m c e = some ce -> Both HH (d + 1) w C c e ce
  | 0, _, _, _, h => no_some h
  | m + 1, c, e, ce, h => by
    have ih := main_expr G CO m
    have ihE : ∀ {c : CEnv} {e : Expr} {ce : CE}, cmpE m c e = some ce -> ∀ n, SndE HH (d + 1) w e c (ev C n ce) false := fun q n => snd_weak ((ih _ _ _ q).1 n)
    cases cmp_view h with
    | none => exact both_val (fun n => snd_none) (fun _ _ _ _ => rfl) fun _ => rfl
    | bool => exact both_val (fun n => snd_bool) (fun _ _ _ _ => rfl) fun _ => rfl
    | int => exact both_val (fun n => snd_int) (fun _ _ _ _ => rfl) fun _ => rfl
    | str hw => exact both_val (fun n => snd_str hw) (fun _ _ _ _ => rfl) fun _ => rfl
    | var hd hr => exact both_val (fun n => snd_var hr hd) (fun _ _ _ _ => rfl) fun _ => rfl
    | cv hd hr => exact both_val (fun n => snd_cv hr hd) (fun _ _ _ _ => rfl) fun _ => rfl
    | and hc => exact both_and (all2_both (ih c) hc)
    | or hc => exact both_or (fun n => (all2_both (ih c) hc n).2)
    | bin ha hb => exact both_val (fun n => snd_bin rfl (ihE ha n) (ihE hb n)) (fun _ _ _ _ => rfl) fun _ => rfl
    | not ha => exact both_not (ih _ _ _ ha)
    | neg => exact both_val (fun n => snd_neg) (fun _ _ _ _ => rfl) fun _ => rfl
    | ite ht ha hb => exact both_ite (ih _ _ _ ht) (ihE ha) (ihE hb)
    | dict0 => exact both_val (fun n => snd_dict0) (fun _ _ _ _ => rfl) fun _ => rfl
    | lst hz hc => exact both_val (fun n => snd_lst (all2_both (ih c) hc n).1 (by rw [<- all2_len (allM_all2 hc)]; exact hz)) (fun _ _ _ _ => rfl) fun _ => rfl
    | tup hz hc => exact both_val (fun n => snd_tup (all2_both (ih c) hc n).1 (by rw [<- all2_len (allM_all2 hc)]; exact hz)) (fun _ _ _ _ => rfl) fun _ => rfl
    | comp hci ha hb hcs => exact both_comp G ih hci ha hb hcs
    | cmp o ho ha hb => exact both_cmp (cmp_plain hb) (fun q => q.elim (fun q => absurd q ho.1) (fun q => absurd q ho.2)) (ihE ha) (ihE hb)
    | isn o ha => exact both_cmp pl_Constant (fun _ => rfl) (ihE ha) (fun n => by
        induction n using Nat.casesOn with
        | zero => exact snd_zero
        | succ n => exact snd_none)
    | chain ha hb hd he => exact both_chain (cmp_plain he) (ih _ _ _ ha) (ih _ _ _ hb) (ih _ _ _ hd) (ih _ _ _ he)
    | pop hb hl ho => exact both_val (fun n => snd_pop hb hl (ihE ho n)) (fun _ _ _ _ => rfl) fun _ => rfl
    | app hb hl ho hx => exact both_val (fun n => snd_app hb hl (ihE ho n) (cmp_plain hx) (ihE hx n)) (fun _ _ _ _ => rfl) fun _ => rfl
    | get2 hb hl ho hx hy => exact both_val (fun n => snd_get2 hb hl (ihE ho n) (cmp_plain hx) (ihE hx n) (cmp_plain hy) (ihE hy n)) (fun _ _ _ _ => rfl) fun _ => rfl
    | call hf hg hc => exact both_val (fun n => snd_call G CO hf hg (all2_both (ih c) hc n).1 (fun_debug _ (List.mem_of_getElem? hf))) (fun _ _ _ _ => rfl) fun _ => rfl
    | newflow hg =>
      refine el03 (glob_name hg) fun q146_0 g1 g2 => ?_
      subst q146_0
      exact both_val (fun n => snd_newflow G ⟨g1, g2⟩) (fun _ _ _ _ => rfl) fun _ => rfl
    | len hg hx =>
      refine el03 (glob_name hg) fun q149_0 g1 g2 => ?_
      subst q149_0
      exact both_val (fun n => snd_len G ⟨g1, g2⟩ (cmp_plain hx) (ihE hx n)) (fun _ _ _ _ => rfl) fun _ => rfl
    | range1 hg hx =>
      refine el03 (glob_name hg) fun q152_0 g1 g2 => ?_
      subst q152_0
      exact both_val (fun n => snd_range1 G ⟨g1, g2⟩ (cmp_plain hx) (ihE hx n)) (fun _ _ _ _ => rfl) fun _ => rfl
    | mkdict hg hx =>
      refine el03 (glob_name hg) fun q155_0 g1 g2 => ?_
      subst q155_0
      exact both_val (fun n => snd_mkdict G ⟨g1, g2⟩ (cmp_plain hx) (ihE hx n)) (fun _ _ _ _ => rfl) fun _ => rfl
    | mklist hg hx =>
      refine el03 (glob_name hg) fun q158_0 g1 g2 => ?_
      subst q158_0
      exact both_val (fun n => snd_mklist G ⟨g1, g2⟩ (cmp_plain hx) (ihE hx n)) (fun _ _ _ _ => rfl) fun _ => rfl
    | range2 hg hx hy =>
      refine el03 (glob_name hg) fun q161_0 g1 g2 => ?_
      subst q161_0
      exact both_val (fun n => snd_range2 G ⟨g1, g2⟩ (cmp_plain hx) (ihE hx n) (cmp_plain hy) (ihE hy n)) (fun _ _ _ _ => rfl) fun _ => rfl
    | sorted hg hx =>
      refine el03 (glob_name hg) fun q164_0 g1 g2 => ?_
      subst q164_0
      exact both_val (fun n => snd_sorted G ⟨g1, g2⟩ (cmp_plain hx) (ihE hx n)) (fun _ _ _ _ => rfl) fun _ => rfl
    | attr hm ho => exact both_val (fun n => snd_attr G.attr hm (ihE ho n)) (fun _ _ _ _ => rfl) fun _ => rfl
    | slHi ho hh => exact both_val (fun n => snd_slHi (ihE ho n) (ihE hh n)) (fun _ _ _ _ => rfl) fun _ => rfl
    | idx hs ho hi => exact both_val (fun n => snd_idx hs ((ih _ _ _ ho).1 n) ((ih _ _ _ hi).1 n)) (fun _ _ _ _ => rfl) fun _ => rfl
end
end
end Mine
end
section
set_option tactic.hygienic false
open PySem PySem.W PySem.Calls PyProof.Rows
namespace Mine
noncomputable section
section
variable {M : Model} {HH : Heap} {A : Around} {E : Value -> Shared -> Prop} {s : Shared} {env : Env} {outer : List Env} {e : Addr} {cls a0 : Value}
inductive XState (HH : Heap) (cls : Value) (l : List Env) (L e : Addr) (h : Heap) : Prop
  | first {oe : Obj} {vs : Array Value} {a0 : Value} : h.get? e = some oe -> oe.cls = cls -> oe.data = .fields vs -> vs[1]? = some .none -> vs[0]? = some a0 -> HH.get? e = none -> HH.StaysIn h -> h.FunFrames HH l -> XState HH cls l L e h
  | flying {a0 : Value} : Heap.FlyingW HH l e cls a0 h -> XState HH cls l L e h
  | held {a0 : Value} : Heap.HeldW HH l e cls a0 L h -> XState HH cls l L e h
theorem noteX {L : Addr} {Q : Unit -> Shared -> Prop} (hfr : A.frames = some (env :: outer)) (hf : env.frame = some L) (x : XState HH cls (env :: outer) L e s.heap)
    (h : ∀ h' a0, Heap.HeldW HH (env :: outer) e cls a0 L h' -> s.heap.UpToSlots h' -> Q () { s with heap := h' }) : wpAny M A (noteFrame (.ref e) env) Q E s := by
  induction x using XState.casesOn with
  | first he hc hd h1 h0 hn hs hff =>
    subst hc
    unfold noteFrame
    simp only [hf]
    refine wpAny_bind (wpAny_field he hd h1 ?_)
    rw [if_neg (by decide)]
    exact wpAny_entryW hfr hff hf he hs hn hd (Array.getElem?_eq_some_iff.mp h1).1 h0 fun h' ⟨k1, k2, k3, k4⟩ => h h' _ ⟨k1, hn, k2, k3⟩ k4
  | flying hfl => exact wpAny_looks_onW hfr hf hfl fun h' x1 x2 => h h' _ x1 x2
  | held hh => exact wpAny_noteFrame_againW hf hh.2.2.2 (h s.heap _ hh (Heap.UpToSlots.refl _))
theorem backX {L : Addr} {Q : Unit -> Shared -> Prop} (hf : env.frame = some L) (hh : Heap.HeldW HH (env :: outer) e cls a0 L s.heap)
    (h : ∀ h', Heap.HeldW HH (env :: outer) e cls a0 L h' -> s.heap.UpToSlots h' -> Q () { s with heap := h' }) :
    wpAny M A (do
      if (<- field (.ref e) 1) == .none then unsupported "frame.own-activation:exception-without-traceback"
      setFlight (.ref e) env.frame) Q E s := by
  obtain ⟨k1, k2, k3, oe, vs, T, oT, ts, he, hc, hd, h1, hnT, hTe, hT, hdT, h3⟩ := hh
  refine wpAny_bind (wpAny_field he hd h1 ?_)
  rw [if_neg (show ¬ ((Value.ref T == Value.none) = true) from by simp)]
  unfold setFlight
  rw [hf]
  refine wpAny_bind (wpAny_field he hd h1 ?_)
  rw [if_pos (show (Value.ref T != Value.none) = true from by simp)]
  have hsz3 := (Array.getElem?_eq_some_iff.mp h3).1
  refine wpAny_setField hT hdT hsz3 ?_
  show Q () { s with heap := s.heap.update T (Obj.mapFields (·.setIfInBounds 3 (rawInt L))) }
  have other : ∀ b, b ≠ T -> (s.heap.update T (Obj.mapFields (·.setIfInBounds 3 (rawInt L)))).get? b = s.heap.get? b := fun b hb => Heap.get?_update_other _ _ (Ne.symm hb)
  have noRecord : ∀ b o, s.heap.get? b = some o -> (∀ vs, o.data ≠ .fields vs) -> b ≠ T := fun b o hb hnf q => by
    rw [q, hT] at hb; injection hb with hb; subst hb; exact hnf ts hdT
  refine h _ ⟨fun b o hbo => (other b fun q => by rw [q, hnT] at hbo; (exact no_so hbo)).trans (k1 b o hbo), k2, k3.of_keeps fun b o hb hnf => ⟨o, (other b (noRecord b o hb hnf)).trans hb, rfl⟩, ?_⟩ fun b o hb hnf => ⟨o.slots, (other b (noRecord b o hb hnf)).trans hb⟩
  exact ⟨oe, vs, T, _, _, (other e (Ne.symm hTe)).trans he, hc, hd, h1, hnT, hTe, Heap.get?_update_self _ hT (Obj.isFreed_of_fields (Obj.data_mapFields hdT _)), Obj.data_mapFields hdT _, by simp [hsz3]⟩
theorem leaveX {L : Addr} {Q : Unit -> Shared -> Prop} (hfr : A.frames = some (env :: outer)) (hf : env.frame = some L) (x : XState HH cls (env :: outer) L e s.heap)
    (h : ∀ h' a0, Heap.FlyingW HH outer e cls a0 h' -> s.heap.UpToSlots h' -> Q () { s with heap := h' }) : wpAny M A (leaving env (.ref e)) Q E s := by
  unfold leaving
  refine wpAny_bind (noteX hfr hf x fun h₁ a0 hh u₁ => ?_)
  refine wpAny_landsW hh fun h₂ hfl u₂ => ?_
  refine cpf fun rq => ?_
  refine el04 (hfl) fun k1 k2 z52_2 k4 => ?_
  obtain ⟨_, _, k3⟩ := z52_2
  refine rq ?_
  exact h h₂ a0 ⟨k1, k2, k3, k4⟩ (u₁.trans u₂)
end
end
end Mine
end
section
open PySem PySem.W PySem.Calls PyProof.Rows
namespace Mine
noncomputable section
noncomputable def owns (env : Env) : List Addr := env.locals :: env.cells.map (·.2)
noncomputable def Kept (own : List Addr) (h h' : Heap) : Prop := ∀ a o, h.get? a = some o -> a ∉ own -> h'.get? a = some o
noncomputable def Slots (own ρ : List Addr) (h h' : Heap) : Prop := ∀ a o, h.get? a = some o -> a ∉ ρ -> a ∉ own -> (∀ vs, o.data ≠ .fields vs) -> ∃ sl, h'.get? a = some { o with slots := sl }
section
variable (HH : Heap)
structure SCtx (A : Around) (d : Nat) (env : Env) (outer : List Env) : Prop where
  kind : env.scope.kind = .function
  globals : env.globals = mainGlobals
  builtins : env.builtins = builtinsNs
  handled : A.handled = none
  depth : A.depth + d <= 400
  units : A.units + 20 * d <= 1000
  fr : A.frames = some (env :: outer)
  frame : env.frame = some env.locals
  names : (env.scope.names.map (·.1)).Nodup
  sep : ∀ x ca, env.cells.lookup x = some ca -> ca ≠ env.locals
  inj : ∀ x y ca, env.cells.lookup x = some ca -> env.cells.lookup y = some ca -> x = y
  celk : ∀ y, env.scope.names.lookup y = some .cell -> ∃ ca, env.cells.lookup y = some ca
  base : ∀ a ∈ owns env, HH.get? a = none
  outn : ∀ b ∈ outer.filterMap (·.frame), b ∉ owns env
  inter : interactive env = false
structure FrameOk (env : Env) (outer : List Env) (ρ : List Addr) (h : Heap) (ls : Ls) : Prop where
  len : ls.length = env.scope.names.length
  ff : h.FunFrames HH outer
  fn : ∀ b ∈ outer.filterMap (·.frame), Safe ρ h b
  loc : Safe ρ h env.locals
  cel : ∀ p ∈ env.cells, Safe ρ h p.2
  ns : ∃ m, h.Ns env.locals m /\ ∀ (i : Nat) (x : Str) (v : V), env.scope.names[i]? = some (x, NameKind.local) -> ls[i]? = some (some v) -> ∃ y, m x = some y /\ RepV HH ρ h v y
  cells : ∀ (i : Nat) (x : Str), env.scope.names[i]? = some (x, NameKind.cell) -> ∃ ca vo, env.cells.lookup x = some ca /\ h.IsCell ca vo /\ ∀ v, ls[i]? = some (some v) -> ∃ y, vo = some y /\ RepV HH ρ h v y
noncomputable def SPost (w : World) (env : Env) (outer : List Env) (ρ : List Addr) (s : Shared) (pu : Bool) (out : Out) (f : Flow) (s' : Shared) : Prop :=
  (pu = true -> Kept (owns env) s.heap s'.heap) /\ match out with
  | .next ls' σ' => f = .next /\ ∃ ρ', Stp HH w (owns env) ρ s ρ' σ' s' /\ FrameOk HH env outer ρ' s'.heap ls'
  | .cont ls' σ' => f = .cont /\ ∃ ρ', Stp HH w (owns env) ρ s ρ' σ' s' /\ FrameOk HH env outer ρ' s'.heap ls'
  | .ret v σ' => ∃ x, f = .ret x /\ ∃ ρ', Stp HH w (owns env) ρ s ρ' σ' s' /\ RepV HH ρ' s'.heap v x
  | .exc => False
noncomputable def SExc (env : Env) (outer : List Env) (ρ : List Addr) (s : Shared) (out : Out) (e : Value) (s' : Shared) : Prop := match out with
  | .exc => ∃ ea, e = .ref ea /\ (∃ h' tk, s' = { s with heap := h', toks := tk }) /\ XState HH (.ref 44) (env :: outer) env.locals ea s'.heap /\ Slots (owns env) ρ s.heap s'.heap
  | _ => False
noncomputable def SndS (d : Nat) (w : World) (t : Env -> Sem Flow) (names : List (Str × NameKind)) (f : Ls -> Sto -> Option Out) (pu : Bool) : Prop :=
  ∀ {A : Around} {env : Env} {outer : List Env} {ρ : List Addr} {ls : Ls} {σ : Sto} {out : Out} {s : Shared},
    f ls σ = some out -> env.scope.names = names -> SCtx HH A d env outer -> FrameOk HH env outer ρ s.heap ls -> HeapRep HH w ρ s.heap σ ->
    wpAny (model prog w) A (t env) (SPost HH w env outer ρ s pu out) (SExc HH env outer ρ s out) s
end
section
variable {HH : Heap} {w : World} {A : Around} {E : Value -> Shared -> Prop} {ρ ρ₁ ρ₂ own : List Addr} {s s₁ s₂ : Shared} {σ σ₁ σ' : Sto} {h h' : Heap} {C : Calls} {n d : Nat} {names : List (Str × NameKind)} {env : Env} {outer : List Env} {ls : Ls}
theorem mem_owns_cell {x : Str} {ca : Addr} (e : env.cells.lookup x = some ca) : (x, ca) ∈ env.cells := by
  generalize env.cells = l at e ⊢
  induction l with
  | nil => cases e
  | cons p r ih =>
    obtain ⟨y, b⟩ := p
    rw [List.lookup_cons] at e
    split at e
    · rename_i q
      (replace e := Option.some.inj e; subst e)
      rw [beq_iff_eq.mp q]
      exact .head _
    · exact .tail _ (ih e)
theorem Kept.refl : Kept own h h := fun _ _ e _ => e
theorem Kept.trans {h₁ : Heap} (x : Kept own h h₁) (y : Kept own h₁ h') : Kept own h h' := fun a o e n => y a o (x a o e n) n
theorem Kept.of_eq (e : h' = h) : Kept own h h' := fun _ _ q _ => by rw [e]; exact q
theorem slot_find {x : Str} {i : Nat} : ∀ {l : List (Str × NameKind)} {k : NameKind} {y : Str}, l.findIdx? (fun y => y.1 == x) = some i -> l[i]? = some (y, k) -> y = x /\ l.lookup x = some k
  | [], _, _, h, _ => by cases h
  | (z, kz) :: r, k, y, h, e => by
    (replace h := Eq.trans (Eq.symm (List.findIdx?_cons ..)) (h))
    split at h
    · rename_i q
      (replace h := Option.some.inj h; subst h)
      cases e
      have := beq_iff_eq.mp q
      simp only at this
      subst this
      exact ⟨rfl, by simp⟩
    · rename_i q
      cases hr : r.findIdx? (fun y => y.1 == x) with
      | none => rw [hr] at h; cases h
      | some j =>
        rw [hr] at h
        cases h
        refine el02 (slot_find hr (show r[j]? = some (y, k) from e)) fun a b => ?_
        refine ⟨a, ?_⟩
        (refine Eq.trans (List.lookup_cons ..) ?_)
        have q' : (x == z) = false := beq_eq_false_iff_ne.mpr fun z' => q (by subst z'; exact beq_self_eq_true _)
        rw [q']
        exact b
theorem resolve_slot {x : Str} {i : Nat} (h : resolve ⟨names, none⟩ x = .slot i) : ∃ k, (k = .local \/ k = .cell) /\ names[i]? = some (x, k) /\ names.lookup x = some k := by
  unfold resolve at h
  have : ((none : Option Str) == some x) = false := rfl
  simp only [this, Bool.false_eq_true, if_false] at h
  refine cpf fun rq => ?_
  split at h
  · rename_i j hj
    split at h
    · rename_i y k hk
      split at h
      · rename_i hv
        (replace h := Mine.Ref.slot.inj h; subst h)
        refine el02 (slot_find hj hk) fun a b => ?_
        subst a
        refine rq ?_
        refine ⟨k, ?_, hk, b⟩
        induction k using NameKind.casesOn <;> first | exact .inl rfl | exact .inr rfl | exact Bool.noConfusion hv
      · refine rq ?_
        (exact Mine.Ref.noConfusion h)
    · refine rq ?_
      (exact Mine.Ref.noConfusion h)
  · refine rq ?_
    (exact Mine.Ref.noConfusion h)
theorem slotOf_inv {x : Str} {i : Nat} {c : CEnv} (h : slotOf? c x = some i) : resolve c x = .slot i := by
  unfold slotOf? at h
  split at h
  · rename_i j hj; (replace h := Option.some.inj h; subst h); exact hj
  · (exact no_so h)
theorem SCtx.ectx (S : SCtx HH A d env outer) (F : FrameOk HH env outer ρ h ls) : ECtx HH A d env ⟨env.scope.names, none⟩ (env :: outer) ρ h ls none where
  kind := S.kind
  globals := S.globals
  builtins := S.builtins
  handled := S.handled
  depth := S.depth
  units := S.units
  fr := S.fr
  ff := by
    refine cpf fun rq => ?_
    refine el12 (F.ns) fun m z134_1 _ => ?_
    obtain ⟨o, es, ep, ho, hd, _⟩ := z134_1
    refine rq ?_
    exact ⟨by rw [S.kind]; simp, ⟨env.locals, o, S.frame, S.base _ (.head _), ho, fun vs q => by rw [hd] at q; (exact PySem.Data.noConfusion q)⟩, F.ff⟩
  fn := fun b hb => by
    rw [List.filterMap_cons, S.frame] at hb
    rcases List.mem_cons.mp hb with e | hb
    · subst e; exact F.loc
    · exact F.fn b hb
  loc := F.loc
  cel := fun x ca q => F.cel _ (mem_owns_cell q)
  glob := fun _ => rfl
  cells := fun _ => S.celk
  slot := fun x i v hr hv => by
    refine cpf fun rq => ?_
    refine el13 (resolve_slot hr) fun k hk h1 h2 => ?_
    rcases hk with rfl | rfl
    · refine el12 (F.ns) fun m hm hr => ?_
      refine el12 (hr i x v h1 hv) fun y hy r => ?_
      refine rq ?_
      exact ⟨y, .inl ⟨h2, m, hm, hy⟩, r⟩
    · refine el23 (F.cells i x h1) fun ca vo hc hi hr => ?_
      refine el12 (hr v hv) fun y q152_1 r => ?_
      subst q152_1
      refine rq ?_
      exact ⟨y, .inr ⟨h2, ca, hc, hi⟩, r⟩
  cvar := fun x v _ q => nomatch q
theorem FrameOk.move (F : FrameOk HH env outer ρ h ls) (hp : ρ <+: ρ₁) (hf : ∀ a o, h.get? a = some o -> Fix o -> h'.get? a = some o)
    (ho : ∀ b, b ∈ owns env \/ b ∈ outer.filterMap (·.frame) -> Safe ρ h b -> b ∉ ρ₁ /\ ∀ o, h.get? b = some o -> h'.get? b = some o) : FrameOk HH env outer ρ₁ h' ls := by
  have hs : ∀ b, b ∈ owns env \/ b ∈ outer.filterMap (·.frame) -> Safe ρ h b -> Safe ρ₁ h' b := fun b hb q => by
    refine el02 (ho b hb q) fun h1 h2 => ?_
    obtain ⟨_, o, e⟩ := q
    exact ⟨h1, o, h2 o e⟩
  have hcm : ∀ p ∈ env.cells, p.2 ∈ owns env := fun p hp => .tail _ (List.mem_map.mpr ⟨p, hp, rfl⟩)
  refine ⟨F.len, funFrames_keep F.ff fun b hb => (ho b (.inr hb) (F.fn b hb)).2, fun b hb => hs b (.inr hb) (F.fn b hb), hs _ (.inl (.head _)) F.loc, fun p q => hs _ (.inl (hcm p q)) (F.cel p q), ?_, fun i x q => ?_⟩
  · refine el12 (F.ns) fun m hm hr => ?_
    exact ⟨m, hm.at' (ho _ (.inl (.head _)) F.loc).2, fun i x v h1 h2 => let ⟨y, hy, r⟩ := hr i x v h1 h2; ⟨y, hy, RepV.mono' hp hf r⟩⟩
  · refine el23 (F.cells i x q) fun ca vo hc hi hr => ?_
    have hm := mem_owns_cell hc
    exact ⟨ca, vo, hc, cell_keep hi (ho ca (.inl (hcm _ hm)) (F.cel _ hm)).2, fun v hv => let ⟨y, hy, r⟩ := hr v hv; ⟨y, hy, RepV.mono' hp hf r⟩⟩
theorem FrameOk.mono (F : FrameOk HH env outer ρ h ls) (e : Evo [] ρ h ρ₁ h') : FrameOk HH env outer ρ₁ h' ls :=
  F.move e.pre e.fix fun b _ q => ⟨(q.mono e).1, fun o ho => e.keep b o ho (fun q => nomatch q) q.1⟩
end
end
end Mine
end
section
open PySem PySem.W PySem.Calls PyProof.Rows
namespace Mine
noncomputable section
section
variable {HH : Heap} {w : World} {A : Around} {E : Value -> Shared -> Prop} {ρ ρ₁ ρ₂ own : List Addr} {s s₁ s₂ : Shared} {σ σ₁ σ' : Sto} {h h' : Heap} {C : Calls} {n d : Nat} {names : List (Str × NameKind)} {env : Env} {outer : List Env} {ls : Ls}
theorem names_inj {l : List (Str × NameKind)} (hn : (l.map (·.1)).Nodup) {i j : Nat} {x : Str} {k k' : NameKind} (h1 : l[i]? = some (x, k)) (h2 : l[j]? = some (x, k')) : i = j := by
  refine el11 (List.getElem?_eq_some_iff.mp h1) fun a b => ?_
  refine el11 (List.getElem?_eq_some_iff.mp h2) fun c d => ?_
  have : (l.map (·.1))[i]'(by simpa using a) = (l.map (·.1))[j]'(by simpa using c) := by simp [b, d]
  exact (List.getElem_inj hn).mp this
theorem set_get {l : Ls} {i j : Nat} {v u : V} (h : (l.set i (some v))[j]? = some (some u)) : (i = j /\ u = v) \/ (i ≠ j /\ l[j]? = some (some u)) := by
  by_cases q : i = j
  · subst q
    (replace h := Eq.trans (Eq.symm (List.getElem?_set_self' ..)) (h))
    cases e : l[i]? with
    | none => rw [e] at h; cases h
    | some z => rw [e] at h; cases h; exact .inl ⟨rfl, rfl⟩
  · (replace h := Eq.trans (Eq.symm (List.getElem?_set_ne q ..)) (h)); exact .inr ⟨q, h⟩
theorem own_over {a : Addr} {o o' : Obj} (R : HeapRep HH w ρ h σ) (ha : a ∈ owns env) (hb : HH.get? a = none) (hr : a ∉ ρ) (ho : h.get? a = some o) (hn : ¬ Fix o) (ho' : h'.get? a = some o') (hs : Heap.SameBut a h h') :
    Evo (owns env) ρ h ρ h' /\ HeapRep HH w ρ h' σ /\ Kept (owns env) h h' := by
  have e : Evo (owns env) ρ h ρ h' := Evo.sameBut hs ho hn ho' (.inl ha)
  refine ⟨e, R.keeps (fun b hb' o q => ?_) e.fix fun b o q => ?_, fun b o q hbn => ?_⟩
  · exact (hs.2 b fun z => hr (z ▸ hb')).trans q
  · exact (hs.2 b fun z => by rw [z, hb] at q; (exact no_so q)).trans (R.stays b o q)
  · exact (hs.2 b fun z => hbn (z ▸ ha)).trans q
theorem dict_notFix {o : Obj} {es ep} (h : o.data = .dict es ep) : ¬ Fix o := fun q => by rcases q with q | q | q <;> simp [h] at q
theorem cell_notFix {o : Obj} {v} (h : o.data = .cell v) : ¬ Fix o := fun q => by rcases q with q | q | q <;> simp [h] at q
theorem store_at {M : Model} {x : Str} {i : Nat} {y : Value} {v : V} {Q : Unit -> Shared -> Prop} (S : SCtx HH A d env outer) (F : FrameOk HH env outer ρ s.heap ls) (R : HeapRep HH w ρ s.heap σ)
    (hr : resolve ⟨env.scope.names, none⟩ x = .slot i) (rv : RepV HH ρ s.heap v y)
    (k : ∀ s', Stp HH w (owns env) ρ s ρ σ s' -> Kept (owns env) s.heap s'.heap -> FrameOk HH env outer ρ s'.heap (ls.set i (some v)) -> Q () s') : wpAny M A (storeName env x y) Q E s := by
  refine el13 (resolve_slot hr) fun kd hk h1 h2 => ?_
  rcases hk with rfl | rfl
  · refine el12 (F.ns) fun m hm hmr => ?_
    refine wpAny_storeName_local (show env.kindOf x = some .local from h2) hm (fun h' hn' hs => ?_) (by rw [S.kind]; rfl)
    refine el33 (hm) fun o es ep ho hd _ => ?_
    refine el33 (id hn') fun o' es' ep' ho' hd' _ => ?_
    refine el03 (own_over (env := env) R (.head _) (S.base _ (.head _)) F.loc.1 ho (dict_notFix hd) ho' hs) fun e R' kp => ?_
    refine k _ ⟨⟨_, _, rfl⟩, e, R'⟩ kp ⟨by (refine Eq.trans (List.length_set ..) ?_); exact F.len, funFrames_keep F.ff fun b hb o q => kp b o q (S.outn b hb), fun b hb => (F.fn b hb).mono e, F.loc.mono e, fun p q => (F.cel p q).mono e, ⟨_, hn', fun j z u q1 q2 => ?_⟩, fun j z q => ?_⟩
    · rcases set_get q2 with ⟨rfl, rfl⟩ | ⟨hne, q2⟩
      · (replace q1 := Eq.trans (Eq.symm (h1 ..)) (q1)); (refine some2 q1 fun w46_0 w46_1 => ?_; clear q1; subst w46_0; clear w46_1)
        exact ⟨y, by simp, rv.mono e⟩
      · refine el12 (hmr j z u q1 q2) fun y' hy' r' => ?_
        have hzx : z ≠ x := fun z' => by subst z'; exact hne (names_inj S.names h1 q1)
        exact ⟨y', by simp only [if_neg hzx]; exact hy', r'.mono e⟩
    · refine el23 (F.cells j z q) fun ca vo hc hi hr' => ?_
      have hne : i ≠ j := fun z' => by subst z'; (replace q := Eq.trans (Eq.symm (h1 ..)) (q)); cases q
      refine ⟨ca, vo, hc, cell_keep hi fun o q => (hs.2 ca (S.sep z ca hc)).trans q, fun u q2 => ?_⟩
      (replace q2 := Eq.trans (Eq.symm (List.getElem?_set_ne hne ..)) (q2))
      refine el12 (hr' u q2) fun y' hy' r' => ?_
      exact ⟨y', hy', r'.mono e⟩
  · refine el23 (F.cells i x h1) fun ca vo hc hi hcr => ?_
    refine wpAny_storeName_cell S.kind (show env.kindOf x = some .cell from h2) hc hi fun h' hn' hs => ?_
    refine el12 (hi) fun o ho hd => ?_
    refine el12 (id hn') fun o' ho' hd' => ?_
    have hmem := mem_owns_cell hc
    have hown : ca ∈ owns env := .tail _ (List.mem_map.mpr ⟨_, hmem, rfl⟩)
    refine el03 (own_over (env := env) R hown (S.base _ hown) (F.cel _ hmem).1 ho (cell_notFix hd) ho' hs) fun e R' kp => ?_
    refine k _ ⟨⟨_, _, rfl⟩, e, R'⟩ kp ⟨by (refine Eq.trans (List.length_set ..) ?_); exact F.len, funFrames_keep F.ff fun b hb o q => kp b o q (S.outn b hb), fun b hb => (F.fn b hb).mono e, F.loc.mono e, fun p q => (F.cel p q).mono e, ?_, fun j z q => ?_⟩
    · refine el12 (F.ns) fun m hm hmr => ?_
      refine ⟨m, hm.at' fun o q => (hs.2 _ (Ne.symm (S.sep x ca hc))).trans q, fun j z u q1 q2 => ?_⟩
      have hne : i ≠ j := fun z' => by subst z'; (replace q1 := Eq.trans (Eq.symm (h1 ..)) (q1)); cases q1
      (replace q2 := Eq.trans (Eq.symm (List.getElem?_set_ne hne ..)) (q2))
      refine el12 (hmr j z u q1 q2) fun y' hy' r' => ?_
      exact ⟨y', hy', r'.mono e⟩
    · by_cases hij : i = j
      · subst hij
        (replace q := Eq.trans (Eq.symm (h1 ..)) (q)); (refine some2 q fun w73_0 w73_1 => ?_; clear q; subst w73_0; clear w73_1)
        refine ⟨ca, some y, hc, hn', fun u q2 => ?_⟩
        rcases set_get q2 with ⟨_, rfl⟩ | ⟨hne, _⟩
        · exact ⟨y, rfl, rv.mono e⟩
        · exact absurd rfl hne
      · refine el23 (F.cells j z q) fun cb vb hc' hi' hr' => ?_
        have hzx : z ≠ x := fun z' => by subst z'; exact hij (names_inj S.names h1 q)
        have hab : cb ≠ ca := fun z' => by subst z'; exact hzx (S.inj z x cb hc' hc)
        refine ⟨cb, vb, hc', cell_keep hi' fun o q => (hs.2 cb hab).trans q, fun u q2 => ?_⟩
        (replace q2 := Eq.trans (Eq.symm (List.getElem?_set_ne hij ..)) (q2))
        refine el12 (hr' u q2) fun y' hy' r' => ?_
        exact ⟨y', hy', r'.mono e⟩
theorem SndE.use {e : Expr} {ce : CE} {pu : Bool} (hE : SndE HH d w e ⟨env.scope.names, none⟩ (ev C n ce) pu) {v : V}
    {Q : Value -> Shared -> Prop} (hf : ev C n ce ls none σ = some (v, σ₁)) (S : SCtx HH A d env outer) (F : FrameOk HH env outer ρ s.heap ls) (R : HeapRep HH w ρ s.heap σ)
    (k : ∀ x s₁ ρ₁, Stp HH w [] ρ s ρ₁ σ₁ s₁ -> RepV HH ρ₁ s₁.heap v x -> FrameOk HH env outer ρ₁ s₁.heap ls -> HeapRep HH w ρ₁ s₁.heap σ₁ -> (pu = true -> s₁.heap = s.heap) -> Q x s₁) :
    wpAny (model prog w) A (eval e env) Q E s :=
  hE.then hf (S.ectx F) R fun x s₁ ρ₁ st r _ R₁ hp => k x s₁ ρ₁ st r (F.mono st.2.1) R₁ hp
theorem SndT.use {e : Expr} {ce : CE} {pu : Bool} (hE : SndT HH d w e ⟨env.scope.names, none⟩ (tst C n ce) pu) {v : Bool}
    {Q : Bool -> Shared -> Prop} (hf : tst C n ce ls none σ = some (v, σ₁)) (S : SCtx HH A d env outer) (F : FrameOk HH env outer ρ s.heap ls) (R : HeapRep HH w ρ s.heap σ)
    (k : ∀ s₁ ρ₁, Stp HH w [] ρ s ρ₁ σ₁ s₁ -> FrameOk HH env outer ρ₁ s₁.heap ls -> HeapRep HH w ρ₁ s₁.heap σ₁ -> (pu = true -> s₁.heap = s.heap) -> Q v s₁) :
    wpAny (model prog w) A (isTrue e env (eval e env)) Q E s :=
  hE.then hf (S.ectx F) R fun s₁ ρ₁ st _ R₁ hp => k s₁ ρ₁ st (F.mono st.2.1) R₁ hp
theorem Slots.after {h₁ : Heap} (e : Evo own ρ h ρ₁ h₁) (x : Slots own ρ₁ h₁ h') : Slots own ρ h h' := fun a o q n1 n2 hd =>
  x a o (e.keep a o q n2 n1) (e.mem q n1) n2 hd
theorem SPost.after {pu : Bool} {out : Out} {f : Flow} (st : Stp HH w (owns env) ρ s ρ₁ σ₁ s₁) (kp : pu = true -> Kept (owns env) s.heap s₁.heap) (p : SPost HH w env outer ρ₁ s₁ pu out f s₂) :
    SPost HH w env outer ρ s pu out f s₂ := by
  refine el02 (p) fun p0 p => ?_
  refine ⟨fun q => (kp q).trans (p0 q), ?_⟩
  induction out using Out.casesOn with
  | next ls' σ' => obtain ⟨rfl, ρ', st', F⟩ := p; exact ⟨rfl, ρ', st.trans st', F⟩
  | cont ls' σ' => obtain ⟨rfl, ρ', st', F⟩ := p; exact ⟨rfl, ρ', st.trans st', F⟩
  | ret v σ' => obtain ⟨x, rfl, ρ', st', F⟩ := p; exact ⟨x, rfl, ρ', st.trans st', F⟩
  | exc => exact p
theorem SExc.after {out : Out} {e : Value} (st : Stp HH w (owns env) ρ s ρ₁ σ₁ s₁) (p : SExc HH env outer ρ₁ s₁ out e s₂) : SExc HH env outer ρ s out e s₂ := by
  induction out using Out.casesOn with
  | exc =>
    refine el14 (p) fun ea q113_1 z113_2 X sl => ?_
    subst q113_1
    obtain ⟨h', tk, rfl⟩ := z113_2
    refine el03 (st) fun z114_0 e1 _ => ?_
    obtain ⟨h1, t1, rfl⟩ := z114_0
    exact ⟨ea, rfl, ⟨h', tk, rfl⟩, X, sl.after e1⟩
  | _ => exact p
theorem kept_of {pu : Bool} (hp : pu = true -> s₁.heap = s.heap) : pu = true -> Kept own s.heap s₁.heap := fun q => Kept.of_eq (hp q)
theorem SPost.wkp {pu : Bool} {out : Out} {f : Flow} (p : SPost HH w env outer ρ s pu out f s₂) : SPost HH w env outer ρ s false out f s₂ := ⟨(fun q => nomatch q), p.2⟩
noncomputable abbrev fS (C : Calls) (n : Nat) : CS -> Ls -> Sto -> Option Out := ex C n
theorem snd_execs {sts : List Stmt} {cs : List CS} (h : All2 (fun st c => SndS HH d w (exec st) names (ex C n c) (pureS c)) sts cs) :
    SndS HH d w (execs sts) names (exs (ex C n) cs) (pureSs cs) := by
  induction h with
  | nil =>
    intro A env outer ρ ls σ out s hf hn S F R
    simp only [Eqn.exs_nil, Option.some.injEq] at hf
    subst hf
    exact wpAny_execs_nil ⟨fun _ => Kept.refl, rfl, ρ, Stp.refl R, F⟩
  | @cons st c sts cs p _ ih =>
    intro A env outer ρ ls σ out s hf hn S F R
    refine wpAny_execs_cons ?_
    have hpu : pureSs (c :: cs) = true -> pureS c = true /\ pureSs cs = true := fun q => by simpa [pureSs] using q
    simp only [Eqn.exs_cons] at hf
    split at hf
    · rename_i ls₁ σ₁ h1
      refine wpAny_mono (p h1 hn S F R) (fun f s₁ ⟨p0, hp, ρ₁, st, F₁⟩ => ?_) fun _ _ q => by induction q using False.casesOn
      subst hp
      refine wpAny_mono (ih hf hn S F₁ st.2.2) (fun f s₂ q => ?_) fun e s₂ q => SExc.after st q
      exact SPost.after st (fun z => p0 (hpu z).1) ⟨fun z => q.1 (hpu z).2, q.2⟩
    · rename_i o hne
      refine wpAny_mono (p hf hn S F R) (fun f s₁ ⟨p0, hp⟩ => ?_) fun _ _ q => q
      induction out using Out.casesOn with
      | next ls' σ' => exact (hne _ _ hf).elim
      | cont ls' σ' => obtain ⟨rfl, hp⟩ := hp; exact ⟨fun z => p0 (hpu z).1, rfl, hp⟩
      | ret v σ' => obtain ⟨x, rfl, hp⟩ := hp; exact ⟨fun z => p0 (hpu z).1, x, rfl, hp⟩
      | exc => exact hp.elim
end
end
end Mine
end
section
open PySem PySem.W PySem.Calls PyProof.Rows
namespace Mine
noncomputable section
section
variable {HH : Heap} {fa : Nat -> Addr} {mg mb : Str -> Option Value} {w : World} {A : Around} {E : Value -> Shared -> Prop} {ρ ρ₁ ρ₂ own : List Addr} {s s₁ s₂ : Shared} {σ σ₁ σ' : Sto} {h h' : Heap} {C : Calls} {n d m : Nat} {names : List (Str × NameKind)} {env : Env} {outer : List Env} {ls : Ls} {c : CEnv}
theorem cmp_call_inv {e : Expr} {i : Nat} {cargs : List CE} (h : cmpE m c e = some (.call i cargs)) : ∃ m' f np args pos, m = m' + 1 /\ e = .Call (.Name f np) args [] pos /\ funNames[i]? = some f /\ isGlob c f f = true /\ allM (cmpE m' c) args = some cargs := by
  induction m using Nat.casesOn with
  | zero => exact no_some h
  | succ m =>
    refine el44 (cview_all (cmp_view h)).2 fun f np args pos q1 hf hg hc => ?_
    exact ⟨m, f, np, args, pos, rfl, q1, hf, hg, hc⟩
noncomputable def RPost (HH : Heap) (w : World) (ρ : List Addr) (s : Shared) (out : Res) (x : Value) (s' : Shared) : Prop := match out with
  | .ok v σ' => EPost HH w ρ s σ' v x s'
  | .exc => False
noncomputable def RExc (HH : Heap) (frames : List Env) (ρ : List Addr) (s : Shared) (out : Res) (e : Value) (s' : Shared) : Prop := match out with
  | .ok _ _ => False
  | .exc => ∃ ea, e = .ref ea /\ XPost HH frames ρ s ea s'
theorem XPost.after {frames : List Env} {e : Addr} (st : Stp HH w [] ρ s ρ₁ σ₁ s₁) (x : XPost HH frames ρ₁ s₁ e s₂) : XPost HH frames ρ s e s₂ := by
  refine cpf fun rq => ?_
  refine el03 (x) fun z23_0 f k => ?_
  obtain ⟨h', tk, rfl⟩ := z23_0
  refine el03 (st) fun z24_0 e1 _ => ?_
  obtain ⟨h1, t1, rfl⟩ := z24_0
  refine rq ?_
  exact ⟨⟨h', tk, rfl⟩, f, fun a o q n hd => k a o (e1.keep a o q (fun z => nomatch z) n) (e1.mem q n) hd⟩
theorem evR_plain {ce : CE} (hne : ∀ i cargs, ce ≠ .call i cargs) : evR C n ce ls σ = match ev C n ce ls none σ with | some (v, σ) => some (.ok v σ) | none => none := by
  induction ce using CE.casesOn <;> first | rfl | exact absurd rfl (hne _ _)
theorem evR_at {e : Expr} {ce : CE} {out : Res} (G : Gl w HH fa mg mb) (CO : CallsOk w HH fa C (d + 1)) (hc : cmpE m ⟨env.scope.names, none⟩ e = some ce) (hf : evR C n ce ls σ = some out)
    (S : SCtx HH A (d + 1) env outer) (F : FrameOk HH env outer ρ s.heap ls) (R : HeapRep HH w ρ s.heap σ) :
    wpAny (model prog w) A (eval e env) (RPost HH w ρ s out) (RExc HH (env :: outer) ρ s out) s := by
  refine cpf fun rq => ?_
  by_cases hcall : ∃ i cargs, ce = .call i cargs
  · refine el21 (hcall) fun i cargs q34_2 => ?_
    subst q34_2
    refine el55 (cmp_call_inv hc) fun m' f np args pos q35_5 q35_6 hi hg ha => ?_
    subst q35_5
    subst q35_6
    simp only [Eqn.evR_call] at hf
    split at hf
    · rename_i vs σ₁ h1
      refine rq ?_
      refine callR_at G CO hi hg (all2_both (fun e ce q => main_expr G CO _ _ _ _ q) ha n).1 h1 hf (S.ectx F) R (fun_debug _ (List.mem_of_getElem? hi)) fun ρ₁ s₁ st s₂ => ?_
      induction out using Res.casesOn with
      | ok v σ₂ => intro x ⟨ρ₂, st₂, r⟩; exact ⟨ρ₂, st.trans st₂, r⟩
      | exc => intro e x; exact ⟨e, rfl, x.after st⟩
    · (exact no_so hf)
  · rw [evR_plain fun i cargs q => hcall ⟨i, cargs, q⟩] at hf
    split at hf
    · rename_i v σ₁ h1
      (replace hf := Option.some.inj hf; subst hf)
      refine rq ?_
      exact wpAny_mono (((main_expr G CO _ _ _ _ hc).1 n) h1 (S.ectx F) R) (fun _ _ q => q.1) fun _ _ q => q
    · (exact no_so hf)
theorem RExc.stmt {out : Res} {e : Value} (q : RExc HH (env :: outer) ρ s out e s₂) : out = .exc /\ SExc HH env outer ρ s .exc e s₂ := by
  refine cpf fun rq => ?_
  induction out using Res.casesOn with
  | ok => refine rq ?_; exact q.elim
  | exc =>
    obtain ⟨ea, rfl, x, ⟨a0, f⟩, k⟩ := q
    refine rq ?_
    exact ⟨rfl, ea, rfl, x, .flying f, fun a o q n _ hd => k a o q n hd⟩
theorem Expr_drop {e : Expr} {pos : Pos} {Q : Flow -> Shared -> Prop} (hi : interactive env = false) (hs : swapsWith e none pos.line env = pure false) (h : wpAny (model prog w) A (eval e env) (fun _ => Q .next) E s) :
    wpAny (model prog w) A (exec (.Expr e pos) env) Q E s := wpAny_Expr_any h hi hs
theorem snd_sexpr {f : Expr} {as : List Expr} {ks : List Keyword} {p pos : Pos} {ce : CE} (G : Gl w HH fa mg mb) (CO : CallsOk w HH fa C (d + 1)) (hc : cmpE m ⟨names, none⟩ (.Call f as ks p) = some ce) :
    SndS HH (d + 1) w (exec (.Expr (.Call f as ks p) pos)) names (ex C (n + 1) (.expr ce)) false := by
  intro A env outer ρ ls σ out s hf hn S F R
  subst hn
  refine Expr_drop S.inter rfl ?_
  simp only [Eqn.ex_expr] at hf
  split at hf
  · rename_i v σ₁ h1
    (replace hf := Option.some.inj hf; subst hf)
    refine wpAny_mono (evR_at G CO hc h1 S F R) (fun x s₁ ⟨ρ₁, st, _⟩ => ⟨(fun q => nomatch q), rfl, ρ₁, st.of0, F.mono st.2.1⟩) fun _ _ q => ?_
    exact q.elim
  · rename_i h1
    (replace hf := Option.some.inj hf; subst hf)
    exact wpAny_mono (evR_at G CO hc h1 S F R) (fun x s₁ q => q.elim) fun _ _ q => (RExc.stmt q).2
  · (exact no_so hf)
theorem snd_sret {e : Expr} {ce : CE} {pos : Pos} (G : Gl w HH fa mg mb) (CO : CallsOk w HH fa C (d + 1)) (hc : cmpE m ⟨names, none⟩ e = some ce) :
    SndS HH (d + 1) w (exec (.Return (some e) pos)) names (ex C (n + 1) (.ret ce)) (pureE ce) := by
  intro A env outer ρ ls σ out s hf hn S F R
  refine cpf fun rq => ?_
  subst hn
  simp only [Eqn.ex_ret] at hf
  split at hf
  · rename_i v σ₁ h1
    (replace hf := Option.some.inj hf; subst hf)
    refine rq ?_
    refine wpAny_Return_some (SndE.use ((main_expr G CO _ _ _ _ hc).1 n) h1 S F R fun x s₁ ρ₁ st r _ _ hp => ⟨kept_of hp, x, rfl, ρ₁, st.of0, r⟩)
  · (exact no_so hf)
theorem snd_sretNone {pos : Pos} : SndS HH d w (exec (.Return none pos)) names (ex C (n + 1) .retNone) false := by
  intro A env outer ρ ls σ out s hf hn S F R
  simp only [Eqn.ex_retNone, Option.some.injEq] at hf
  subst hf
  exact wpAny_Return_none ⟨(fun q => nomatch q), _, rfl, ρ, Stp.refl R, .none⟩
theorem snd_scont {pos : Pos} : SndS HH d w (exec (.Continue pos)) names (ex C (n + 1) .cont) false := by
  intro A env outer ρ ls σ out s hf hn S F R
  simp only [Eqn.ex_cont, Option.some.injEq] at hf
  subst hf
  exact wpAny_Continue ⟨(fun q => nomatch q), rfl, ρ, Stp.refl R, F⟩
theorem snd_site {t : Expr} {a b : List Stmt} {ct : CE} {ca cb : List CS} {pos : Pos} (G : Gl w HH fa mg mb) (CO : CallsOk w HH fa C (d + 1)) (hc : cmpE m ⟨names, none⟩ t = some ct)
    (ha : SndS HH (d + 1) w (execs a) names (exs (ex C n) ca) (pureSs ca)) (hb : SndS HH (d + 1) w (execs b) names (exs (ex C n) cb) (pureSs cb)) :
    SndS HH (d + 1) w (exec (.If t a b pos)) names (ex C (n + 1) (.ite ct ca cb)) (pureS (.ite ct ca cb)) := by
  intro A env outer ρ ls σ out s hf hn S F R
  refine cpf fun rq => ?_
  subst hn
  have hpu : pureS (.ite ct ca cb) = true -> pureE ct = true /\ pureSs ca = true /\ pureSs cb = true := fun q => by
    have q2 := Bool.and_eq_true_iff.mp (show ((pureE ct && pureSs ca) && pureSs cb) = true from q)
    have q1 := Bool.and_eq_true_iff.mp q2.1
    exact ⟨q1.1, q1.2, q2.2⟩
  simp only [Eqn.ex_ite] at hf
  split at hf
  · rename_i σ₁ h1
    refine rq ?_
    refine wpAny_If (SndT.use ((main_expr G CO _ _ _ _ hc).2 n) h1 S F R fun s₁ ρ₁ st F₁ R₁ hp => ?_)
    rw [if_pos rfl]
    refine wpAny_mono (ha hf rfl S F₁ R₁) (fun f s₂ q => ?_) fun e s₂ q => SExc.after st.of0 q
    exact SPost.after st.of0 (fun z => Kept.of_eq (hp (hpu z).1)) ⟨fun z => q.1 (hpu z).2.1, q.2⟩
  · rename_i σ₁ h1
    refine rq ?_
    refine wpAny_If (SndT.use ((main_expr G CO _ _ _ _ hc).2 n) h1 S F R fun s₁ ρ₁ st F₁ R₁ hp => ?_)
    rw [if_neg (by simp)]
    refine wpAny_mono (hb hf rfl S F₁ R₁) (fun f s₂ q => ?_) fun e s₂ q => SExc.after st.of0 q
    exact SPost.after st.of0 (fun z => Kept.of_eq (hp (hpu z).1)) ⟨fun z => q.1 (hpu z).2.2, q.2⟩
  · (exact no_so hf)
end
end
end Mine
end
section
open PySem PySem.W PySem.Calls PyProof.Rows
namespace Mine
section
variable {HH : Heap} {fa : Nat -> Addr} {mg mb : Str -> Option Value} {w : World} {A : Around} {E : Value -> Shared -> Prop} {ρ ρ₁ ρ₂ own : List Addr} {s s₁ s₂ : Shared} {σ σ₁ σ' : Sto} {h h' : Heap} {C : Calls} {n d m : Nat} {names : List (Str × NameKind)} {env : Env} {outer : List Env} {ls : Ls} {c : CEnv}
theorem comp_inv {elt : Expr} {gs : List Comprehension} {scope : Scope} {p : Pos} {ce : CE} (h : cmpE m c (.ListComp elt gs scope p) = some ce) :
    ∃ m' x px iter ifs a b cs, m = m' + 1 /\ gs = [⟨.Name x px, iter, ifs, 0⟩] /\ CompOk c scope x /\ cmpE m' c (iterOf c iter).1 = some b /\ cmpE m' ⟨compNames c scope, some x⟩ elt = some a /\
      allM (cmpE m' ⟨compNames c scope, some x⟩) ifs = some cs /\ ce = .comp a b cs (iterOf c iter).2 := by
  induction m using Nat.casesOn with
  | zero => exact no_some h
  | succ m =>
    refine el66 (compR_inv h) fun g x ci a b cs q1 hci ha hb hcs q2 => ?_
    refine el04 (compInfo_inv hci) fun K z14_1 hy q14_3 => ?_
    obtain ⟨px, ht⟩ := z14_1
    subst q14_3
    subst q1
    subst q2
    obtain ⟨gt, gi, gf, ga⟩ := g
    cases ht
    cases hy
    exact ⟨m, x, px, gi, gf, a, b, cs, rfl, rfl, K, hb, ha, hcs, rfl⟩
theorem swaps_bool {elt : Expr} {gs : List Comprehension} {scope : Scope} {p px : Pos} {x : Str} {l : Nat} {env : Env} :
    swapsWith (.ListComp elt gs scope p) (some (.Name x px)) l env = pure false \/ swapsWith (.ListComp elt gs scope p) (some (.Name x px)) l env = pure true := by
  have : ∃ b : Bool, swapsWith (.ListComp elt gs scope p) (some (.Name x px)) l env = pure b := ⟨_, rfl⟩
  refine cpf fun rq => ?_
  refine el11 (this) fun b hb => ?_
  induction b using Bool.casesOn
  · refine rq ?_
    exact .inl hb
  · refine rq ?_
    exact .inr hb
theorem own_there (F : FrameOk HH env outer ρ h ls) {b : Addr} (hb : b ∈ owns env \/ b ∈ outer.filterMap (·.frame)) : Safe ρ h b := by
  rcases hb with hb | hb
  · rcases List.mem_cons.mp hb with e | hb
    · subst e; exact F.loc
    · refine el12 (List.mem_map.mp hb) fun p hp q37_2 => ?_
      subst q37_2
      exact F.cel p hp
  · exact F.fn b hb
theorem snd_sassign {x : Str} {px pos : Pos} {e : Expr} {i : Nat} {ce : CE} (G : Gl w HH fa mg mb) (CO : CallsOk w HH fa C (d + 1)) (hx : slotOf? ⟨names, none⟩ x = some i) (hc : cmpE m ⟨names, none⟩ e = some ce) :
    SndS HH (d + 1) w (exec (.Assign [.Name x px] e pos)) names (ex C (n + 1) (.assign i ce)) false := by
  intro A env outer ρ ls σ out s hf hn S F R
  refine cpf fun rq => ?_
  subst hn
  have hr := slotOf_inv hx
  have plain : swapsWith e (some (.Name x px)) pos.line env = pure false -> wpAny (model prog w) A (exec (.Assign [.Name x px] e pos) env) (SPost HH w env outer ρ s false out) (SExc HH env outer ρ s out) s := by
    intro hs
    refine wpAny_Assign_Name ?_ hs
    simp only [Eqn.ex_assign] at hf
    split at hf
    · rename_i v σ₁ h1
      (replace hf := Option.some.inj hf; subst hf)
      refine wpAny_mono (evR_at G CO hc h1 S F R) (fun y s₁ ⟨ρ₁, st, rv⟩ => ?_) fun _ _ q => q.elim
      exact store_at S (F.mono st.2.1) st.2.2 hr rv fun s₂ st₂ _ F₂ => ⟨(fun q => nomatch q), rfl, ρ₁, st.of0.trans st₂, F₂⟩
    · rename_i h1
      (replace hf := Option.some.inj hf; subst hf)
      exact wpAny_mono (evR_at G CO hc h1 S F R) (fun x s₁ q => q.elim) fun _ _ q => (RExc.stmt q).2
    · (exact no_so hf)
  by_cases hcomp : ∃ elt gs scope p, e = .ListComp elt gs scope p
  · refine el41 (hcomp) fun elt gs scope p q60_4 => ?_
    subst q60_4
    rcases swaps_bool (elt := elt) (gs := gs) (scope := scope) (p := p) (px := px) (x := x) (l := pos.line) (env := env) with hs | hs
    · refine rq ?_
      exact plain hs
    refine el87 (comp_inv hc) fun m' y py iter ifs a b cs q63_8 q63_9 K hit he hcs q63_14 => ?_
    subst q63_8
    subst q63_9
    subst q63_14
    simp only [Eqn.ex_assign] at hf
    rw [evR_plain (fun _ _ q => by (exact Mine.CE.noConfusion q))] at hf
    split at hf
    · rename_i v σ₁ h1
      split at h1
      · rename_i v' σ' h2
        cases h1
        cases hf
        induction n using Nat.casesOn with
        | zero => exact no_some h2
        | succ n =>
        refine rq ?_
        rw [exec_Assign_Name_used _ _ _ _ hs]
        refine wpAny_bind (wpAny_standAt (wpAny_bind ?_))
        show wpAny _ A (do let _ <- comprehension (.ListComp elt [⟨.Name y py, iter, ifs, 0⟩] scope p) scope env iter.pos (newList []) false (eval iter env) (some (assign (.Name x px) env))) _ _ s
        have ih := fun (c : CEnv) (e : Expr) (ce : CE) (q : cmpE m' c e = some ce) => main_expr G CO m' c e ce q
        refine wpAny_bind (wpAny_mono (comp_at (use := some (assign (.Name x px) env)) (Q := fun _ s' => SPost HH w env outer ρ s false (.next (ls.set i (some v)) σ₁) .next s') G K hit (snd_weak ((ih _ _ _ hit).1 n)) (snd_weak ((ih _ _ _ he).1 n))
          (all2_both (ih _) hcs n).2 h2 (S.ectx F) R fun D Cn s' ρ' mm st rv ns hnew ho hfx => ?_) (fun _ s' hq => wpAny_pure (wpAny_pure hq)) fun _ _ q => q)
        refine wpAny_assign_Name (store_at S (F.mono st.2.1) st.2.2 hr rv fun s'' st' kp F' => ?_)
        have hCn : ∀ b, b ∈ owns env \/ b ∈ outer.filterMap (·.frame) -> b ≠ Cn := fun b hb q => by
          obtain ⟨_, o, e⟩ := own_there F hb
          rw [q, hnew] at e; (exact no_so e)
        have hC2 : ∀ o, s'.heap.get? Cn = some o -> s''.heap.get? Cn = some o := fun o q => kp Cn o q fun z => hCn Cn (.inl z) rfl
        refine ⟨mm, ns.at' hC2, fun h'' hs'' => ?_⟩
        obtain ⟨stf, fx⟩ := comp_after (st.of0.trans st') hnew ho (fun o q => by
          refine el32 (ns) fun o' _ _ ho' _ => ?_
          have := hC2 _ ho'
          (replace this := Eq.trans (Eq.symm (q ..)) (this)); (replace this := Option.some.inj this; subst this)
          exact hfx _ ho') R.stays hs''
        exact ⟨(fun q => nomatch q), rfl, ρ', stf, F'.move (List.prefix_refl _) fx fun b hb sf => ⟨sf.1, fun o q => (hs''.2 b (hCn b hb)).trans q⟩⟩
      · (exact no_so h1)
    · rename_i h1
      refine rq ?_
      split at h1 <;> cases h1
    · (exact no_so hf)
  · refine rq ?_
    exact plain ((cmp_plain hc).sw (fun elt gs scope p q => hcomp ⟨elt, gs, scope, p, q⟩) _ _ _)
end
end Mine
end
section
open PySem PySem.W PySem.Calls PyProof.Rows
namespace Mine
open PySem in
theorem setItem_listL {w : World} {A : Around} {E : Value -> Shared -> Prop} {s : Shared} {l : Addr} {items : Array Value} {k : Int} {n : Nat} {t : Tok} {v : Value} {Q : Unit -> Shared -> Prop} (hl : IsL s.heap l items n)
    (h0 : 0 <= k) (hfit : k < 2 ^ 63) (hn : k < items.size)
    (hQ : Q () { s with heap := s.heap.update l (Obj.mapSeq (·.setIfInBounds k.toNat v)) }) :
    wpAny (model prog w) A (setItem (.ref l) (.int k t) v) Q E s := by
  have hl' : s.heap.IsList l items := ⟨_, hl, rfl, n, rfl⟩
  unfold setItem
  try with_reducible refine wpAny_holding ?_
  first | refine wpAny_bind (wpAny_pure ?_) | skip
  refine wpAny_bind (wpAny_sequenceKey hl'.typeIs (by decide) ?_)
  refine wpAny_bind (wpAny_callSpecial?_slot (name := Str.ofString "__setitem__") hl'.typeIs PySem.F.slot_list_setitem
    (wpAny_call_entry PySem.F.slot_list_setitem hl'.typeIs PySem.F.entry_list_setitem ?_ (args_list_setitem _ _ _)))
  show wpAny _ _ (Builtin.List.listSubscript? (.int k t) >>= _) _ _ s
  refine wpAny_bind (wpAny_listSubscript_int (fitsIndex_of h0 hfit) ?_)
  clear hfit
  refine el11 (Int.eq_ofNat_of_zero_le h0) fun j q18_1 => ?_
  subst q18_1
  have hj : j < items.size := by (exact om144 hn)
  have hx' : items[j]? = some items[j] := Array.getElem?_eq_getElem hj
  show wpAny _ _ ((seqItemAt l j >>= fun r => pure (r.map (j, ·))) >>= _) _ _ s
  refine wpAny_bind (wpAny_bind (wpAny_seqItemAt hl rfl (wpAny_pure ?_)))
  rw [hx']
  show wpAny _ _ (setSeqItemAt l j v >>= _) _ _ s
  refine wpAny_bind (wpAny_setSeqItemAt hl rfl ?_)
  first
    | exact wpAny_bind (wpAny_pure (wpAny_pure ⟨.none, rfl, wpAny_pure hQ⟩))
    | exact wpAny_pure ⟨.none, rfl, wpAny_pure hQ⟩
section
variable {HH : Heap} {fa : Nat -> Addr} {mg mb : Str -> Option Value} {w : World} {A : Around} {E : Value -> Shared -> Prop} {ρ ρ₁ ρ₂ own : List Addr} {s s₁ s₂ : Shared} {σ σ₁ σ' : Sto} {h h' : Heap} {C : Calls} {n d m : Nat} {names : List (Str × NameKind)} {env : Env} {outer : List Env} {ls : Ls} {c : CEnv}
theorem putI_length : ∀ (es : List (Int × V)) (k : Int) (v : V), (putI es k v).length <= es.length + 1 := by
  intro es k v
  induction es with
  | nil => exact Nat.le_refl _
  | cons p r ih =>
    show (putI ((p.1, p.2) :: r) k v).length <= _
    rw [Eqn.putI_2]
    by_cases q : p.1 = k
    · rw [if_pos q]; exact Nat.le_succ _
    · rw [if_neg q]; exact Nat.succ_le_succ ih
theorem set_item {o i v : V} {x y z : Value} {Q : Unit -> Shared -> Prop} (R : HeapRep HH w ρ s.heap σ) (hf : setV o i v σ = some σ') (ho : RepV HH ρ s.heap o x) (hi : RepV HH ρ s.heap i y) (hv : RepV HH ρ s.heap v z)
    (k : ∀ s', Stp HH w [] ρ s ρ σ' s' -> Q () s') : wpAny (model prog w) A (setItem x y z) Q E s := by
  induction ho using RepV.casesOn with
  | @lst nn a hn =>
    induction hi using RepV.casesOn with
    | int j t =>
      simp only [Eqn.setV_1, Option.bind_eq_bind, Option.bind_eq_some_iff] at hf
      refine el12 (hf) fun vs hvs hf => ?_
      split at hf
      · rename_i hb
        (replace hf := Option.some.inj hf; subst hf)
        refine el34 (R.list hvs) fun a1 cvs k1 ha1 hL hr hz => ?_
        (replace ha1 := Eq.trans (Eq.symm (hn ..)) (ha1)); (replace ha1 := Option.some.inj ha1; subst ha1)
        have hlen := hr.length
        refine setItem_listL hL hb.1 (by have := hb.2.2; omega) (by rw [List.size_toArray, <- hlen]; exact hb.2.1) ?_
        have hup := IsL.update hL (fun xs => xs.setIfInBounds j.toNat z)
        have he : cvs.toArray.setIfInBounds j.toNat z = (cvs.set j.toNat z).toArray := by simp
        have hfix : ∀ b o, s.heap.get? b = some o -> Fix o -> (s.heap.update a (Obj.mapSeq fun xs => xs.setIfInBounds j.toNat z)).get? b = some o := fun b o e f => by
          by_cases q : b = a
          · subst q; (replace e := Eq.trans (Eq.symm (hL ..)) (e)); (replace e := Option.some.inj e; subst e); rcases f with f | f | f <;> simp at f
          · exact ((Heap.SameBut.update _ _ _).2 b q).trans e
        have ho' : ObjRep HH w ρ (s.heap.update a (Obj.mapSeq fun xs => xs.setIfInBounds j.toNat z)) a (.list (vs.set j.toNat v)) :=
          .list (cvs := cvs.set j.toNat z) (he ▸ hup) ((RepVs.mono' (List.prefix_refl _) hfix hr).set (RepV.mono' (List.prefix_refl _) hfix hv) _) (by rw [List.length_set]; exact hz)
        have hsb : Heap.SameBut a s.heap (s.heap.update a (Obj.mapSeq fun xs => xs.setIfInBounds j.toNat z)) := Heap.SameBut.update _ _ _
        exact k _ ⟨⟨_, _, rfl⟩, R.evoSet (List.mem_of_getElem? hn) hsb hup, R.set hn hsb ho'⟩
      · (exact no_so hf)
    | _ => exact no_so hf
  | @dct nn a hn =>
    induction hi using RepV.casesOn with
    | int j t =>
      simp only [Eqn.setV_2, Option.bind_eq_bind, Option.bind_eq_some_iff] at hf
      refine el12 (hf) fun es hes hf => ?_
      split at hf
      · rename_i hb
        (replace hf := Option.some.inj hf; subst hf)
        refine el25 (R.dict hes) fun a1 kvs ha1 hD hk hr hz => ?_
        (replace ha1 := Eq.trans (Eq.symm (hn ..)) (ha1)); (replace ha1 := Option.some.inj ha1; subst ha1)
        have hl : es.length = kvs.length := by simpa using congrArg List.length hk
        have hlim : LIM = 4096 := rfl
        refine wpAny_setItem_pairs (intKind_is prog w j t) hD (fun h' hD' hs => ?_) (by rw [sizeLine_eq]; (exact om146 hl hz))
        refine el12 (R.notFix (List.mem_of_getElem? hn)) fun o0 ho0 hnf => ?_
        have hfix : ∀ b o, s.heap.get? b = some o -> Fix o -> h'.get? b = some o := fun b o e f => by
          by_cases q : b = a
          · subst q; (replace e := Eq.trans (Eq.symm (ho0 ..)) (e)); (replace e := Option.some.inj e; subst e); exact absurd f hnf
          · exact (hs.2 b q).trans e
        have hnd : (kvs.map (·.1)).Nodup := by obtain ⟨_, _, _, _, _, _, _, _, q⟩ := hD; exact q
        refine el02 (put_rep (RepV.mono' (List.prefix_refl _) hfix hv) j hk hnd (RepVs.mono' (List.prefix_refl _) hfix hr)) fun p1 p2 => ?_
        have ho' : ObjRep HH w ρ h' a (.dict (putI es j v)) := .dict hD' p1 p2 (by have := putI_length es j v; (exact om147 hb hlim this))
        refine el12 (ho'.there) fun o' ho'' _ => ?_
        exact k _ ⟨⟨_, _, rfl⟩, R.evoSet (List.mem_of_getElem? hn) hs ho'', R.set hn hs ho'⟩
      · (exact no_so hf)
    | _ => exact no_so hf
  | _ => exact no_so hf
theorem snd_ssetIdx {o i e : Expr} {co ci ce : CE} {spos pos : Pos} (G : Gl w HH fa mg mb) (CO : CallsOk w HH fa C (d + 1)) (ho : cmpE m ⟨names, none⟩ o = some co) (hi : cmpE m ⟨names, none⟩ i = some ci) (hc : cmpE m ⟨names, none⟩ e = some ce) :
    SndS HH (d + 1) w (exec (.Assign [.Subscript o i spos] e pos)) names (ex C (n + 1) (.setIdx co ci ce)) false := by
  intro A env outer ρ ls σ out s hf hn S F R
  refine cpf fun rq => ?_
  subst hn
  simp only [Eqn.ex_setIdx] at hf
  split at hf
  · rename_i v σ₁ h1
    split at hf
    · rename_i vo σ₂ h2
      split at hf
      · rename_i vi σ₃ h3
        simp only [Option.map_eq_some_iff] at hf
        refine el12 (hf) fun σ₄ h4 q110_2 => ?_
        subst q110_2
        refine rq ?_
        refine wpAny_Assign_Subscript ?_ ((cmp_plain hc).swsub _ _ _ _ _)
        refine SndE.use ((main_expr G CO _ _ _ _ hc).1 n) h1 S F R fun x s₁ ρ₁ st r F₁ R₁ _ => ?_
        refine SndE.use ((main_expr G CO _ _ _ _ ho).1 n) h2 S F₁ R₁ fun y s₂ ρ₂ st₂ r₂ F₂ R₂ _ => ?_
        refine SndE.use ((main_expr G CO _ _ _ _ hi).1 n) h3 S F₂ R₂ fun z s₃ ρ₃ st₃ r₃ F₃ R₃ _ => ?_
        refine set_item R₃ h4 (r₂.mono st₃.2.1) r₃ ((r.mono st₂.2.1).mono st₃.2.1) fun s₄ st₄ => ?_
        exact ⟨(fun q => nomatch q), rfl, ρ₃, (((st.trans st₂).trans st₃).trans st₄).of0, F₃.mono st₄.2.1⟩
      · (exact no_so hf)
    · (exact no_so hf)
  · (exact no_so hf)
theorem load_slot {M : Model} {x : Str} {i : Nat} {v : V} {Q : Value -> Shared -> Prop} (S : SCtx HH A d env outer) (F : FrameOk HH env outer ρ s.heap ls) (hr : resolve ⟨env.scope.names, none⟩ x = .slot i) (hv : ls[i]? = some (some v))
    (k : ∀ y, RepV HH ρ s.heap v y -> Q y s) : wpAny M A (loadName env x) Q E s := by
  refine cpf fun rq => ?_
  refine el12 ((S.ectx F).slot x i v hr hv) fun y n r => ?_
  rcases n with ⟨hx, m, hn, hv⟩ | ⟨hx, c, hc, hv⟩
  · refine rq ?_
    exact wpAny_loadName_local S.kind hx hn hv (k y r)
  · refine rq ?_
    exact wpAny_loadName_cell S.kind hx hc hv (k y r)
theorem snd_saug {x : Str} {px pos : Pos} {e : Expr} {i : Nat} {ce : CE} {op : Bo} (hop : op = .add \/ op = .sub) (G : Gl w HH fa mg mb) (CO : CallsOk w HH fa C (d + 1)) (hx : slotOf? ⟨names, none⟩ x = some i) (hc : cmpE m ⟨names, none⟩ e = some ce) :
    SndS HH (d + 1) w (exec (.AugAssign (.Name x px) (pyop op) e pos)) names (ex C (n + 1) (.aug i op ce)) false := by
  intro A env outer ρ ls σ out s hf hn S F R
  subst hn
  have hr := slotOf_inv hx
  simp only [Eqn.ex_aug] at hf
  split at hf
  · rename_i a ha
    split at hf
    · rename_i b σ₁ h1
      split at hf
      · rename_i v σ₂ h2
        (replace hf := Option.some.inj hf; subst hf)
        refine wpAny_AugAssign_Name (load_slot S F hr ha fun y ry => ?_)
        refine SndE.use ((main_expr G CO _ _ _ _ hc).1 n) h1 S F R fun z s₁ ρ₁ st rz F₁ R₁ _ => ?_
        refine el11 (rep_int ry) fun t qz150 => ?_
        subst qz150
        refine el11 (rep_int rz) fun u qz152 => ?_
        subst qz152
        have fin : ∀ (r : Int), v = .int r -> σ₂ = σ₁ -> wpAny (model prog w) A (storeName env x (.int r s₁.toks)) (fun _ => SPost HH w env outer ρ s false (.next (ls.set i (some v)) σ₂) .next) (SExc HH env outer ρ s (.next (ls.set i (some v)) σ₂)) { s₁ with toks := s₁.toks + 1 } := by
          rintro r rfl rfl
          have st' : Stp HH w [] ρ s ρ₁ σ₂ { s₁ with toks := s₁.toks + 1 } := st.trans (Stp.toks R₁ _)
          exact store_at S F₁ R₁ hr (.int r s₁.toks) fun s₂ st₂ _ F₂ => ⟨(fun q => nomatch q), rfl, ρ₁, st'.of0.trans st₂, F₂⟩
        refine el12 (map_inv (show (arith op _ _).map (fun k => (V.int k, σ₁)) = some (v, σ₂) from h2)) fun k hk h3 => ?_
        (refine el02 (Prod.mk.inj h3) fun w154_0 w154_1 => ?_; clear h3; subst w154_0; subst w154_1)
        rcases hop with rfl | rfl
        · refine el02 (ite_inv (show (if (small a && small b) = true then some (a + b) else none) = some k from hk)) fun _ e => ?_
          (replace e := Option.some.inj e; subst e); exact iadd_int (fin _ rfl rfl)
        · refine el02 (ite_inv (show (if (small a && small b) = true then some (a - b) else none) = some k from hk)) fun _ e => ?_
          (replace e := Option.some.inj e; subst e); exact isub_int (fin _ rfl rfl)
      · (exact no_so hf)
    · (exact no_so hf)
  · (exact no_so hf)
theorem snd_sunpack {x y z : Str} {px py pz tpos pos p : Pos} {k1 : Nat} {f : Expr} {as : List Expr} {ks : List Keyword} {i j k : Nat} {ce : CE} (G : Gl w HH fa mg mb) (CO : CallsOk w HH fa C (d + 1))
    (hx : slotOf? ⟨names, none⟩ x = some i) (hy : slotOf? ⟨names, none⟩ y = some j) (hz : slotOf? ⟨names, none⟩ z = some k) (hc : cmpE m ⟨names, none⟩ (.Call f as ks p) = some ce) :
    SndS HH (d + 1) w (exec (.Assign [.Tuple [.Name x px, .Name y py, .Name z pz] k1 tpos] (.Call f as ks p) pos)) names (ex C (n + 1) (.unpack3 i j k ce)) false := by
  intro A env outer ρ ls σ out s hf hn S F R
  refine cpf fun rq => ?_
  subst hn
  simp only [Eqn.ex_unpack3] at hf
  split at hf
  · rename_i a b c σ₁ h1
    (replace hf := Option.some.inj hf; subst hf)
    refine rq ?_
    refine wpAny_Assign_stores ?_ rfl rfl
    refine SndE.use ((main_expr G CO _ _ _ _ hc).1 n) h1 S F R fun v s₁ ρ₁ st rv F₁ R₁ _ => ?_
    refine el23 (rep_tup rv) fun az182 cz182 qz182 ht hr => ?_
    subst qz182
    refine el23 hr.cinv fun xa ca qa ra hr1 => ?_
    refine el23 hr1.cinv fun xb cb qb rb hr2 => ?_
    refine el23 hr2.cinv fun xc cc qc rc hr3 => ?_
    have qd : cc = [] := hr3.inv
    subst qd
    subst qc
    subst qb
    subst qa
    show wpAny _ _ (assign _ env _) _ _ _
    refine wpAny_assign_Tuple S.handled ht rfl rfl fun h' he => ?_
    have st1 : Stp HH w [] ρ₁ s₁ ρ₁ σ₁ { s₁ with heap := h' } := Stp.keeps R₁ s₁.toks fun a o e => he a o (Nat.ne_of_lt (Heap.lt_size e)) e
    have F2 := F₁.mono st1.2.1
    show wpAny _ _ (do holding _ (assign (.Name x px) env _); (do holding _ (assign (.Name y py) env _); (do holding _ (assign (.Name z pz) env _); pure ()))) _ _ _
    refine wpAny_bind (wpAny_holding (wpAny_assign_Name (store_at S F2 st1.2.2 (slotOf_inv hx) (ra.mono st1.2.1) fun s2 st2 _ F3 => ?_)))
    refine wpAny_bind (wpAny_holding (wpAny_assign_Name (store_at S F3 st2.2.2 (slotOf_inv hy) ((rb.mono st1.2.1).mono st2.2.1) fun s3 st3 _ F4 => ?_)))
    refine wpAny_bind (wpAny_holding (wpAny_assign_Name (store_at S F4 st3.2.2 (slotOf_inv hz) (((rc.mono st1.2.1).mono st2.2.1).mono st3.2.1) fun s4 st4 _ F5 => ?_)))
    exact wpAny_pure ⟨(fun q => nomatch q), rfl, ρ₁, (((st.trans st1).of0.trans st2).trans st3).trans st4, F5⟩
  · (exact no_so hf)
end
end Mine
end
section
open PySem PySem.W PySem.Calls PyProof.Rows
namespace Mine
noncomputable section
section
variable {HH : Heap} {fa : Nat -> Addr} {mg mb : Str -> Option Value} {w : World} {A : Around} {E : Value -> Shared -> Prop} {ρ ρ₁ ρ₂ own : List Addr} {s s₁ s₂ : Shared} {σ σ₁ σ' : Sto} {h h' hb : Heap} {C : Calls} {n d m : Nat} {names : List (Str × NameKind)} {env : Env} {outer : List Env} {ls : Ls} {c : CEnv} {I : Addr} {pu : Bool} {P : Nat -> List Addr -> Heap -> Prop} {items : List V} {chk : Sto -> Bool} {j : Nat}
theorem Slots.up {h₁ : Heap} (x : Slots own ρ h h₁) (u : h₁.UpToSlots h') : Slots own ρ h h' := fun a o e n1 n2 hd => by
  refine el11 (x a o e n1 n2 hd) fun sl e1 => ?_
  refine el11 (u a _ e1 hd) fun sl' e2 => ?_
  exact ⟨sl', e2⟩
theorem exc_out {e : Value} (S : SCtx HH A d env outer) (x : SExc HH env outer ρ s .exc e s₁) :
    notedBy (model prog w) A env (fun e s' => cameBackBy (model prog w) A env (SExc HH env outer ρ s .exc) e s') e s₁ := by
  refine el14 (x) fun ea q15_1 z15_2 X sl => ?_
  subst q15_1
  obtain ⟨h1, t1, rfl⟩ := z15_2
  refine noteX S.fr S.frame X fun h' a0 hh u => ?_
  refine backX S.frame hh fun h'' hh' u' => ?_
  exact ⟨ea, rfl, ⟨_, _, rfl⟩, .held hh', (sl.up u).up u'⟩
structure Dev (HH : Heap) (w : World) (own : List Addr) (I : Addr) (items : List V) (chk : Sto -> Bool) (pu : Bool) (P : Nat -> List Addr -> Heap -> Prop) : Prop where
  there : ∀ {j ρ h}, P j ρ h -> (∃ o, h.get? I = some o) /\ ∀ o, h.get? I = some o -> ¬ Fix o
  move : ∀ {j ρ ρ' h h'}, P j ρ h -> ρ <+: ρ' -> (∀ o, h.get? I = some o -> h'.get? I = some o) -> (pu = true -> Kept own h h') -> P j ρ' h'
  step : ∀ {A : Around} {E : Value -> Shared -> Prop} {s : Shared} {ρ : List Addr} {τ : Sto} {j : Nat} {u : V} {Q : Option Value -> Shared -> Prop}, HeapRep HH w ρ s.heap τ -> chk τ = true -> P j ρ s.heap -> items[j]? = some u ->
    (∀ y h' tk, P (j + 1) ρ h' -> Heap.ExtBut I s.heap h' -> RepV HH ρ s.heap u y -> Q (some y) { s with heap := h', toks := tk }) -> wpAny (model prog w) A (pyNext (.ref I)) Q E s
  fin : ∀ {A : Around} {E : Value -> Shared -> Prop} {s : Shared} {ρ : List Addr} {τ : Sto} {j : Nat} {Q : Option Value -> Shared -> Prop}, A.handled = none -> HeapRep HH w ρ s.heap τ -> chk τ = true -> P j ρ s.heap -> j = items.length ->
    (∀ h', Heap.ExtBut I s.heap h' -> Q none { s with heap := h' }) -> wpAny (model prog w) A (pyNext (.ref I)) Q E s
structure LInv (HH : Heap) (w : World) (env : Env) (outer : List Env) (hb : Heap) (ρ₁ : List Addr) (I : Addr) (pu : Bool) (P : Nat -> List Addr -> Heap -> Prop) (j : Nat) (ρ : List Addr) (σ : Sto) (ls : Ls) (h : Heap) : Prop where
  evo : Evo (owns env) ρ₁ hb ρ h
  new : hb.get? I = none
  out : I ∉ ρ
  rep : HeapRep HH w ρ h σ
  fr : FrameOk HH env outer ρ h ls
  it : P j ρ h
  kp : pu = true -> Kept (owns env) hb h
  nown : ∀ b, b ∈ owns env \/ b ∈ outer.filterMap (·.frame) -> b ≠ I
  base : HH.StaysIn hb
theorem Kept.hidden (x : Kept own hb h) (hs : Heap.ExtBut I h h') (hn : hb.get? I = none) : Kept own hb h' := fun a o e q => hs a o (fun z => by subst z; (replace e := Eq.trans (Eq.symm (hn ..)) (e)); (exact no_so e)) (x a o e q)
theorem LInv.hid (L : LInv HH w env outer hb ρ₁ I pu P j ρ σ ls h) (D : Dev HH w own I items chk pu P) : Hid hb ρ h I := ⟨L.new, L.out, (D.there L.it).2⟩
theorem LInv.next {j' : Nat} (L : LInv HH w env outer hb ρ₁ I pu P j ρ σ ls h) (D : Dev HH w own I items chk pu P) (hs : Heap.ExtBut I h h') (hp : P j' ρ h') : LInv HH w env outer hb ρ₁ I pu P j' ρ σ ls h' :=
  ⟨L.evo.hidden hs L.new, L.new, L.out, L.rep.hidden (L.hid D) hs L.base, L.fr.move (List.prefix_refl _) ((L.hid D).fix hs) fun b hb q => ⟨q.1, fun o e => hs b o (L.nown b hb) e⟩, hp, fun q => (L.kp q).hidden hs L.new, L.nown, L.base⟩
theorem LInv.go {σ' : Sto} {ls' : Ls} (L : LInv HH w env outer hb ρ₁ I pu P j ρ σ ls s.heap) (D : Dev HH w (owns env) I items chk pu P) (st : Stp HH w (owns env) ρ s ρ₂ σ' s₂) (kp : pu = true -> Kept (owns env) s.heap s₂.heap)
    (F : FrameOk HH env outer ρ₂ s₂.heap ls') : LInv HH w env outer hb ρ₁ I pu P j ρ₂ σ' ls' s₂.heap := by
  refine cpf fun rq => ?_
  refine el02 (D.there L.it) fun z47_0 _ => ?_
  obtain ⟨o, ho⟩ := z47_0
  have ho' : I ∉ owns env := fun q => L.nown I (.inl q) rfl
  have k : ∀ o, s.heap.get? I = some o -> s₂.heap.get? I = some o := fun o e => st.2.1.keep I o e ho' L.out
  refine rq ?_
  exact ⟨L.evo.trans st.2.1, L.new, st.2.1.mem ho L.out, st.2.2, F, D.move L.it st.2.1.pre k kp, fun q => (L.kp q).trans (kp q), L.nown, L.base⟩
theorem forGo_cons {step : V -> Ls -> Sto -> Option Out} {x : V} {r : List V} {out : Out} (h : forGo chk step (x :: r) ls σ = some out) :
    chk σ = true /\ ((∃ ls' σ', (step x ls σ = some (.next ls' σ') \/ step x ls σ = some (.cont ls' σ')) /\ forGo chk step r ls' σ' = some out) \/ (step x ls σ = some out /\ ∀ ls' σ', out ≠ .next ls' σ' /\ out ≠ .cont ls' σ')) := by
  simp only [Eqn.forGo_2] at h
  split at h
  · rename_i hc
    refine ⟨hc, ?_⟩
    split at h
    · rename_i ls' σ' hs; exact .inl ⟨ls', σ', .inl hs, h⟩
    · rename_i ls' σ' hs; exact .inl ⟨ls', σ', .inr hs, h⟩
    · rename_i h1 h2
      exact .inr ⟨h, fun ls' σ' => ⟨fun q => h1 ls' σ' (by rw [h, q]), fun q => h2 ls' σ' (by rw [h, q])⟩⟩
  · (exact no_so h)
theorem forGo_nil {step : V -> Ls -> Sto -> Option Out} {out : Out} (h : forGo chk step [] ls σ = some out) : chk σ = true /\ out = .next ls σ := by
  simp only [Eqn.forGo_1] at h
  split at h
  · rename_i hc; (replace h := Option.some.inj h; subst h); exact ⟨hc, rfl⟩
  · (exact no_so h)
theorem loop_at {x : Str} {px : Pos} {body : List Stmt} {cb : List CS} {i : Nat} {out : Out} (D : Dev HH w (owns env) I items chk pu P) (S : SCtx HH A d env outer) (hr : resolve ⟨env.scope.names, none⟩ x = .slot i)
    (hbody : SndS HH d w (execs body) env.scope.names (exs (ex C n) cb) pu) {tk : Nat}
    (L : LInv HH w env outer s₁.heap ρ₁ I pu P 0 ρ σ ls h) (go : forGo chk (fun x ls σ => exs (ex C n) cb (ls.set i (some x)) σ) items ls σ = some out) :
    codeAny (model prog w) A (.forLoop (.Name x px) (.ref I) body [] env) (fun r s' => match r with | .ok f => SPost HH w env outer ρ₁ s₁ pu out f s' | .error e => cameBackBy (model prog w) A env (SExc HH env outer ρ₁ s₁ out) e s') { s₁ with heap := h, toks := tk } := by
  refine codeAny_forLoop_any (fun k s => ∃ j ρ σ ls h tk, k = items.length - j /\ j <= items.length /\ s = { s₁ with heap := h, toks := tk } /\ LInv HH w env outer s₁.heap ρ₁ I pu P j ρ σ ls h /\
      forGo chk (fun x ls σ => exs (ex C n) cb (ls.set i (some x)) σ) (items.drop j) ls σ = some out) ?_ (items.length - 0) ⟨0, ρ, σ, ls, h, tk, rfl, Nat.zero_le _, rfl, L, go⟩
  rintro k s ⟨j, ρ, σ, ls, h, tk, rfl, hj, rfl, L, go⟩
  by_cases hlt : j < items.length
  · have hd : items.drop j = items[j] :: items.drop (j + 1) := List.drop_eq_getElem_cons hlt
    rw [hd] at go
    refine el02 (forGo_cons go) fun hchk go => ?_
    refine D.step (s := { s₁ with heap := h, toks := tk }) L.rep hchk L.it (List.getElem?_eq_getElem hlt) fun y h₂ tk₂ it₂ hs₂ ry => ?_
    have L₂ := L.next D hs₂ it₂
    have ry₂ : RepV HH ρ h₂ items[j] y := RepV.mono' (List.prefix_refl _) ((L.hid D).fix hs₂) ry
    dsimp only
    show wpAny _ _ (pure ()) _ _ _
    refine wpAny_pure ?_
    refine wpAny_assign_Name (store_at (s := { s₁ with heap := h₂, toks := tk₂ }) S L₂.fr L₂.rep hr ry₂ fun s₃ st₃ kp₃ F₃ => ?_)
    have L₃ := L₂.go (s := { s₁ with heap := h₂, toks := tk₂ }) D st₃ (fun _ => kp₃) F₃
    refine el03 (st₃) fun z89_0 _ _ => ?_
    obtain ⟨h3, t3, rfl⟩ := z89_0
    have hpost : ∀ f s₄, SPost HH w env outer ρ { s₁ with heap := h3, toks := t3 } pu out f s₄ -> SPost HH w env outer ρ₁ s₁ pu out f s₄ := fun f s₄ q =>
      SPost.after (s₁ := { s₁ with heap := h3, toks := t3 }) ⟨⟨_, _, rfl⟩, L₃.evo, L₃.rep⟩ L₃.kp q
    have hexc : ∀ o e s₄, SExc HH env outer ρ { s₁ with heap := h3, toks := t3 } o e s₄ -> SExc HH env outer ρ₁ s₁ o e s₄ := fun o e s₄ q =>
      SExc.after (s₁ := { s₁ with heap := h3, toks := t3 }) (w := w)  ⟨⟨_, _, rfl⟩, L₃.evo, L₃.rep⟩ q
    rcases go with ⟨ls', σ', hstep, go⟩ | ⟨hstep, hno⟩
    · have again : ∀ s₄ ρ₄, Stp HH w (owns env) ρ { s₁ with heap := h3, toks := t3 } ρ₄ σ' s₄ -> (pu = true -> Kept (owns env) h3 s₄.heap) -> FrameOk HH env outer ρ₄ s₄.heap ls' ->
          ∃ m, m < items.length - j /\ ∃ j' ρ σ ls h tk, m = items.length - j' /\ j' <= items.length /\ s₄ = { s₁ with heap := h, toks := tk } /\ LInv HH w env outer s₁.heap ρ₁ I pu P j' ρ σ ls h /\
            forGo chk (fun x ls σ => exs (ex C n) cb (ls.set i (some x)) σ) (items.drop j') ls σ = some out := by
        intro s₄ ρ₄ st₄ kp₄ F₄
        have L₄ := L₃.go (s := { s₁ with heap := h3, toks := t3 }) D st₄ kp₄ F₄
        refine el03 (st₄) fun z100_0 _ _ => ?_
        obtain ⟨h4, t4, rfl⟩ := z100_0
        exact ⟨items.length - (j + 1), by omega, j + 1, ρ₄, σ', ls', h4, t4, rfl, hlt, rfl, L₄, go⟩
      rcases hstep with hstep | hstep
      · refine wpAny_mono (hbody (s := { s₁ with heap := h3, toks := t3 }) hstep rfl S F₃ L₃.rep) (fun f s₄ ⟨q0, hq, ρ₄, st₄, F₄⟩ => ?_) fun _ _ q => q.elim
        subst hq
        exact again s₄ ρ₄ st₄ q0 F₄
      · refine wpAny_mono (hbody (s := { s₁ with heap := h3, toks := t3 }) hstep rfl S F₃ L₃.rep) (fun f s₄ ⟨q0, hq, ρ₄, st₄, F₄⟩ => ?_) fun _ _ q => q.elim
        subst hq
        exact again s₄ ρ₄ st₄ q0 F₄
    · refine wpAny_mono (hbody (s := { s₁ with heap := h3, toks := t3 }) hstep rfl S F₃ L₃.rep) (fun f s₄ q => ?_) fun e s₄ q => ?_
      · have q' := hpost f s₄ q
        induction out using Out.casesOn with
        | next ls' σ' => exact absurd rfl (hno ls' σ').1
        | cont ls' σ' => exact absurd rfl (hno ls' σ').2
        | ret v σ' => obtain ⟨_, x, rfl, _⟩ := id q; exact q'
        | exc => exact q.2.elim
      · have q' := hexc _ _ _ q
        induction out using Out.casesOn with
        | exc => exact exc_out S q'
        | _ => exact q'.elim
  · have hje : j = items.length := by (exact om140 hlt hj)
    rw [List.drop_of_length_le (by (exact on7 hlt))] at go
    refine el02 (forGo_nil go) fun hchk q122_1 => ?_
    subst q122_1
    refine D.fin (s := { s₁ with heap := h, toks := tk }) S.handled L.rep hchk L.it hje fun h₂ hs₂ => ?_
    dsimp only
    refine wpAny_execs_nil ⟨fun q => (L.kp q).hidden hs₂ L.new, rfl, ρ, ⟨⟨_, _, rfl⟩, L.evo.hidden hs₂ L.new, L.rep.hidden (L.hid D) hs₂ L.base⟩, ?_⟩
    exact L.fr.move (List.prefix_refl _) ((L.hid D).fix hs₂) fun b hb q => ⟨q.1, fun o e => hs₂ b o (L.nown b hb) e⟩
end
end
end Mine
end
section
open PySem PySem.W PySem.Calls PyProof.Rows
namespace Mine
section
variable {HH : Heap} {fa : Nat -> Addr} {mg mb : Str -> Option Value} {w : World} {A : Around} {E : Value -> Shared -> Prop} {ρ ρ₁ ρ₂ own : List Addr} {s s₁ s₂ : Shared} {σ σ₁ σ' : Sto} {h h' hb : Heap} {C : Calls} {n d m : Nat} {names : List (Str × NameKind)} {env : Env} {outer : List Env} {ls : Ls} {c : CEnv} {I : Addr} {pu : Bool} {P : Nat -> List Addr -> Heap -> Prop} {items : List V} {chk : Sto -> Bool} {j : Nat}
theorem devItems (v : V) (I : Addr) : Dev HH w own I items (chkItems v items) pu (fun j ρ h => IterAt v false items.length ρ I j h) where
  there := fun x => x.there
  move := fun x hp k _ => x.move hp k
  step := fun R hc x hu hQ => iter_step R (chk_items hc) x (by simpa using hu) hQ
  fin := fun hh R hc x hj hQ => iter_end hh R (chk_items hc) x hj hQ
theorem key_notFix {a : Addr} {i n ep : Nat} (x : h.IsKeyIter I a i n ep) : (∃ o, h.get? I = some o) /\ ∀ o, h.get? I = some o -> ¬ Fix o := by
  refine el13 (x) fun o ho hc hd => ?_
  exact ⟨⟨o, ho⟩, fun o' e f => by rw [ho] at e; (replace e := Option.some.inj e; subst e); rcases f with f | f | f <;> simp [hc, hd] at f⟩
theorem dictAt_keep {a : Addr} {kvs : List (Int × Value)} {ep : Nat} (x : h.DictAt (intKind prog w) a kvs ep) (k : ∀ o, h.get? a = some o -> h'.get? a = some o) : h'.DictAt (intKind prog w) a kvs ep :=
  let ⟨o, es, ho, r⟩ := x; ⟨o, es, k o ho, r⟩
theorem devKeys {a : Addr} {kvs : List (Int × Value)} {ep : Nat} {es : List (Int × V)} (hk : es.map (·.1) = kvs.map (·.1)) (ha : a ∉ own) (hne : a ≠ I) :
    Dev HH w own I (es.map fun p => V.int p.1) (fun _ => true) true (fun j _ h => h.IsKeyIter I a j kvs.length ep /\ h.DictAt (intKind prog w) a kvs ep) where
  there := fun x => key_notFix x.1
  move := fun ⟨⟨o, ho, r⟩, y⟩ _ k kp => ⟨⟨o, k o ho, r⟩, dictAt_keep y fun o e => kp rfl a o e ha⟩
  step := fun {A E s ρ τ j u Q} _ _ x hu hQ => by
    have hl : es.length = kvs.length := by simpa using congrArg List.length hk
    refine cpf fun rq => ?_
    obtain ⟨p, hp, rfl⟩ : ∃ p, es[j]? = some p /\ V.int p.1 = u := by
      (replace hu := Eq.trans (Eq.symm (List.getElem?_map ..)) (hu))
      cases e : es[j]? with
      | none => rw [e] at hu; cases hu
      | some p => rw [e] at hu; exact ⟨p, rfl, Option.some.inj hu⟩
    obtain ⟨k, y, hy, hky⟩ : ∃ k y, kvs[j]? = some (k, y) /\ k = p.1 := by
      have e1 : (es.map (·.1))[j]? = some p.1 := by rw [List.getElem?_map, hp]; rfl
      rw [hk, List.getElem?_map] at e1
      cases e : kvs[j]? with
      | none => rw [e] at e1; cases e1
      | some q => rw [e] at e1; exact ⟨q.1, q.2, rfl, Option.some.inj e1⟩
    subst hky
    refine rq ?_
    refine wpAny_pyNext_dict_item x.1 x.2 hy fun key h' hkey hit hs => ?_
    refine cpf fun rq => ?_
    refine el11 (Value.isInt_shape hkey) fun t q38_1 => ?_
    subst q38_1
    refine rq ?_
    rw [show s = { s with heap := s.heap, toks := s.toks } from rfl]
    exact hQ _ h' s.toks ⟨hit, dictAt_keep x.2 fun o e => (hs.2 a hne).trans e⟩ hs.extBut (.int _ t)
  fin := fun {A E s ρ τ j Q} hh _ _ x hj hQ => by
    have hl : es.length = kvs.length := by simpa using congrArg List.length hk
    (replace hj := Eq.trans (hj) (List.length_map ..))
    exact wpAny_pyNext_dict_end hh x.1 x.2 (List.getElem?_eq_none (by (exact om132 hj hl))) hQ
theorem linv_start {o : Obj} (R : HeapRep HH w ρ h σ) (F : FrameOk HH env outer ρ h ls) (hp : P 0 ρ (h.push o)) : LInv HH w env outer h ρ h.objs.size pu P 0 ρ σ ls (h.push o) := by
  have k : ∀ a ob, h.get? a = some ob -> (h.push o).get? a = some ob := fun a ob e => Heap.get?_push_of_some o e
  have hn := get_size h
  refine ⟨Evo.push o, hn, fun q => ?_, R.keepsAll k, F.mono (Evo.push o), hp, fun _ a ob e _ => k a ob e, fun b hb q => ?_, R.stays⟩
  · refine el12 (R.notFix q) fun o' e _ => ?_
    (replace e := Eq.trans (Eq.symm (hn ..)) (e)); (exact no_so e)
  · obtain ⟨_, o', e⟩ := own_there F hb
    rw [q, hn] at e; (exact no_so e)
theorem snd_sfor {x : Str} {px pos : Pos} {it : Expr} {body : List Stmt} {i : Nat} {ci : CE} {cb : List CS} (G : Gl w HH fa mg mb) (CO : CallsOk w HH fa C (d + 1)) (hx : slotOf? ⟨names, none⟩ x = some i) (hc : cmpE m ⟨names, none⟩ it = some ci)
    (hbody : SndS HH (d + 1) w (execs body) names (exs (ex C n) cb) (pureSs cb)) :
    SndS HH (d + 1) w (exec (.For (.Name x px) it body [] pos)) names (ex C (n + 1) (.forr i ci cb)) (pureS (.forr i ci cb)) := by
  intro A env outer ρ ls σ out s hf hn S F R
  subst hn
  have hr := slotOf_inv hx
  have hpu : pureS (.forr i ci cb) = true -> pureE ci = true /\ pureSs cb = true := fun q => by
    induction ci using CE.casesOn with
    | var j => exact ⟨rfl, q⟩
    | _ => exact Bool.noConfusion q
  have out_of : ∀ {s₁ ρ₁ σ₁} {f : Flow} {s₂ : Shared}, Stp HH w [] ρ s ρ₁ σ₁ s₁ -> (pureE ci = true -> s₁.heap = s.heap) -> SPost HH w env outer ρ₁ s₁ (pureSs cb) out f s₂ -> SPost HH w env outer ρ s (pureS (.forr i ci cb)) out f s₂ := by
    intro s₁ ρ₁ σ₁ f s₂ st hp q
    exact SPost.after st.of0 (fun z => Kept.of_eq (hp (hpu z).1)) ⟨fun z => q.1 (hpu z).2, q.2⟩
  have loop : ∀ {s₁ ρ₁ σ₁ v y its}, Stp HH w [] ρ s ρ₁ σ₁ s₁ -> (pureE ci = true -> s₁.heap = s.heap) -> FrameOk HH env outer ρ₁ s₁.heap ls -> HeapRep HH w ρ₁ s₁.heap σ₁ -> RepV HH ρ₁ s₁.heap v y -> itemsOf v σ₁ = some its ->
      forGo (chkItems v its) (fun x ls σ => exs (ex C n) cb (ls.set i (some x)) σ) its ls σ₁ = some out ->
      wpAny (model prog w) A (pyIter y) (fun it s₂ => codeAny (model prog w) A (.forLoop (.Name x px) it body [] env) (fun r s' => match r with | .ok f => SPost HH w env outer ρ s (pureS (.forr i ci cb)) out f s' | .error e => cameBackBy (model prog w) A env (SExc HH env outer ρ s out) e s') s₂) (SExc HH env outer ρ s out) s₁ := by
    intro s₁ ρ₁ σ₁ v y its st hp F₁ R₁ ry hi go
    refine iter_start R₁ ry hi fun o hit => ?_
    refine codeAny_mono (loop_at (s₁ := s₁) (tk := s₁.toks) (devItems v s₁.heap.objs.size) S hr hbody (linv_start R₁ F₁ hit) go) fun r s' q => ?_
    induction r using Except.casesOn with
    | ok f => exact out_of st hp q
    | error e => exact wpAny_mono q (fun _ _ q => SExc.after st.of0 q) fun _ _ q => SExc.after st.of0 q
  simp only [Eqn.ex_forr] at hf
  refine wpAny_For ?_ (folded_plain (cmp_notSet hc) env)
  refine cpf fun rq => ?_
  split at hf
  · rename_i m' σ₁ h1
    split at hf
    · rename_i hps
      split at hf
      · rename_i es hes
        refine rq ?_
        refine SndE.use ((main_expr G CO _ _ _ _ hc).1 n) h1 S F R fun y s₁ ρ₁ st ry F₁ R₁ hp => ?_
        refine el12 (rep_dct ry) fun a qz91 hn => ?_
        subst qz91
        refine el25 (R₁.dict hes) fun a1 kvs ha1 hD hk hrr hz => ?_
        rw [hn] at ha1; (replace ha1 := Option.some.inj ha1; subst ha1)
        refine el36 (hD) fun o des ep ho hx1 hd hk1 hp1 hnd => ?_
        have hat : s₁.heap.DictAt (intKind prog w) a kvs ep := ⟨o, des, ho, hx1, hd, hk1, hp1, hnd⟩
        have ham := List.mem_of_getElem? hn
        refine wpAny_pyIter_dict (R₁.notSys ham) hat ?_
        have hown : a ∉ owns env := fun q => (own_there F₁ (.inl q)).1 ham
        have hne : a ≠ s₁.heap.objs.size := fun q => by rw [q, get_size] at ho; (exact no_so ho)
        rw [hps] at hbody
        refine codeAny_mono (loop_at (s₁ := s₁) (tk := s₁.toks) (devKeys (own := owns env) (I := s₁.heap.objs.size) (ep := ep) hk hown hne) S hr hbody (linv_start R₁ F₁ ⟨⟨_, Heap.get?_push_size _ rfl, rfl, rfl⟩, dictAt_keep hat fun o e => Heap.get?_push_of_some _ e⟩) hf) fun r s' q => ?_
        induction r using Except.casesOn with
        | ok f => exact out_of st hp (by rw [hps]; exact q)
        | error e => exact wpAny_mono q (fun _ _ q => SExc.after st.of0 q) fun _ _ q => SExc.after st.of0 q
      · (exact no_so hf)
    · (exact no_so hf)
  · rename_i v σ₁ hnd h1
    split at hf
    · rename_i its hi
      refine rq ?_
      exact SndE.use ((main_expr G CO _ _ _ _ hc).1 n) h1 S F R fun y s₁ ρ₁ st ry F₁ R₁ hp => loop st hp F₁ R₁ ry hi hf
    · (exact no_so hf)
  · (exact no_so hf)
theorem snd_swhile {t : Expr} {body : List Stmt} {pos : Pos} {ct : CE} {cb : List CS} (G : Gl w HH fa mg mb) (CO : CallsOk w HH fa C (d + 1)) (hc : cmpE m ⟨names, none⟩ t = some ct)
    (hbody : SndS HH (d + 1) w (execs body) names (exs (ex C n) cb) (pureSs cb)) :
    SndS HH (d + 1) w (exec (.While t body [] pos)) names (ex C (n + 1) (.whil ct cb)) false := by
  intro A env outer ρ ls σ out s hf hn S F R
  subst hn
  simp only [Eqn.ex_whil] at hf
  refine wpAny_While ?_
  refine codeAny_whileLoop (fun k s' => ∃ ρ' σ' ls', Stp HH w (owns env) ρ s ρ' σ' s' /\ FrameOk HH env outer ρ' s'.heap ls' /\
      whileGo (fun ls σ => tst C n ct ls none σ) (fun ls σ => exs (ex C n) cb ls σ) k ls' σ' = some out) ?_ 64 ⟨ρ, σ, ls, Stp.refl R, F, hf⟩
  rintro k s₁ ⟨ρ₁, σ₁, ls₁, st, F₁, go⟩
  induction k using Nat.casesOn with
  | zero => simp [Eqn.whileGo_1] at go
  | succ k =>
    simp only [Eqn.whileGo_2] at go
    split at go
    · rename_i σ₂ ht
      refine SndT.use ((main_expr G CO _ _ _ _ hc).2 n) ht S F₁ st.2.2 fun s₂ ρ₂ st₂ F₂ R₂ _ => ?_
      rw [if_pos rfl]
      have st' := st.trans (st₂.of0 (own := owns env))
      split at go
      · rename_i ls₃ σ₃ hs
        refine wpAny_mono (hbody hs rfl S F₂ R₂) (fun f s₃ ⟨_, q, ρ₃, st₃, F₃⟩ => ?_) fun _ _ q => q.elim
        subst q
        exact ⟨k, Nat.lt_succ_self k, ρ₃, σ₃, ls₃, st'.trans st₃, F₃, go⟩
      · rename_i ls₃ σ₃ hs
        refine wpAny_mono (hbody hs rfl S F₂ R₂) (fun f s₃ ⟨_, q, ρ₃, st₃, F₃⟩ => ?_) fun _ _ q => q.elim
        subst q
        exact ⟨k, Nat.lt_succ_self k, ρ₃, σ₃, ls₃, st'.trans st₃, F₃, go⟩
      · rename_i h1 h2
        refine wpAny_mono (hbody go rfl S F₂ R₂) (fun f s₃ q => ?_) fun e s₃ q => ?_
        · have q' := SPost.after st' (pu := false) (fun z => nomatch z) q.wkp
          induction out using Out.casesOn with
          | next ls' σ' => exact absurd go (h1 _ _)
          | cont ls' σ' => exact absurd go (h2 _ _)
          | ret v σ' => obtain ⟨_, x, rfl, _⟩ := id q; exact q'
          | exc => exact q.2.elim
        · have q' := SExc.after st' q
          induction out using Out.casesOn with
          | exc => exact exc_out S q'
          | _ => exact q'.elim
    · rename_i σ₂ ht
      (replace go := Option.some.inj go; subst go)
      refine SndT.use ((main_expr G CO _ _ _ _ hc).2 n) ht S F₁ st.2.2 fun s₂ ρ₂ st₂ F₂ R₂ _ => ?_
      rw [if_neg (by simp)]
      exact wpAny_execs_nil ⟨(fun q => nomatch q), rfl, ρ₂, st.trans st₂.of0, F₂⟩
    · (exact no_so go)
end
end Mine
end
section
set_option tactic.hygienic false
open PySem PySem.W PySem.Calls PyProof.Rows
namespace Mine
noncomputable section
mutual
noncomputable def noTry : CS -> Bool
  | .ite _ a b => noTrys a && noTrys b
  | .forr _ _ b => noTrys b
  | .whil _ b => noTrys b
  | .tryf _ _ => false
  | _ => true
noncomputable def noTrys : List CS -> Bool
  | [] => true
  | s :: r => noTry s && noTrys r
end
section
variable (HH : Heap) (w : World)
noncomputable def RaiseOk : Prop :=
  ∀ {A : Around} {d : Nat} {env : Env} {outer : List Env} {ρ : List Addr} {ls : Ls} {σ : Sto} {s : Shared} {msg : Str} {k : Nat} {np q cp pos : Pos}, SCtx HH A (d + 1) env outer -> FrameOk HH env outer ρ s.heap ls -> HeapRep HH w ρ s.heap σ ->
    env.scope.names.lookup ("CheckFault" : Str) = some NameKind.globalImplicit ->
    wpAny (model prog w) A (exec (.Raise (some (.Call (.Name "CheckFault" np) [.Constant (.str msg) k q] [] cp)) none pos) env) (fun _ _ => False) (SExc HH env outer ρ s .exc) s
end
section
variable {HH : Heap} {fa : Nat -> Addr} {mg mb : Str -> Option Value} {w : World} {A : Around} {E : Value -> Shared -> Prop} {ρ ρ₁ ρ₂ own : List Addr} {s s₁ s₂ : Shared} {σ σ₁ σ' : Sto} {h h' hb : Heap} {C : Calls} {n d m : Nat} {names : List (Str × NameKind)} {env : Env} {outer : List Env} {ls : Ls} {c : CEnv}
theorem all2_noTry {P : Stmt -> CS -> Prop} {sts : List Stmt} {cs : List CS} (h : All2 P sts cs) : noTrys cs = true -> All2 (fun st c => P st c /\ noTry c = true) sts cs := by
  induction h with
  | nil => exact fun _ => .nil
  | cons p _ ih =>
    intro q
    simp only [noTrys, Bool.and_eq_true] at q
    exact .cons ⟨p, q.1⟩ (ih q.2)
theorem main_stmt (G : Gl w HH fa mg mb) (RO : RaiseOk HH w) (CO : CallsOk w HH fa C (d + 1)) : ∀ (m : Nat) (st : Stmt) (cs : CS), cmpS m ⟨names, none⟩ st = some cs -> noTry cs = true -> ∀ n, SndS HH (d + 1) w (exec st) names (ex C n cs) (pureS cs)
  | 0, _, _, h, _ => no_some h
  | m + 1, st, cs, h, ht => by
    intro n
    induction n using Nat.casesOn with
    | zero =>
      intro A env outer ρ ls σ out s hf hn S F R
      exact no_some hf
    | succ n =>
    have blk : ∀ {sts : List Stmt} {cl : List CS}, allM (cmpS m ⟨names, none⟩) sts = some cl -> noTrys cl = true -> SndS HH (d + 1) w (execs sts) names (exs (ex C n) cl) (pureSs cl) := by
      intro sts cl q z
      refine snd_execs ((all2_noTry (allM_all2 q) z).mono ?_)
      rintro st c p
      exact main_stmt G RO CO m st c p.1 p.2 n
    cases cmp_sview h with
    | expr hc => intro A env outer ρ ls σ out s; exact snd_sexpr G CO hc
    | asg hi hc => intro A env outer ρ ls σ out s; exact snd_sassign G CO hi hc
    | sidx ho hi hc => intro A env outer ρ ls σ out s; exact snd_ssetIdx G CO ho hi hc
    | unp hi hj hk hc => intro A env outer ρ ls σ out s; exact snd_sunpack G CO hi hj hk hc
    | aug hi ho hc =>
      rcases ho with ⟨rfl, rfl⟩ | ⟨rfl, rfl⟩
      · intro A env outer ρ ls σ out s; exact snd_saug (.inl rfl) G CO hi hc
      · intro A env outer ρ ls σ out s; exact snd_saug (.inr rfl) G CO hi hc
    | ite hc ha hb =>
      obtain ⟨t1, t2⟩ := Bool.and_eq_true_iff.mp (show (noTrys _ && noTrys _) = true from ht)
      intro A env outer ρ ls σ out s; exact snd_site G CO hc (blk ha t1) (blk hb t2)
    | forr hi hc hb => intro A env outer ρ ls σ out s; exact snd_sfor G CO hi hc (blk hb ht)
    | whil hc hb => intro A env outer ρ ls σ out s; exact snd_swhile G CO hc (blk hb ht)
    | ret hc => intro A env outer ρ ls σ out s; exact snd_sret G CO hc
    | retNone => intro A env outer ρ ls σ out s; exact snd_sretNone
    | raise hg =>
      obtain ⟨rfl, g1, g2⟩ := glob_name hg
      intro A env outer ρ ls σ out s hf hn S F R
      cases (show some Out.exc = some out from hf)
      subst hn
      exact wpAny_mono (RO S F R g2) (fun _ _ q => q.elim) fun _ _ q => q
    | cont => intro A env outer ρ ls σ out s; exact snd_scont
    | tryf _ _ _ => exact Bool.noConfusion ht
end
end
end Mine
end
section
set_option tactic.hygienic false
open PySem PySem.W PySem.Calls PyProof.Rows
namespace Mine
noncomputable section
theorem lookup_of_get : ∀ {l : List (Str × NameKind)} {p : Nat} {x : Str} {k : NameKind}, (l.map (·.1)).Nodup -> l[p]? = some (x, k) -> l.lookup x = some k
  | [], _, _, _, _, h => by cases h
  | (y, ky) :: r, 0, x, k, _, h => by cases h; simp
  | (y, ky) :: r, p + 1, x, k, hn, h => by
    simp only [List.map_cons, List.nodup_cons] at hn
    have h' : r[p]? = some (x, k) := h
    (refine Eq.trans (List.lookup_cons ..) ?_)
    have q : (x == y) = false := beq_eq_false_iff_ne.mpr fun z => hn.1 (z ▸ List.mem_map.mpr ⟨_, List.mem_of_getElem? h', rfl⟩)
    rw [q]
    exact lookup_of_get hn.2 h'
theorem cellsFrom_mem {x : Str} : ∀ {l : List (Str × NameKind)} {n : Nat} {acc : List (Str × Addr)}, ((x, NameKind.cell) ∈ l \/ x ∈ acc.map (·.1)) -> x ∈ (cellsFrom n l acc).map (·.1)
  | [], _, _, h => by
    rcases h with h | h
    · cases h
    · exact h
  | (y, k) :: r, n, acc, h => by
    unfold cellsFrom
    by_cases hk : k = .cell
    · subst hk
      rw [if_pos (by rfl)]
      refine cellsFrom_mem ?_
      rcases h with h | h
      · rcases List.mem_cons.mp h with e | h
        · (refine el02 (Prod.mk.inj e) fun w29_0 w29_1 => ?_; clear e; subst w29_0; clear w29_1); exact .inr (by simp)
        · exact .inl h
      · exact .inr (by rw [List.map_cons]; exact .tail _ h)
    · rw [if_neg (by induction k using NameKind.casesOn <;> first | (exact absurd rfl hk) | decide)]
      refine cellsFrom_mem ?_
      rcases h with h | h
      · rcases List.mem_cons.mp h with e | h
        · (refine el02 (Prod.mk.inj e) fun w36_0 w36_1 => ?_; clear e; subst w36_0; subst w36_1); exact absurd rfl hk
        · exact .inl h
      · exact .inr h
theorem cellsFrom_nodup : ∀ {l : List (Str × NameKind)} {n : Nat} {acc : List (Str × Addr)}, (l.map (·.1)).Nodup -> (acc.map (·.1)).Nodup -> (∀ y ∈ acc.map (·.1), y ∉ l.map (·.1)) -> ((cellsFrom n l acc).map (·.1)).Nodup
  | [], _, _, _, h, _ => h
  | (y, k) :: r, n, acc, hn, ha, hd => by
    simp only [List.map_cons, List.nodup_cons] at hn
    unfold cellsFrom
    split
    · refine cellsFrom_nodup hn.2 ?_ ?_
      · rw [List.map_cons, List.nodup_cons]
        exact ⟨fun q => hd y q (by simp), ha⟩
      · intro z hz
        rw [List.map_cons] at hz
        rcases List.mem_cons.mp hz with e | hz
        · subst e; exact hn.1
        · exact fun q => hd z hz (by rw [List.map_cons]; exact .tail _ q)
    · exact cellsFrom_nodup hn.2 ha fun z hz q => hd z hz (by rw [List.map_cons]; exact .tail _ q)
theorem lookup_mem_keys {x : Str} : ∀ {l : List (Str × Addr)}, x ∈ l.map (·.1) -> ∃ c, l.lookup x = some c
  | [], h => by cases h
  | (y, c) :: r, h => by
    rw [List.lookup_cons]
    by_cases q : x = y
    · subst q; simp
    · have : (x == y) = false := beq_eq_false_iff_ne.mpr q
      rw [this]
      rw [List.map_cons] at h
      rcases List.mem_cons.mp h with e | h
      · exact absurd e q
      · exact lookup_mem_keys h
section
variable (HH : Heap)
structure FnFact (a : Addr) (F : Fn) (o : Obj) (fd : FuncData) (bd : List Stmt) (ps : List Str) : Prop where
  get : HH.get? a = some o
  data : o.data = .func fd
  body : fd.body = .stmts bd
  code : HH.CodeRec fd.code fd.qualname
  globals : fd.globals = mainGlobals
  closure : fd.closure = []
  builtins : fd.builtins = builtinsNs
  co : fd.scope.isCoroutine = false
  gen : fd.scope.isGenerator = false
  kind : fd.scope.kind = .function
  bind : ∀ cvs : List Value, cvs.length = ps.length -> bindArgs fd ⟨cvs, []⟩ = pure (ps.zip cvs)
  compiled : allM (cmpS 40 ⟨fd.scope.names, none⟩) bd = some F.body
  noTry : noTrys F.body = true
  nslots : F.nslots = fd.scope.names.length
  names : (fd.scope.names.map (·.1)).Nodup
  plen : F.params.length = ps.length
  pslot : ∀ (j p : Nat) (x : Str), F.params[j]? = some p -> ps[j]? = some x -> ∃ k, (k = NameKind.local \/ k = NameKind.cell) /\ fd.scope.names[p]? = some (x, k)
end
section
variable {HH : Heap} {fa : Nat -> Addr} {mg mb : Str -> Option Value} {w : World} {A : Around} {E : Value -> Shared -> Prop} {ρ ρ₁ ρ₂ own : List Addr} {s s₁ s₂ : Shared} {σ σ₁ σ' : Sto} {h h' hb : Heap} {C : Calls} {n d m : Nat} {names : List (Str × NameKind)} {env : Env} {outer frames : List Env} {ls : Ls} {c : CEnv}
theorem bind_inv {kindOf : Str -> Option NameKind} (hkd : ∀ x, kindOf x = names.lookup x) (hn : (names.map (·.1)).Nodup) :
    ∀ {params : List Nat} {args : List V} {ps : List Str} {cvs : List Value} {ls : Ls} {m cm : Str -> Option Value}, RepVs HH ρ h args cvs -> params.length = ps.length -> args.length = params.length ->
      (∀ (j p : Nat) (x : Str), params[j]? = some p -> ps[j]? = some x -> ∃ k, (k = NameKind.local \/ k = NameKind.cell) /\ names[p]? = some (x, k)) ->
      (∀ (i : Nat) (x : Str) (v : V), names[i]? = some (x, NameKind.local) -> ls[i]? = some (some v) -> ∃ y, m x = some y /\ RepV HH ρ h v y) ->
      (∀ (i : Nat) (x : Str) (v : V), names[i]? = some (x, NameKind.cell) -> ls[i]? = some (some v) -> ∃ y, cm x = some y /\ RepV HH ρ h v y) ->
      (∀ (i : Nat) (x : Str) (v : V), names[i]? = some (x, NameKind.local) -> ((params.zip args).foldl (fun (ls : Ls) p => ls.set p.1 (some p.2)) ls)[i]? = some (some v) -> ∃ y, bindL kindOf (ps.zip cvs) m x = some y /\ RepV HH ρ h v y) /\
      (∀ (i : Nat) (x : Str) (v : V), names[i]? = some (x, NameKind.cell) -> ((params.zip args).foldl (fun (ls : Ls) p => ls.set p.1 (some p.2)) ls)[i]? = some (some v) -> ∃ y, bindC kindOf (ps.zip cvs) cm x = some y /\ RepV HH ρ h v y)
  | [], [], [], _, ls, m, cm, .nil, _, _, _, hL, hC => ⟨hL, hC⟩
  | p :: params, v :: args, x :: ps, _, ls, m, cm, @RepVs.cons _ _ _ _ y _ cvs ry rs, hl, ha, hp, hL, hC => by
    refine el12 (hp 0 p x rfl rfl) fun k hk hpk => ?_
    have hkx : kindOf x = some k := by (refine Eq.trans (hkd ..) ?_); exact lookup_of_get hn hpk
    simp only [List.zip_cons_cons, List.foldl_cons, bindL, bindC]
    refine bind_inv hkd hn rs (by simpa using hl) (by simpa using ha) (fun j => hp (j + 1)) ?_ ?_
    · intro i z u hz hu
      refine cpf fun rq => ?_
      rcases set_get hu with ⟨rfl, rfl⟩ | ⟨hne, hu⟩
      · (replace hz := Eq.trans (Eq.symm (hpk ..)) (hz)); (refine some2 hz fun w109_0 w109_1 => ?_; clear hz; subst w109_0; subst w109_1)
        refine rq ?_
        rw [hkx, if_pos rfl]
        exact ⟨y, by simp, ry⟩
      · refine el12 (hL i z u hz hu) fun y' hy' r' => ?_
        refine rq ?_
        refine ⟨y', ?_, r'⟩
        split
        · have hzx : z ≠ x := fun q => by subst q; exact hne (names_inj hn hpk hz)
          simp only [if_neg hzx]; exact hy'
        · exact hy'
    · intro i z u hz hu
      refine cpf fun rq => ?_
      rcases set_get hu with ⟨rfl, rfl⟩ | ⟨hne, hu⟩
      · (replace hz := Eq.trans (Eq.symm (hpk ..)) (hz)); (refine some2 hz fun w120_0 w120_1 => ?_; clear hz; subst w120_0; subst w120_1)
        refine rq ?_
        rw [hkx, if_neg (by simp)]
        exact ⟨y, by simp, ry⟩
      · refine el12 (hC i z u hz hu) fun y' hy' r' => ?_
        refine rq ?_
        refine ⟨y', ?_, r'⟩
        split
        · exact hy'
        · have hzx : z ≠ x := fun q => by subst q; exact hne (names_inj hn hpk hz)
          simp only [if_neg hzx]; exact hy'
theorem foldl_len {α : Type} : ∀ (l : List (Nat × α)) (f : α -> Option V) (ls : Ls), (l.foldl (fun (ls : Ls) p => ls.set p.1 (f p.2)) ls).length = ls.length
  | [], _, _ => rfl
  | p :: r, f, ls => by rw [List.foldl_cons, foldl_len r f]; simp
end
end
end Mine
end
section
open PySem PySem.W PySem.Calls PyProof.Rows
namespace Mine
section
variable {HH : Heap} {fa : Nat -> Addr} {mg mb : Str -> Option Value} {w : World} {A : Around} {E : Value -> Shared -> Prop} {ρ ρ₁ ρ₂ own : List Addr} {s s₁ s₂ : Shared} {σ σ₁ σ' : Sto} {h h' hb : Heap} {C : Calls} {n d m : Nat} {names : List (Str × NameKind)} {env : Env} {outer frames : List Env} {ls : Ls} {c : CEnv}
theorem newEnv_frame {fd : FuncData} {F : Fn} {o : Obj} {body : List Stmt} {ps : List Str} {qual : Str} {func : Option Addr} {code : Value} {a L : Addr} {cells : List (Str × Addr)} (X : CCtx HH A (d + 2) frames ρ s.heap) (hbase : HH.StaysIn s.heap) (K : FnFact HH a F o fd body ps)
    (henv : env = newEnv fd.scope L mainGlobals cells qual func code none builtinsNs) (hL : s.heap.objs.size <= L) (hc : ∀ p ∈ cells, L < p.2) (hap : cells.Pairwise fun x y => x.2 ≠ y.2)
    (hk : ∀ y, fd.scope.names.lookup y = some .cell -> ∃ ca, cells.lookup y = some ca) : SCtx HH (A.deeper env) (d + 1) env frames := by
  have hnone : ∀ b, s.heap.objs.size <= b -> s.heap.get? b = none := fun b hb => by
    cases e : s.heap.get? b with
    | none => rfl
    | some o => exact absurd (Heap.lt_size e) (Nat.not_lt.mpr hb)
  have hown : ∀ b ∈ owns env, s.heap.get? b = none := fun b hb => by
    subst henv
    rcases List.mem_cons.mp hb with e | hb
    · subst e; exact hnone _ hL
    · refine el12 (List.mem_map.mp hb) fun p hp q17_2 => ?_
      subst q17_2
      exact hnone _ (Nat.le_of_lt (Nat.lt_of_le_of_lt hL (hc p hp)))
  have hkd : env.scope.kind = .function := by subst henv; exact K.kind
  refine ⟨hkd, by subst henv; rfl, by subst henv; rfl, X.handled, ?_, ?_, ?_, by subst henv; rfl, by subst henv; exact K.names, ?_, ?_, by subst henv; exact hk, fun b hb => ?_, fun b hb hb' => ?_, ?_⟩
  · have := X.depth; show A.depth + 1 + (d + 1) <= 400; (exact om149 this)
  · have := X.units; show A.units + 3 + 20 * (d + 1) <= 1000; (exact om150 this)
  · show A.frames.map _ = _; rw [X.fr]; rfl
  · intro x ca q e
    subst henv
    have := hc _ (mem_of_lookup q)
    rw [e] at this
    exact Nat.lt_irrefl _ this
  · intro x y ca q1 q2
    subst henv
    exact name_of_addr hap (mem_of_lookup q1) (mem_of_lookup q2)
  · cases e : HH.get? b with
    | none => rfl
    | some o => have := hbase _ _ e; (replace this := Eq.trans (Eq.symm (hown b hb ..)) (this)); cases this
  · obtain ⟨_, o, e⟩ := X.fn b hb
    (replace e := Eq.trans (Eq.symm (hown b hb' ..)) (e)); cases e
  · unfold interactive; rw [hkd]; rfl
theorem call_fn {a : Addr} {F : Fn} {o : Obj} {fd : FuncData} {body : List Stmt} {ps : List Str} {args : List V} {cvs : List Value} {out : Res} (G : Gl w HH fa mg mb) (RO : RaiseOk HH w) (CO : CallsOk w HH fa C (d + 1))
    (K : FnFact HH a F o fd body ps) (hf : runFn C F args σ = some out) (X : CCtx HH A (d + 2) frames ρ s.heap) (R : HeapRep HH w ρ s.heap σ) (hr : RepVs HH ρ s.heap args cvs) :
    codeAny (model prog w) A (.call (.ref a) ⟨cvs, []⟩) (CallPost w HH frames ρ s out) s := by
  simp only [runFn] at hf
  by_cases hlen : args.length = F.params.length
  case neg => (replace hf := Eq.trans (Eq.symm (if_neg hlen ..)) (hf)); (exact no_so hf)
  (replace hf := Eq.trans (Eq.symm (if_pos hlen ..)) (hf))
  have hlc : cvs.length = ps.length := by (exact Eq.trans (Eq.symm (hr.length ..)) (Eq.trans (hlen ..) ((K.plen ..))))
  refine codeAny_call_function (body := body) (by have := X.depth; have : recursionLimit = 1000 := rfl; (exact om151 (by assumption) this)) (R.stays _ _ K.get) K.data K.co K.gen K.body (K.code.keeps R.stays) ?_
  rw [K.bind cvs hlc]
  refine wpAny_pure ?_
  rw [K.globals, K.closure, K.builtins]
  have hcn : ((cellsFrom (s.heap.objs.size + 1) fd.scope.names []).map (·.1)).Nodup := cellsFrom_nodup K.names List.nodup_nil fun _ q => nomatch q
  have hck : ∀ y, fd.scope.names.lookup y = some .cell -> ∃ ca, (cellsFrom (s.heap.objs.size + 1) fd.scope.names []).lookup y = some ca := fun y q => lookup_mem_keys (cellsFrom_mem (.inl (mem_of_lookup q)))
  refine wpAny_newFunctionEnv_cells K.kind (fun x hx => ?_) fun env henv s₁ ic => ?_
  · obtain ⟨j, hj, e⟩ := List.mem_iff_getElem.mp hx
    have hjp : j < ps.length := by rw [List.length_zip] at hj; (exact om152 hj)
    have hjF : j < F.params.length := by rw [K.plen]; exact hjp
    have hx1 : ps[j]? = some x.1 := by rw [List.getElem?_eq_getElem hjp, <- e]; simp
    refine el12 (K.pslot j _ x.1 (List.getElem?_eq_getElem hjF) hx1) fun k hk hpk => ?_
    have hl := lookup_of_get K.names hpk
    rcases hk with rfl | rfl
    · exact .inl hl
    · refine el11 (hck _ hl) fun ca q => ?_
      exact .inr ⟨hl, by rw [q]; rfl⟩
  · obtain ⟨ich, icc, ica, icb⟩ := ic
    obtain ⟨⟨h₁, tk, rfl⟩, ins, ik, ifr⟩ := ich
    simp only at ins ik icc
    have hcells : env.cells = cellsFrom (s.heap.objs.size + 1) fd.scope.names [] := by subst henv; rfl
    have hsc : env.scope = fd.scope := by subst henv; rfl
    have hloc : env.locals = s.heap.objs.size := by subst henv; rfl
    have S : SCtx HH (A.deeper env) (d + 1) env frames := newEnv_frame X R.stays K henv (Nat.le_refl _) (fun p hp => by rw [<- hloc]; exact icb p.1 p.2 (by rw [hcells]; exact hp)) (by rw [<- hcells]; exact ica) hck
    have hnone : ∀ b ∈ owns env, s.heap.get? b = none := fun b hb => by
      have : s.heap.objs.size <= b := by
        rcases List.mem_cons.mp hb with e | hb
        · rw [e, hloc]; exact Nat.le_refl _
        · refine el12 (List.mem_map.mp hb) fun p hp q75_2 => ?_
          subst q75_2
          have := icb p.1 p.2 hp
          rw [hloc] at this
          exact Nat.le_of_lt this
      cases e : s.heap.get? b with
      | none => rfl
      | some o => exact absurd (Heap.lt_size e) (Nat.not_lt.mpr this)
    have hnρ : ∀ b ∈ owns env, b ∉ ρ := fun b hb q => by
      refine el12 (R.notFix q) fun o' e _ => ?_
      (replace e := Eq.trans (Eq.symm (hnone b hb ..)) (e)); cases e
    have st₁ : Stp HH w [] ρ s ρ σ { s with heap := h₁, toks := tk } := Stp.keeps R tk ik
    have hr₁ : RepVs HH ρ h₁ args cvs := hr.mono st₁.2.1
    obtain ⟨bL, bC⟩ := bind_inv (names := fd.scope.names) (kindOf := env.kindOf) (ls := List.replicate F.nslots none) (m := fun _ => none) (cm := fun _ => none) (fun x => by rw [kindOf_eq, hsc]) K.names hr₁ K.plen hlen K.pslot
      (fun i x v _ q => by (replace q := Eq.trans (Eq.symm (List.getElem?_replicate ..)) (q)); split at q <;> cases q) (fun i x v _ q => by (replace q := Eq.trans (Eq.symm (List.getElem?_replicate ..)) (q)); split at q <;> cases q)
    have Fr : FrameOk HH env frames ρ h₁ (initLs F args) := by
      refine ⟨?_, funFrames_keep X.ff fun b _ o e => ik b o e, fun b hb => (X.fn b hb).mono st₁.2.1, ?_, fun p hp => ⟨hnρ _ (.tail _ (List.mem_map.mpr ⟨p, hp, rfl⟩)), ?_⟩, ⟨_, ins, fun i x v q1 q2 => ?_⟩, fun i x q => ?_⟩
      · unfold initLs
        rw [foldl_len _ fun v => some v, List.length_replicate, K.nslots, hsc]
      · refine el32 (id ins) fun o' _ _ e _ => ?_
        exact ⟨hnρ _ (.head _), o', e⟩
      · have hl : env.cells.lookup p.1 = some p.2 := by
          rw [hcells] at hp ⊢
          exact lookup_of_mem_nodup hcn hp
        refine el12 (icc p.1 p.2 hl) fun o' e _ => ?_
        exact ⟨o', e⟩
      · rw [hsc] at q1; exact bL i x v q1 q2
      · rw [hsc] at q
        refine el11 (hck x (lookup_of_get K.names q)) fun ca hca => ?_
        rw [<- hcells] at hca
        exact ⟨ca, _, hca, icc x ca hca, fun v q2 => bC i x v q q2⟩
    refine ⟨(G.lim.keeps R.stays).keeps ik, codeAny_func ?_⟩
    have main : SndS HH (d + 1) w (execs body) fd.scope.names (exs (ex C 40) F.body) (pureSs F.body) := by
      refine snd_execs ((all2_noTry (allM_all2 K.compiled) K.noTry).mono ?_)
      rintro st c p
      exact main_stmt G RO CO 40 st c p.1 p.2 40
    have close : ∀ {ρ' σ' s'}, Stp HH w (owns env) ρ { s with heap := h₁, toks := tk } ρ' σ' s' -> Stp HH w [] ρ s ρ' σ' s' := fun q => (st₁.of0.trans q).wk fun b hb => .inr (hnone b hb)
    generalize hb : exs (ex C 40) F.body (initLs F args) σ = r at hf
    induction r using Option.casesOn with
    | none => cases hf
    | some o' =>
      refine wpAny_mono (main (s := { s with heap := h₁, toks := tk }) hb (by rw [hsc]) S Fr st₁.2.2) (fun f s₂ q => ?_) fun e s₂ q => ?_
      · refine el02 (q) fun _ q => ?_
        induction o' using Out.casesOn with
        | next ls' σ' =>
          cases hf
          obtain ⟨rfl, ρ', st, _⟩ := q
          exact ⟨_, rfl, ρ', close st, .none⟩
        | cont => cases hf
        | ret v σ' =>
          cases hf
          obtain ⟨x, rfl, ρ', st, r⟩ := q
          exact ⟨_, rfl, ρ', close st, r⟩
        | exc => exact q.elim
      · induction o' using Out.casesOn with
        | exc =>
          cases hf
          refine el14 (q) fun ea q131_1 z131_2 Xs sl => ?_
          subst q131_1
          obtain ⟨h', tk', rfl⟩ := z131_2
          refine leaveX S.fr S.frame Xs fun h'' a0 fl up => ?_
          refine ⟨ea, rfl, ⟨_, _, rfl⟩, ⟨a0, fl⟩, fun b o e n hd => ?_⟩
          exact (sl.up up) b o (ik b o e) n (fun z => by (replace e := Eq.trans (Eq.symm (hnone b z ..)) (e)); cases e) hd
        | _ => exact q.elim
theorem calls_ok (G : Gl w HH fa mg mb) (RO : RaiseOk HH w) (hfn : ∀ i F, fns i = some F -> ∃ o fd body ps, FnFact HH (fa i) F o fd body ps) (l : Nat) : CallsOk w HH fa (run l) (l + 1) := by
  induction l with
  | zero =>
    intro i x args σ out A frames ρ s cvs hi hc X R hr
    simp [Eqn.run_1] at hc
  | succ l ih =>
    intro i x args σ out A frames ρ s cvs hi hc X R hr
    simp only [Eqn.run_2] at hc
    refine cpf fun rq => ?_
    split at hc
    · rename_i F hF
      refine el41 (hfn i F hF) fun o fd body ps K => ?_
      refine rq ?_
      exact call_fn G RO ih K hc X R hr
    · (exact no_so hc)
end
end Mine
end
section
open PySem PySem.W PyProof.Rows
namespace Mine
theorem staged {T P : Prop} (_ : T) (h : P) : P := h
local macro_rules
  | `(tactic| o_law) => `(tactic| (refine holds_law (by decide +kernel) fun said => ?_))
local macro_rules
  | `(tactic| o_head $H) => do
    let hl := Lean.mkIdent `hl
    let mn := Lean.mkIdent `main
    let hc <- `(Lean.Parser.Tactic.caseArg| $hl:ident)
    let mc <- `(Lean.Parser.Tactic.caseArg| $mn:ident)
    match H with
    | `(($x)) => if x.raw.isOfKind ``Lean.Parser.Term.paren then Lean.Macro.throwUnsupported else
      `(tactic| (refine' Mine.staged ?$hl ?$mn; (case' $mc => o_head (($x))); (case $hc => (intro w; kernel_rfl))))
    | _ => Lean.Macro.throwUnsupported
set_option maxRecDepth 100000 in
set_option maxHeartbeats 8000000 in
open_top hd for PySem.Challenge.rw_no0225_01
end Mine
end
section
set_option tactic.hygienic false
open PySem PySem.W PySem.Calls PyProof.Rows
namespace Mine
noncomputable section
noncomputable def fad : Nat -> Addr := fun i => [88, 74, 81, 95, 102, 109, 114, 121, 128, 133].getD i 0
theorem mapM_slots {c : CEnv} : ∀ {l : List Arg} {ps : List Nat}, (l.mapM fun a => slotOf? c a.arg) = some ps -> ps.length = l.length /\ ∀ (j p : Nat) (a : Arg), ps[j]? = some p -> l[j]? = some a -> slotOf? c a.arg = some p
  | [], ps, h => by
    simp at h
    subst h
    exact ⟨rfl, fun j p a q => by simp at q⟩
  | a :: l, ps, h => by
    simp only [List.mapM_cons, Option.bind_eq_bind, Option.bind_eq_some_iff, Option.pure_def, Option.some.injEq] at h
    refine cpf fun rq => ?_
    obtain ⟨p, hp, qs, hq, rfl⟩ := h
    refine el02 (mapM_slots hq) fun h1 h2 => ?_
    refine rq ?_
    refine ⟨by simp [h1], fun j p' a' e1 e2 => ?_⟩
    induction j using Nat.casesOn with
    | zero => cases e1; cases e2; exact hp
    | succ j => exact h2 j p' a' e1 e2
theorem fn_fact {HH : Heap} {K : Frag} (X : K.In HH) {x : Str} {F : Fn} {a : Addr} {cls : Value} {dd : Option Addr} {sl : Array (Option Value)} {fd : FuncData} {nm : Str} {args : Arguments} {body : List Stmt} {ps : List Str} {scope : Scope} {d1 d2 d3 d4 d5 d6}
    (hl : K.lookup a = some ⟨cls, dd, .func fd, sl⟩) (hb : fd.body = .stmts body) (hdef : findDef x PySem.Challenge.pw_no0225_01.main.body = some (.FunctionDef nm args body d1 d2 d3 scope d4 d5 d6)) (hsc : fd.scope = scope)
    (hF : fnOf? x = some F) (hps : args.args.map (·.arg) = ps) (hcode : codeIn K fd.code fd.qualname = true) (hg : fd.globals = mainGlobals) (hcl : fd.closure = []) (hbi : fd.builtins = builtinsNs)
    (hco : scope.isCoroutine = false) (hgen : scope.isGenerator = false) (hk : scope.kind = .function) (hbind : ∀ cvs : List Value, cvs.length = ps.length -> bindArgs fd ⟨cvs, []⟩ = pure (ps.zip cvs))
    (hno : ((fnOf? x).map fun F => noTrys F.body) = some true) (hnd : (scope.names.map (·.1)).Nodup) : FnFact HH a F ⟨cls, dd, .func fd, sl⟩ fd body ps := by
  have hno' : noTrys F.body = true := by rw [hF] at hno; exact Option.some.inj hno
  unfold fnOf? at hF
  rw [hdef] at hF
  obtain ⟨qs, hq, bd, hbd, rfl⟩ := cmpFn_inv (show cmpFn (.FunctionDef nm args body d1 d2 d3 scope d4 d5 d6) = some F from hF)
  subst hsc hps
  refine el02 (mapM_slots hq) fun h1 h2 => ?_
  refine ⟨X _ _ hl, rfl, hb, codeRec_of X hcode, hg, hcl, hbi, hco, hgen, hk, hbind, hbd, hno', rfl, hnd, by simpa using h1, fun j p y e1 e2 => ?_⟩
  (replace e2 := Eq.trans (Eq.symm (List.getElem?_map ..)) (e2))
  cases e3 : args.args[j]? with
  | none => rw [e3] at e2; cases e2
  | some b =>
    rw [e3] at e2
    cases e2
    refine el13 (resolve_slot (slotOf_inv (h2 j p b e1 e3))) fun k hk hn _ => ?_
    exact ⟨k, hk, hn⟩
theorem len1 {α : Type} {l : List α} (h : l.length = 1) : ∃ a, l = [a] := by
  induction l using List.casesOn with
  | nil => cases h
  | cons a r => induction r using List.casesOn with
    | nil => exact ⟨a, rfl⟩
    | cons => cases h
theorem len2 {α : Type} {l : List α} (h : l.length = 2) : ∃ a b, l = [a, b] := by
  induction l using List.casesOn with
  | nil => cases h
  | cons a r => obtain ⟨b, rfl⟩ := len1 (Nat.succ.inj h); exact ⟨a, b, rfl⟩
theorem len3 {α : Type} {l : List α} (h : l.length = 3) : ∃ a b c, l = [a, b, c] := by
  induction l using List.casesOn with
  | nil => cases h
  | cons a r => obtain ⟨b, c, rfl⟩ := len2 (Nat.succ.inj h); exact ⟨a, b, c, rfl⟩
theorem len5 {α : Type} {l : List α} (h : l.length = 5) : ∃ a b c d e, l = [a, b, c, d, e] := by
  induction l using List.casesOn with
  | nil => cases h
  | cons a r => induction r using List.casesOn with
    | nil => cases h
    | cons b r => obtain ⟨c, d, e, rfl⟩ := len3 (Nat.succ.inj (Nat.succ.inj h)); exact ⟨a, b, c, d, e, rfl⟩
theorem fn_facts {HH : Heap} {p : Params} (X : (hd.heap_1 p).In HH) : ∀ i F, fns i = some F -> ∃ o fd body ps, FnFact HH (fad i) F o fd body ps := by
  intro i F hF
  match i, hF with
  | 0, hF => exact ⟨_, _, _, _, fn_fact X (x := "open_arm") (K := hd.heap_1 p) (a := 88) rfl rfl rfl rfl hF rfl rfl rfl rfl rfl rfl rfl rfl (fun cvs h => by obtain ⟨_, rfl⟩ := len1 h; rfl) (by decide +kernel) (by decide +kernel)⟩
  | 1, hF => exact ⟨_, _, _, _, fn_fact X (x := "note_label") (K := hd.heap_1 p) (a := 74) rfl rfl rfl rfl hF rfl rfl rfl rfl rfl rfl rfl rfl (fun cvs h => by obtain ⟨_, _, _, rfl⟩ := len3 h; rfl) (by decide +kernel) (by decide +kernel)⟩
  | 2, hF => exact ⟨_, _, _, _, fn_fact X (x := "note_arm") (K := hd.heap_1 p) (a := 81) rfl rfl rfl rfl hF rfl rfl rfl rfl rfl rfl rfl rfl (fun cvs h => by obtain ⟨_, _, _, _, _, rfl⟩ := len5 h; rfl) (by decide +kernel) (by decide +kernel)⟩
  | 3, hF => exact ⟨_, _, _, _, fn_fact X (x := "note_ends") (K := hd.heap_1 p) (a := 95) rfl rfl rfl rfl hF rfl rfl rfl rfl rfl rfl rfl rfl (fun cvs h => by obtain ⟨_, _, _, _, _, rfl⟩ := len5 h; rfl) (by decide +kernel) (by decide +kernel)⟩
  | 4, hF => exact ⟨_, _, _, _, fn_fact X (x := "flow_of") (K := hd.heap_1 p) (a := 102) rfl rfl rfl rfl hF rfl rfl rfl rfl rfl rfl rfl rfl (fun cvs h => by obtain ⟨_, rfl⟩ := len1 h; rfl) (by decide +kernel) (by decide +kernel)⟩
  | 5, hF => exact ⟨_, _, _, _, fn_fact X (x := "_law_draw") (K := hd.heap_1 p) (a := 109) rfl rfl rfl rfl hF rfl rfl rfl rfl rfl rfl rfl rfl (fun cvs h => by obtain ⟨_, _, rfl⟩ := len2 h; rfl) (by decide +kernel) (by decide +kernel)⟩
  | 6, hF => exact ⟨_, _, _, _, fn_fact X (x := "_law_rows") (K := hd.heap_1 p) (a := 114) rfl rfl rfl rfl hF rfl rfl rfl rfl rfl rfl rfl rfl (fun cvs h => by obtain ⟨_, rfl⟩ := len1 h; rfl) (by decide +kernel) (by decide +kernel)⟩
  | 7, hF => exact ⟨_, _, _, _, fn_fact X (x := "_law_ahead") (K := hd.heap_1 p) (a := 121) rfl rfl rfl rfl hF rfl rfl rfl rfl rfl rfl rfl rfl (fun cvs h => by obtain ⟨_, _, rfl⟩ := len2 h; rfl) (by decide +kernel) (by decide +kernel)⟩
  | 8, hF => exact ⟨_, _, _, _, fn_fact X (x := "_law_arms") (K := hd.heap_1 p) (a := 128) rfl rfl rfl rfl hF rfl rfl rfl rfl rfl rfl rfl rfl (fun cvs h => by obtain ⟨_, rfl⟩ := len1 h; rfl) (by decide +kernel) (by decide +kernel)⟩
  | 9, hF => exact ⟨_, _, _, _, fn_fact X (x := "_law_ends") (K := hd.heap_1 p) (a := 133) rfl rfl rfl rfl hF rfl rfl rfl rfl rfl rfl rfl rfl (fun cvs h => by obtain ⟨_, _, rfl⟩ := len2 h; rfl) (by decide +kernel) (by decide +kernel)⟩
  | n + 10, hF => exact no_some hF
end
end Mine
end
section
set_option tactic.hygienic false
open PySem PySem.W PySem.Calls PyProof.Rows
namespace Mine
section
variable {HH : Heap} {p : Params} {w : World}
theorem attr_rule (X : (hd.heap_1 p).In HH) : AttrRule w HH := by
  intro A E s a d es n x b Q st ha hdd hx hg k
  have X' : (hd.heap_1 p).In s.heap := fun a o e => st _ _ (X a o e)
  have hx' : findIn (hd.heap_1 p) (.ref 63) x = some none := by
    simp only [attrNames, List.mem_cons, List.not_mem_nil, or_false] at hx
    rcases hx with rfl | rfl | rfl | rfl | rfl <;> rfl
  refine get_value (C := 63) (od := some (dictOf es n)) X' ⟨ha, rfl, rfl, hdd⟩ rfl (findObj_own rfl hx' rfl (by (refine Eq.trans (lookIn_dict ..) ?_); exact hg)) rfl (k _)
theorem fcls_ok (X : (hd.heap_1 p).In HH) (M : Model) (h : Heap) (st : HH.StaysIn h) : ∃ k, (k = Keeper.frame \/ k = Keeper.machine \/ k = Keeper.boundFrame) /\ Looks M h (keeperOf (.ref 63)) k := by
  refine el12 (looks_keep (K := hd.heap_1 p) (M := M) (h := h) (f := .ref 63) (by kernel_rfl) fun a o e => st _ _ (X a o e)) fun k hk l => ?_
  exact ⟨k, hk.elim .inl fun q => .inr (.inl q), l⟩
theorem fn_names {mg : Str -> Option Value} (X : (hd.heap_1 p).In HH) (G : HH.Ns mainGlobals mg) : ∀ i x, funNames[i]? = some x -> mg x = some (.ref (fad i)) := by
  intro i x hx
  match i, hx with
  | 0, hx => cases hx; exact mg_of X G (by rfl)
  | 1, hx => cases hx; exact mg_of X G (by rfl)
  | 2, hx => cases hx; exact mg_of X G (by rfl)
  | 3, hx => cases hx; exact mg_of X G (by rfl)
  | 4, hx => cases hx; exact mg_of X G (by rfl)
  | 5, hx => cases hx; exact mg_of X G (by rfl)
  | 6, hx => cases hx; exact mg_of X G (by rfl)
  | 7, hx => cases hx; exact mg_of X G (by rfl)
  | 8, hx => cases hx; exact mg_of X G (by rfl)
  | 9, hx => cases hx; exact mg_of X G (by rfl)
  | n + 10, hx => simp [funNames] at hx
theorem fn_objs (X : (hd.heap_1 p).In HH) : ∀ i x, funNames[i]? = some x -> ∃ o fd, HH.get? (fad i) = some o /\ o.data = .func fd := by
  intro i x hx
  match i, hx with
  | 0, hx => exact ⟨_, _, X 88 _ rfl, rfl⟩
  | 1, hx => exact ⟨_, _, X 74 _ rfl, rfl⟩
  | 2, hx => exact ⟨_, _, X 81 _ rfl, rfl⟩
  | 3, hx => exact ⟨_, _, X 95 _ rfl, rfl⟩
  | 4, hx => exact ⟨_, _, X 102 _ rfl, rfl⟩
  | 5, hx => exact ⟨_, _, X 109 _ rfl, rfl⟩
  | 6, hx => exact ⟨_, _, X 114 _ rfl, rfl⟩
  | 7, hx => exact ⟨_, _, X 121 _ rfl, rfl⟩
  | 8, hx => exact ⟨_, _, X 128 _ rfl, rfl⟩
  | 9, hx => exact ⟨_, _, X 133 _ rfl, rfl⟩
  | n + 10, hx => simp [funNames] at hx
theorem builtin_of {q : Program} {loose : List Str} {mg mb : Str -> Option Value} {x : Str} {v : Value} (X : (hd.heap_1 p).In HH) (T : TopRead q loose mg mb HH) (hn : nsIn (hd.heap_1 p) mainGlobals x = some none) (hb : bootBuiltins x = some v) (hx : x ≠ "__name__") :
    mg x = none /\ mb x = some v := ⟨ns_none_of X T.g hn, (T.builtins x hx).trans hb⟩
end
end Mine
end
section
set_option tactic.hygienic false
open PySem PySem.W PySem.Calls PyProof.Rows
namespace Mine
section
variable {p : Params} {w : World} {A : Around} {E : Value -> Shared -> Prop} {s : Shared} {env : Env} {h₀ : Heap} {L x dx : Addr} {m : Str -> Option Value} {es : List DictEntry} {n : Nat} {post : List (Addr × Obj)}
theorem init_store {name : Str} {p1 p2 p3 pos : Pos} {Q : Flow -> Shared -> Prop} (X : (hd.heap_1 p).In h₀) (F : Fr h₀ L s.heap m) (N : News h₀ L s.heap ((x, instObj 63 dx) :: (dx, dictOf es n) :: post)) (hxd : x ≠ dx) (hpost : ∀ q ∈ post, q.1 ≠ dx)
    (hk : env.scope.kind = .function) (hl : env.locals = L) (hself : env.kindOf "self" = some .local) (hm : m "self" = some (.ref x)) (hname : name ∈ attrNames) (hes : es.length <= 10) (href : es.any (·.refKey) = false)
    (k : ∀ D h' tk, h₀.objs.size <= D -> (∀ q ∈ ((x, instObj 63 dx) :: (dx, dictOf es n) :: post), q.1 ≠ D) -> Fr h₀ L h' m -> News h₀ L h' ((x, instObj 63 dx) :: (dx, dictOf (putL name (PyData.keyHash w.params name) (.str name tk) (.ref D) es) (putN name es n)) :: (D, emptyDict) :: post) -> Q .next { s with heap := h', toks := tk + 1 }) :
    wpAny (model prog w) A (exec (.Assign [.Attribute (.Name "self" p1) name p2] (.Dict [] [] p3) pos) env) Q E s := by
  obtain ⟨hh, g, dr, t, os⟩ := s
  refine plainObj_wpAny_Assign_Attribute (wpAny_Dict_empty ?_)
  have F1 : Fr h₀ L (hh.push emptyDict) m := F.push _
  have hsz : ∀ q ∈ ((x, instObj 63 dx) :: (dx, dictOf es n) :: post), q.1 < hh.objs.size := fun q hq => Heap.lt_size (N q hq).1
  have N1 : News h₀ L (hh.push emptyDict) ((x, instObj 63 dx) :: (dx, dictOf es n) :: (hh.objs.size, emptyDict) :: post) := by
    have := N.push F emptyDict
    intro q hq
    refine this q ?_
    simp only [List.mem_cons] at hq ⊢
    rcases hq with q1 | q1 | q1 | q1
    · exact .inr (.inl q1)
    · exact .inr (.inr (.inl q1))
    · exact .inl q1
    · exact .inr (.inr (.inr q1))
  have hne : dx ≠ hh.objs.size := Nat.ne_of_lt (hsz (dx, dictOf es n) (by simp))
  refine wpAny_Name (wpAny_loadName_local hk hself (by rw [hl]; exact F1.ns) hm ?_)
  have X1 : (hd.heap_1 p).In (hh.push emptyDict) := fun a o e => F1.keep _ _ (X a o e)
  have I : InstAt (hh.push emptyDict) x (instObj 63 dx) 63 (some (dictOf es n)) := ⟨(N1 (x, instObj 63 dx) (by simp)).1, rfl, rfl, (N1 (dx, dictOf es n) (by simp)).1⟩
  have ht : takerIn (hd.heap_1 p) 63 name = some none := by
    simp only [attrNames, List.mem_cons, List.not_mem_nil, or_false] at hname
    rcases hname with rfl | rfl | rfl | rfl | rfl <;> rfl
  refine set_plain (s := ⟨hh.push emptyDict, g, dr, t, os⟩) X1 I rfl ?_
  refine osa_dict (w := w) (s := ⟨hh.push emptyDict, g, dr, t + 1, os⟩) (pre := [(x, instObj 63 dx)]) (od := dictOf es n) (od' := dictOf (putL name (PyData.keyHash w.params name) (.str name (t + 1)) (.ref hh.objs.size) es) (putN name es n)) (post := (hh.objs.size, emptyDict) :: post) F1 N1 X1 I rfl (by kernel_rfl) ht (by kernel_rfl) ?_ ?_ ?_ (putName_dict ..) rfl ?_ fun h' F' N' => ?_
  · rw [lookIn_dict]
    unfold W.getL
    split
    · rfl
    · rw [href]; rfl
  · intro q hq
    rw [List.mem_singleton.mp hq]
    exact hxd
  · intro q hq
    rcases List.mem_cons.mp hq with rfl | hq
    · exact Ne.symm hne
    · exact hpost q hq
  · have : ∀ (es : List DictEntry) (H : Int) (kv v : Value), (putL name H kv v es).length <= es.length + 1 := by
      intro es H kv v
      induction es with
      | nil => simp [putL]
      | cons e r ih => unfold putL; split <;> simp [ih]
    exact Nat.le_trans (this _ _ _ _) (by (exact om9 hes))
  · refine k hh.objs.size h' (t + 1) ?_ (fun q hq => Nat.ne_of_lt (hsz q hq)) F' N'
    refine el32 (F.ns) fun _ _ _ e _ => ?_
    exact Nat.le_trans F.above (Nat.le_of_lt (Heap.lt_size e))
end
end Mine
end
section
set_option tactic.hygienic false
open PySem PySem.W PySem.Calls PyProof.Rows
namespace Mine
section
variable {HH : Heap} {p : Params} {w : World} {A : Around} {E : Value -> Shared -> Prop} {s : Shared} {ρ : List Addr} {σ : Sto} {d : Nat} {frames : List Env}
theorem out_snoc {a b : Addr} (h : a ∉ ρ) (n : a ≠ b) : a ∉ ρ ++ [b] := fun q => (List.mem_append.mp q).elim h fun q => n (List.mem_singleton.mp q)
theorem at_snoc {α : Type} {l : List α} {a b : α} {i : Nat} (h : l[i]? = some a) : (l ++ [b])[i]? = some a := by
  obtain ⟨hi, e⟩ := List.getElem?_eq_some_iff.mp h
  (refine Eq.trans (List.getElem?_append_left hi ..) ?_); exact h
theorem at_last {α : Type} {l : List α} {a : α} {i : Nat} (h : l.length = i) : (l ++ [a])[i]? = some a := by
  subst h; exact List.getElem?_concat_length
theorem len_snoc {α : Type} {l : List α} {a : α} {i : Nat} (h : l.length = i) : (l ++ [a]).length = i + 1 := by
  rw [List.length_append, h]; rfl
theorem app6 {α : Type} (l : List α) (a b c d e f : α) : l ++ [a] ++ [b] ++ [c] ++ [d] ++ [e] ++ [f] = l ++ [a, b, c, d, e, f] := by
  simp
theorem flow_join {h h' : Heap} {dx D1 D2 D3 D4 D5 : Addr} {es : List DictEntry} {n : Nat} (R : HeapRep HH w ρ h σ) (k : ∀ a o, h.get? a = some o -> h'.get? a = some o)
    (hd : h'.get? dx = some (dictOf es n)) (h1 : h'.get? D1 = some emptyDict) (h2 : h'.get? D2 = some emptyDict) (h3 : h'.get? D3 = some emptyDict) (h4 : h'.get? D4 = some emptyDict) (h5 : h'.get? D5 = some emptyDict)
    (m1 : h.objs.size <= D1) (m2 : h.objs.size <= D2) (m3 : h.objs.size <= D3) (m4 : h.objs.size <= D4) (m5 : h.objs.size <= D5) (m6 : h.objs.size <= dx)
    (a12 : D1 ≠ D2) (a13 : D1 ≠ D3) (a14 : D1 ≠ D4) (a15 : D1 ≠ D5) (a16 : dx ≠ D1) (a23 : D2 ≠ D3) (a24 : D2 ≠ D4) (a25 : D2 ≠ D5) (a26 : dx ≠ D2) (a34 : D3 ≠ D4) (a35 : D3 ≠ D5) (a36 : dx ≠ D3) (a45 : D4 ≠ D5) (a46 : dx ≠ D4) (a56 : dx ≠ D5)
    (g1 : W.getL "labels" es = some (some (.ref D1))) (g2 : W.getL "next_arm" es = some (some (.ref D2))) (g3 : W.getL "block_end" es = some (some (.ref D3))) (g4 : W.getL "do_end" es = some (some (.ref D4))) (g5 : W.getL "ending" es = some (some (.ref D5))) :
    HeapRep HH w (ρ ++ [D1] ++ [D2] ++ [D3] ++ [D4] ++ [D5] ++ [dx]) h' (σ ++ [.dict []] ++ [.dict []] ++ [.dict []] ++ [.dict []] ++ [.dict []] ++ [.attrs [σ.length, σ.length + 1, σ.length + 2, σ.length + 3, σ.length + 4]]) /\
      Evo [] ρ h (ρ ++ [D1] ++ [D2] ++ [D3] ++ [D4] ++ [D5] ++ [dx]) h' := by
  have out : ∀ {a}, h.objs.size <= a -> a ∉ ρ := fun {a} hn q => by
    obtain ⟨o, e, _⟩ := R.notFix q
    (replace e := Eq.trans (Eq.symm (Heap.get?_none_of_le hn ..)) (e)); exact no_some e
  have hhn : ∀ {a}, h.objs.size <= a -> HH.get? a = none := fun {a} hn => by
    cases e : HH.get? a with
    | none => rfl
    | some o => have := R.stays _ _ e; (replace this := Eq.trans (Eq.symm (Heap.get?_none_of_le hn ..)) (this)); exact no_some this
  have em : ∀ {ρ' : List Addr} {D : Addr}, h'.get? D = some emptyDict -> ObjRep HH w ρ' h' D (.dict []) := fun {ρ' D} e => by
    refine cpf fun rq => ?_
    obtain ⟨o, es, ep, ho, r⟩ := Heap.DictOf.new (knd := intKind prog w) h
    (replace ho := Eq.trans (Eq.symm (Heap.get?_push_size _ rfl ..)) (ho))
    cases ho
    refine rq ?_
    exact .dict (kvs := []) ⟨_, _, _, e, r⟩ rfl .nil (by simp)
  have join : ∀ {ρ' σ' a o}, HeapRep HH w ρ' h' σ' -> h.objs.size <= a -> a ∉ ρ' -> ObjRep HH w (ρ' ++ [a]) h' a o -> HeapRep HH w (ρ' ++ [a]) h' (σ' ++ [o]) := fun R' m n ob =>
    R'.join n (hhn m) (Nat.lt_of_lt_of_le R.big m) ob
  have ev : ∀ {ρ' a}, Evo [] ρ h ρ' h' -> h.objs.size <= a -> Evo [] ρ h (ρ' ++ [a]) h' := fun e m => e.join (Heap.get?_none_of_le m)
  have hl := R.len
  have R5 := join (join (join (join (join (R.keepsAll k) m1 (out m1) (em h1)) m2 (out_snoc (out m2) a12.symm) (em h2)) m3 (out_snoc (out_snoc (out m3) a13.symm) a23.symm) (em h3))
    m4 (out_snoc (out_snoc (out_snoc (out m4) a14.symm) a24.symm) a34.symm) (em h4)) m5 (out_snoc (out_snoc (out_snoc (out_snoc (out m5) a15.symm) a25.symm) a35.symm) a45.symm) (em h5)
  refine ⟨join R5 m6 (out_snoc (out_snoc (out_snoc (out_snoc (out_snoc (out m6) a16) a26) a36) a46) a56) (.attrs hd fun i y dd e1 e2 => ?_), ev (ev (ev (ev (ev (ev (Evo.of_keeps k) m1) m2) m3) m4) m5) m6⟩
  match i, e1, e2 with
  | 0, e1, e2 => cases e1; cases e2; exact ⟨D1, at_snoc (at_snoc (at_snoc (at_snoc (at_snoc (at_last hl))))), g1⟩
  | 1, e1, e2 => cases e1; cases e2; exact ⟨D2, at_snoc (at_snoc (at_snoc (at_snoc (at_last (len_snoc hl))))), g2⟩
  | 2, e1, e2 => cases e1; cases e2; exact ⟨D3, at_snoc (at_snoc (at_snoc (at_last (len_snoc (len_snoc hl))))), g3⟩
  | 3, e1, e2 => cases e1; cases e2; exact ⟨D4, at_snoc (at_snoc (at_last (len_snoc (len_snoc (len_snoc hl))))), g4⟩
  | 4, e1, e2 => cases e1; cases e2; exact ⟨D5, at_snoc (at_last (len_snoc (len_snoc (len_snoc (len_snoc hl))))), g5⟩
  | i + 5, e1, e2 => exact no_some e1
theorem newflow_ok (X : (hd.heap_1 p).In HH) (lim : HH.NoLimit) (CC : CCtx HH A (d + 1) frames ρ s.heap) (R : HeapRep HH w ρ s.heap σ) :
    wpAny (model prog w) A (call (.ref 63) []) (EPost HH w ρ s (σ ++ [.dict [], .dict [], .dict [], .dict [], .dict [], .attrs [σ.length, σ.length + 1, σ.length + 2, σ.length + 3, σ.length + 4]]) (.flow (σ.length + 5))) E s := by
  obtain ⟨hh, g, dr, t, os⟩ := s
  have hdep := CC.depth
  have X0 : (hd.heap_1 p).In hh := fun a o e => R.stays _ _ (X a o e)
  have kp : ∀ a o, hh.get? a = some o -> ((hh.push emptyDict).push (instObj 63 hh.objs.size)).get? a = some o := fun a o e => Heap.get?_push_of_some _ (Heap.get?_push_of_some _ e)
  have X1 : (hd.heap_1 p).In ((hh.push emptyDict).push (instObj 63 hh.objs.size)) := fun a o e => kp a o (X0 a o e)
  refine wpAny_call (make_core (makes_of X0 (by kernel_rfl)) (looks_findIn X0 (show findIn (hd.heap_1 p) (.ref 63) "__init__" = some (some (.ref 60)) by rfl)) (fun self => bind_fn X0 self (by rfl)) (.inl rfl) ?_)
  refine codeAny_call_def (binds := [(("self" : Str), .ref (hh.objs.size + 1))]) (by show A.depth + 1 < 1000; (exact om10 hdep)) (X1 60 _ rfl) rfl ((lim.keeps R.stays).keeps kp) (codeRec_of X1 (by rfl)) rfl (.of_eq rfl) (by decide +kernel) (fun x hx => by rw [List.mem_singleton.mp hx]; rfl) (fun h₁ ns k1 => ?_)
  have F : Fr hh ((hh.push emptyDict).push (instObj 63 hh.objs.size)).objs.size h₁ _ := ⟨ns, fun b o e => k1 b o (kp b o e), by simp [Heap.size_push]; (exact om11)⟩
  have hx : ((hh.push emptyDict).push (instObj 63 hh.objs.size)).get? (hh.objs.size + 1) = some (instObj 63 hh.objs.size) := by heap_get
  have hdx : ((hh.push emptyDict).push (instObj 63 hh.objs.size)).get? hh.objs.size = some emptyDict := by heap_get
  have N : News hh ((hh.push emptyDict).push (instObj 63 hh.objs.size)).objs.size h₁ [(hh.objs.size + 1, instObj 63 hh.objs.size), (hh.objs.size, dictOf [] 0)] := by
    intro q hq
    simp only [List.mem_cons, List.not_mem_nil, or_false] at hq
    rcases hq with rfl | rfl
    · exact ⟨k1 _ _ hx, Nat.ne_of_lt (Heap.lt_size hx), Heap.get?_none_of_le (Nat.le_succ _)⟩
    · exact ⟨k1 _ _ hdx, Nat.ne_of_lt (Heap.lt_size hdx), Heap.get?_none_of_le (Nat.le_refl _)⟩
  have p0 : ∀ q ∈ ([] : List (Addr × Obj)), q.1 ≠ hh.objs.size := fun _ q => nomatch q
  have hxd : hh.objs.size + 1 ≠ hh.objs.size := Nat.succ_ne_self _
  refine wpAny_execs_cons (init_store (w := w) X0 F N hxd p0 rfl rfl rfl rfl (.head _) (Nat.le_of_ble_eq_true rfl) rfl fun D1 h1 t1 m1 d1 F N => ?_)
  have e1 : hh.objs.size ≠ D1 := d1 (hh.objs.size, _) (.tail _ (.head _))
  have p1 : ∀ q ∈ ([(D1, emptyDict)] : List (Addr × Obj)), q.1 ≠ hh.objs.size := List.forall_mem_cons.mpr ⟨Ne.symm e1, p0⟩
  refine wpAny_execs_cons (init_store (w := w) X0 F N hxd p1 rfl rfl rfl rfl (.tail _ (.head _)) (Nat.le_of_ble_eq_true rfl) rfl fun D2 h2 t2 m2 d2 F N => ?_)
  have e2 : hh.objs.size ≠ D2 := d2 (hh.objs.size, _) (.tail _ (.head _))
  have p2 : ∀ q ∈ ([(D2, emptyDict), (D1, emptyDict)] : List (Addr × Obj)), q.1 ≠ hh.objs.size := List.forall_mem_cons.mpr ⟨Ne.symm e2, p1⟩
  refine wpAny_execs_cons (init_store (w := w) X0 F N hxd p2 rfl rfl rfl rfl (.tail _ (.tail _ (.head _))) (Nat.le_of_ble_eq_true rfl) rfl fun D3 h3 t3 m3 d3 F N => ?_)
  have e3 : hh.objs.size ≠ D3 := d3 (hh.objs.size, _) (.tail _ (.head _))
  have p3 : ∀ q ∈ ([(D3, emptyDict), (D2, emptyDict), (D1, emptyDict)] : List (Addr × Obj)), q.1 ≠ hh.objs.size := List.forall_mem_cons.mpr ⟨Ne.symm e3, p2⟩
  refine wpAny_execs_cons (init_store (w := w) X0 F N hxd p3 rfl rfl rfl rfl (.tail _ (.tail _ (.tail _ (.head _)))) (Nat.le_of_ble_eq_true rfl) rfl fun D4 h4 t4 m4 d4 F N => ?_)
  have e4 : hh.objs.size ≠ D4 := d4 (hh.objs.size, _) (.tail _ (.head _))
  have p4 : ∀ q ∈ ([(D4, emptyDict), (D3, emptyDict), (D2, emptyDict), (D1, emptyDict)] : List (Addr × Obj)), q.1 ≠ hh.objs.size := List.forall_mem_cons.mpr ⟨Ne.symm e4, p3⟩
  refine wpAny_execs_cons (init_store (w := w) X0 F N hxd p4 rfl rfl rfl rfl (.tail _ (.tail _ (.tail _ (.tail _ (.head _))))) (Nat.le_of_ble_eq_true rfl) rfl fun D5 h5 t5 m5 d5 F N => ?_)
  have e5 : hh.objs.size ≠ D5 := d5 (hh.objs.size, _) (.tail _ (.head _))
  have d12 : D1 ≠ D2 := d2 (D1, emptyDict) (.tail _ (.tail _ (.head _)))
  have d13 : D1 ≠ D3 := d3 (D1, emptyDict) (.tail _ (.tail _ (.tail _ (.head _))))
  have d14 : D1 ≠ D4 := d4 (D1, emptyDict) (.tail _ (.tail _ (.tail _ (.tail _ (.head _)))))
  have d15 : D1 ≠ D5 := d5 (D1, emptyDict) (.tail _ (.tail _ (.tail _ (.tail _ (.tail _ (.head _))))))
  have d23 : D2 ≠ D3 := d3 (D2, emptyDict) (.tail _ (.tail _ (.head _)))
  have d24 : D2 ≠ D4 := d4 (D2, emptyDict) (.tail _ (.tail _ (.tail _ (.head _))))
  have d25 : D2 ≠ D5 := d5 (D2, emptyDict) (.tail _ (.tail _ (.tail _ (.tail _ (.head _)))))
  have d34 : D3 ≠ D4 := d4 (D3, emptyDict) (.tail _ (.tail _ (.head _)))
  have d35 : D3 ≠ D5 := d5 (D3, emptyDict) (.tail _ (.tail _ (.tail _ (.head _))))
  have d45 : D4 ≠ D5 := d5 (D4, emptyDict) (.tail _ (.tail _ (.head _)))
  refine wpAny_execs_nil ⟨rfl, ?_⟩
  have hl := R.len
  obtain ⟨R', e'⟩ := flow_join (D1 := D1) (D2 := D2) (D3 := D3) (D4 := D4) (D5 := D5) (dx := hh.objs.size) R F.keep (N (hh.objs.size, _) (.tail _ (.head _))).1 (N (D1, emptyDict) (.tail _ (.tail _ (.tail _ (.tail _ (.tail _ (.tail _ (.head _)))))))).1 (N (D2, emptyDict) (.tail _ (.tail _ (.tail _ (.tail _ (.tail _ (.head _))))))).1 (N (D3, emptyDict) (.tail _ (.tail _ (.tail _ (.tail _ (.head _)))))).1 (N (D4, emptyDict) (.tail _ (.tail _ (.tail _ (.head _))))).1 (N (D5, emptyDict) (.tail _ (.tail _ (.head _)))).1
    m1 m2 m3 m4 m5 (Nat.le_refl _) d12 d13 d14 d15 e1 d23 d24 d25 e2 d34 d35 e3 d45 e4 e5 rfl rfl rfl rfl rfl
  refine ⟨_, ⟨⟨_, _, rfl⟩, e', by rw [app6 σ] at R'; exact R'⟩, .flow (d := hh.objs.size) (at_last (len_snoc (len_snoc (len_snoc (len_snoc (len_snoc hl)))))) (N (hh.objs.size + 1, instObj 63 hh.objs.size) (.head _)).1⟩
end
end Mine
end
section
open PySem PySem.W PySem.Calls PyProof.Rows
namespace Mine
theorem ins_perm (x : Int) : ∀ l : List Int, (sortDown.ins x l).Perm (x :: l)
  | [] => .refl _
  | y :: r => by
    unfold sortDown.ins
    split
    · exact ((ins_perm x r).cons y).trans (.swap x y r)
    · exact .refl _
theorem sortDown_perm : ∀ l : List Int, (sortDown l).Perm l
  | [] => .refl _
  | x :: r => by
    unfold sortDown
    exact (ins_perm x _).trans ((sortDown_perm r).cons x)
theorem ins_sorted (x : Int) : ∀ {l : List Int}, l.Pairwise (· >= ·) -> (sortDown.ins x l).Pairwise (· >= ·)
  | [], _ => by simp [sortDown.ins]
  | y :: r, h => by
    unfold sortDown.ins
    refine el02 (List.pairwise_cons.mp h) fun h1 h2 => ?_
    split
    · rename_i hxy
      refine List.pairwise_cons.mpr ⟨fun z hz => ?_, ins_sorted x h2⟩
      rcases List.mem_cons.mp ((ins_perm x r).mem_iff.mp hz) with e | hz
      · subst e; exact Int.le_of_lt hxy
      · exact h1 z hz
    · rename_i hxy
      refine List.pairwise_cons.mpr ⟨fun z hz => ?_, h⟩
      rcases List.mem_cons.mp hz with e | hz
      · subst e; exact Int.not_lt.mp hxy
      · exact Int.le_trans (h1 z hz) (Int.not_lt.mp hxy)
theorem sortDown_sorted : ∀ l : List Int, (sortDown l).Pairwise (· >= ·)
  | [] => .nil
  | x :: r => by
    unfold sortDown
    exact ins_sorted x (sortDown_sorted r)
section
variable {HH : Heap} {w : World} {A : Around} {E : Value -> Shared -> Prop} {s : Shared} {ρ : List Addr} {σ : Sto} {m : Nat} {a : Addr} {es : List (Int × V)}
theorem ints_of_keys {kvs : List (Int × Value)} : ∀ {vs : List Value}, vs.length = kvs.length -> (∀ (j : Nat) (v : Value), vs[j]? = some v -> ∃ k x, kvs[j]? = some (k, x) /\ (intKind prog w).is k v = true) -> IntsAre vs (kvs.map (·.1)) := by
  induction kvs with
  | nil => intro vs h _; induction vs using List.casesOn with | nil => exact .nil | cons => simp at h
  | cons p r ih =>
    intro vs h k
    induction vs using List.casesOn with
    | nil => simp at h
    | cons v vs =>
      refine el22 (k 0 v rfl) fun k0 x e hk => ?_
      cases e
      refine el11 (Value.isInt_shape hk) fun t q52_1 => ?_
      subst q52_1
      exact .cons _ t (ih (by simpa using h) fun j u hu => k (j + 1) u hu)
theorem sortD_ok (hh : A.handled = none) (R : HeapRep HH w ρ s.heap σ) (ha : ρ[m]? = some a) (he : Mine.getD σ m = some es) (hl : es.length < 64) :
    wpAny (model prog w) A (call (.builtin "sorted") [.ref a] [(Str.ofString "reverse", .bool true)]) (EPost HH w ρ s (σ ++ [.list ((sortDown (es.map (·.1))).map .int)]) (.lst σ.length)) E s := by
  refine cpf fun rq => ?_
  refine el25 (R.dict he) fun a' kvs ha' hD hk hr hz => ?_
  (replace ha' := Eq.trans (Eq.symm (ha ..)) (ha')); (replace ha' := Option.some.inj ha'; subst ha')
  have hlen : es.length = kvs.length := by simpa using congrArg List.length hk
  refine el36 (hD) fun o des ep ho hx1 hdd hk1 hp1 hnd => ?_
  have hat : s.heap.DictAt (intKind prog w) a kvs ep := ⟨o, des, ho, hx1, hdd, hk1, hp1, hnd⟩
  refine rq ?_
  refine call_function_entry_kw kind_sorted plain_sorted entry_sorted (args_sorted_rev _ _) ?_
  unfold Builtin.«sorted»
  refine wpAny_bind (m := checkCount "sorted" 1 1 _) (wpAny_pure ?_)
  refine wpAny_bind (kdu_collect (A := A.in1) (kdl_dict (knd := intKind prog w) (kvs := kvs) (ep := ep) (R.notSys (List.mem_of_getElem? ha))) hh hat (by rw [sizeLine_eq]; (exact om7 hl hlen)) fun h' tk acc hkp hacc => ?_)
  have hal : acc.toList.length = kvs.length := by (refine Eq.trans (Array.length_toList ..) ?_); exact hacc.1
  have hI : IntsAre acc.toList (kvs.map (·.1)) := ints_of_keys  (w := w) hal fun j v e => hacc.2 j v (by (refine Eq.trans (Eq.symm (Array.getElem?_toList ..)) ?_); exact e)
  refine wpAny_bind (wpAny_newList ?_ (by rw [hal, sizeLine_eq]; (exact om7 hl hlen)))
  have hoL : (h'.push (seqObj "list" acc.toList.toArray 0)).get? h'.objs.size = some (seqObj "list" acc.toList.toArray 0) := Heap.get?_push_size _ rfl
  show wpAny _ _ _ _ _ { s with heap := h'.push (seqObj "list" acc.toList.toArray 0), toks := tk }
  refine wpAny_bind (wpAny_holding (wpAny_call_entry_kw slot_list_sort ⟨_, hoL, rfl⟩ entry_list_sort (list_sort_tree_rev (s := { s with heap := h'.push (seqObj "list" acc.toList.toArray 0), toks := tk }) hoL hI (by (exact om8 hl hlen hal)) fun out ns' a1 a2 a3 => ⟨_, rfl, ?_⟩) (args_list_sort_rev _ _)))
  refine wpAny_pure ⟨_, rfl, ?_⟩
  refine el11 (sortedHeap_at (vs := acc.toList) (out := out) hoL) fun e hout => ?_
  have hns : ns' = sortDown (es.map (·.1)) := by
    rw [hk]
    exact List.Perm.eq_of_pairwise (le := (· >= ·)) (fun x y _ _ h1 h2 => Int.le_antisymm h2 h1) a3 (sortDown_sorted _) (a2.trans (sortDown_perm _).symm)
  have hold : ∀ b ob, s.heap.get? b = some ob -> (sortedHeap (h'.push (seqObj "list" acc.toList.toArray 0)) h'.objs.size acc.toList out).get? b = some ob := fun b ob q => by
    have q1 := hkp b ob q
    have q2 := Heap.lt_size q1
    (refine Eq.trans (sortedHeap_old (Nat.ne_of_lt q2) (by rw [size_push']; exact Nat.lt_succ_of_lt q2) ..) ?_)
    exact Heap.get?_push_of_some _ q1
  have hnone : s.heap.get? h'.objs.size = none := by
    cases q : s.heap.get? h'.objs.size with
    | none => rfl
    | some ob => exact absurd (Heap.lt_size (hkp _ _ q)) (Nat.lt_irrefl _)
  have hcv : out = out.toList.toArray := by simp
  have hlo : ns'.length = es.length := by rw [hns, (sortDown_perm _).length_eq, List.length_map]
  refine ⟨ρ ++ [h'.objs.size], ⟨⟨_, _, rfl⟩, Evo.snoc hold hnone, R.snoc hold hnone (R.keepsAll hkp).big (.list (cvs := out.toList) (n := e) ?_ ?_ ?_)⟩, .lst (by simp [R.len])⟩
  · exact hout
  · rw [<- hns]; exact ints_map a1
  · rw [List.length_map, <- hns, hlo]; exact hz
end
end Mine
end
section
set_option tactic.hygienic false
open PySem PySem.W PySem.Calls PyProof.Rows
namespace Mine
theorem lk_list_keys : typeLookup (.type "list") "keys" = pure none := by rw [typeLookup_type, builtinLookup_eq_fast]; kernel_rfl
section
variable {w : World} {A : Around} {E : Value -> Shared -> Prop} {h : Heap} {g : Array GenState} {d : Drawn} {t : Nat} {os : OsState} {a : Addr} {xs : Array Value} {k : Nat}
theorem code_meets {s : Shared} {T : String} {name : Str} {id : String} {B : Builtin} {self : Value} {rest : List Value} {S : PySem.Spec} {R : Result -> Shared -> Prop} (slot : Slot T name id) (hT : s.TypeIs self T)
    (entry : entryFor table id = some B) (args : argsOk id ⟨self :: rest, []⟩) (g : Meets (B ⟨self :: rest, []⟩) S) (h : S A R s) :
    codeAny (model prog w) A (.call (.builtin id) ⟨self :: rest, []⟩) R s := codeAny_call_builtin slot.plain entry (slot.check _ _ _ _ _ _ _ _ hT args (g prog w A R s h))
theorem keys_list {Q : Option Value -> Shared -> Prop} (hh : A.handled = none) (hx : h.get? a = some { cls := .type "list", dict := none, data := .seq xs k, slots := #[] })
    (hq : ∀ h' tk, (∀ b o, h.get? b = some o -> h'.get? b = some o) -> Q none ⟨h', g, d, tk, os⟩) :
    wpAny (model prog w) A (getAttr? (.ref a) "keys") Q E ⟨h, g, d, t, os⟩ := by
  have hT : ∀ tk', (⟨h, g, d, tk', os⟩ : Shared).TypeIs (.ref a) "list" := fun _ => ⟨_, hx, rfl⟩
  have f1 := sub_AttributeError
  have f3 := PySem.F.slot_list_getattribute.lookup
  have f4 := PySem.F.slot_list_getattribute.bind (.ref a)
  have f5 := am_list_getattr_none
  unfold getAttr? getAttrBy?
  refine wpAny_bind (wpAny_mkText (wpAny_bind (wpAny_attempt ?_)))
  unfold getAttrBy
  repeat (any_goals (first | assumption | exact hT _ | wp_step))
  refine code_meets (rest := [.str (Str.ofString "keys") t]) PySem.F.slot_list_getattribute (hT _) am_entry_list_getattribute (PySem.F.args_list_getattribute_2 _ _) (meets_getattribute_miss_list a xs k #[] "keys" _ lk_list_keys (by decide +kernel) (by size_fits)) ⟨hx, hh, fun h' tk e hx' => ?_⟩
  refine el21 (hx'.there) fun t' u' he => ?_
  show wpAny _ _ (getattributeRaised _ _ _ _ _ _ _) _ _ _
  unfold getattributeRaised
  repeat (any_goals (first | assumption | wp_step))
  exact hq _ _ hx'.keeps
end
end Mine
end
section
set_option tactic.hygienic false
open PySem PySem.W PySem.Calls PyProof.Rows
namespace Mine
noncomputable section
inductive PairsAt (h : Heap) : List Value -> List (Int × Value) -> Prop
  | nil : PairsAt h [] []
  | cons {t : Addr} {k : Int} {tk : Tok} {y : Value} {r : List Value} {ps : List (Int × Value)} : h.IsTuple t #[.int k tk, y] -> PairsAt h r ps -> PairsAt h (.ref t :: r) ((k, y) :: ps)
theorem PairsAt.move {h h' : Heap} (k : ∀ a o, h.get? a = some o -> o.cls = .type "tuple" -> h'.get? a = some o) {r : List Value} {ps : List (Int × Value)} (x : PairsAt h r ps) : PairsAt h' r ps := by
  induction x with
  | nil => exact .nil
  | cons a _ ih => exact .cons (Exists.elim a fun o q => ⟨o, k _ o q.1 q.2.1, q.2.1, q.2.2⟩) ih
theorem entry_dict_loop : entryFor table "dict.update.loop" = some Builtin.«dict.update.loop» := entryFor_of_tree (by kernel_rfl)
section
variable {w : World} {E : Value -> Shared -> Prop} {it l d : Addr}
theorem upd_loop {Q : Value -> Shared -> Prop} (hil : it ≠ l) (hid : it ≠ d) (hdl : d ≠ l) :
    ∀ {ps : List (Int × Value)} {rest : List Value} {items : Array Value} {j : Nat} {kvs : List (Int × Value)} {A : Around} {s : Shared} {i : Int} {t : Tok}, A.handled = none -> PairsAt s.heap rest ps -> items.toList.drop j = rest ->
      s.heap.IsListIter it l j -> s.heap.IsList l items -> s.heap.DictOf (intKind prog w) d kvs -> kvs.length + ps.length <= 1000000 ->
      (∀ h' tk, h'.DictOf (intKind prog w) d (ps.foldl (fun m p => stored m p.1 p.2) kvs) -> (∀ a o, s.heap.get? a = some o -> a ≠ it -> a ≠ d -> h'.get? a = some o) -> Q .none { s with heap := h', toks := tk }) ->
      codeAny (model prog w) A (.builtin "dict.update.loop" ⟨[.ref d, .ref it, .int i t, .none], []⟩) (wants Q E) s
  | [], rest, items, j, kvs, A, s, i, t, hh, hp, hr, hit, hl, hd, hz, k => by
    cases hp
    refine codeAny_builtin entry_dict_loop ?_
    unfold Builtin.«dict.update.loop»
    refine wpAny_bind ?_
    have hx : items[j]? = none := by
      (refine Eq.trans (Eq.symm (Array.getElem?_toList ..)) ?_)
      exact List.getElem?_eq_none (List.drop_eq_nil_iff.mp hr)
    refine wpAny_pyNext_list_end (A := A.under _) hh hit hl hx fun h' hs => ?_
    show wpAny _ _ (Builtin.Dict.addKeywords d [] >>= _) _ _ _
    refine wpAny_bind (wpAny_pure (wpAny_pure ?_))
    refine el21 (id hd) fun o1 e1 _ => ?_
    exact k h' s.toks (hd.extBut hs (Ne.symm hid)) fun a o e n1 _ => hs a o n1 e
  | (kk, y) :: ps, rest, items, j, kvs, A, s, i, t, hh, hp, hr, hit, hl, hd, hz, k => by
    cases hp with
    | @cons tt _ tk _ r _ htup hp =>
    obtain ⟨hx, hr'⟩ : items[j]? = some (.ref tt) /\ items.toList.drop (j + 1) = r := by
      have hlt : j < items.toList.length := by
        by_cases q : j < items.toList.length
        · exact q
        · (replace hr := Eq.trans (Eq.symm (List.drop_of_length_le (by omega) ..)) (hr)); (exact nil_no hr)
      (replace hr := Eq.trans (Eq.symm (List.drop_eq_getElem_cons hlt ..)) (hr))
      injection hr with h1 h2
      exact ⟨by rw [<- Array.getElem?_toList, List.getElem?_eq_getElem hlt, h1], h2⟩
    refine codeAny_builtin entry_dict_loop ?_
    unfold Builtin.«dict.update.loop»
    refine wpAny_bind ?_
    refine wpAny_pyNext_list_item (A := A.under _) hit hl hx fun h' hit' hs => ?_
    have hti : tt ≠ it := fun q => by
      refine el13 (htup) fun o ho hc _ => ?_
      refine el13 (hit) fun o' ho' hc' _ => ?_
      rw [q, ho'] at ho; (replace ho := Option.some.inj ho; subst ho)
      (replace hc' := Eq.trans (Eq.symm (hc ..)) (hc'))
      injection hc' with hc'
      exact absurd hc' (by decide)
    have htup' : h'.IsTuple tt #[.int kk tk, y] := let ⟨o, ho, q⟩ := htup; ⟨o, (hs.2 tt hti).trans ho, q⟩
    refine wpAny_bind (wpAny_holding ?_)
    have hT : (⟨h', s.gens, s.drawn, s.toks, s.os⟩ : Shared).TypeIs (.ref tt) "tuple" := let ⟨o, ho, hc, _⟩ := htup'; ⟨o, ho, hc⟩
    refine wpAny_bind (wpAny_tryCatch ?_)
    unfold Builtin.Dict.pairItems
    refine wpAny_bind (wpAny_typeOf hT ?_)
    rw [if_pos (by decide)]
    obtain ⟨ot, hot, hct, nt, hdt⟩ := id htup'
    refine wpAny_bind (wpAny_seqItems hot hdt (wpAny_pure ?_))
    show wpAny _ _ (holding _ (dictSet d (.int kk tk) y)) _ _ _
    refine wpAny_holding ?_
    have hd' : Heap.DictOf (intKind prog w) h' d kvs := hd.sameBut hs (Ne.symm hid)
    have hsz : kvs.length <= sizeLine := by rw [sizeLine_eq]; simp only [List.length_cons] at hz; (exact om0 hz)
    refine wpAny_dictSet_pairs (s := ⟨h', s.gens, s.drawn, s.toks, s.os⟩) (intKind_is prog w kk tk) hd' (fun h₂ hd₂ hs₂ => ?_) hsz
    refine wpAny_pure ⟨Code.quiet_builtin _ (by decide +kernel), ?_⟩
    have hdn : tt ≠ d := fun q => by
      refine el34 (hd') fun od ed _ hod hxd hdd _ => ?_
      rw [q, hod] at hot; (replace hot := Option.some.inj hot; subst hot)
      (replace hdd := Eq.trans (Eq.symm (hdt ..)) (hdd)); (exact PySem.Data.noConfusion hdd)
    have hl' : h₂.IsList l items := let ⟨o, ho, q⟩ := hl; ⟨o, (hs₂.2 l (Ne.symm hdl)).trans ((hs.2 l (Ne.symm hil)).trans ho), q⟩
    have hit₂ : h₂.IsListIter it l (j + 1) := let ⟨o, ho, q⟩ := hit'; ⟨o, (hs₂.2 it hid).trans ho, q⟩
    refine el13 (id hit) fun oi hoi hci hdi => ?_
    refine el34 (id hd) fun od ed epd hod hxd hdd _ => ?_
    have hp₂ : PairsAt h₂ r ps := hp.move fun a o e hc => by
      have n1 : a ≠ it := fun q => by
        subst q; (replace e := Eq.trans (Eq.symm (hoi ..)) (e)); (replace e := Option.some.inj e; subst e); rw [hc] at hci
        injection hci with hci
        exact absurd hci (by decide)
      have n2 : a ≠ d := fun q => by
        subst q; (replace e := Eq.trans (Eq.symm (hod ..)) (e)); (replace e := Option.some.inj e; subst e)
        have := hxd.1; (replace this := Eq.trans (Eq.symm (hc ..)) (this))
        injection this with this
        exact absurd this (by decide)
      exact (hs₂.2 a n2).trans ((hs.2 a n1).trans e)
    have hl2 : (stored kvs kk y).length <= kvs.length + 1 := stored_length_le kvs kk y
    refine upd_loop hil hid hdl (s := ⟨h₂, s.gens, s.drawn, s.toks + 1, s.os⟩) hh hp₂ hr' hit₂ hl' hd₂ (by simp only [List.length_cons] at hz; (exact om1 hz hl2)) fun h₃ tk₃ hd₃ hk₃ => ?_
    exact k h₃ tk₃ hd₃ fun a o e n1 n2 => hk₃ a o ((hs₂.2 a n2).trans ((hs.2 a n1).trans e)) n1 n2
end
end
end Mine
end
section
open PySem PySem.W PySem.Calls PyProof.Rows
namespace Mine
section
variable {HH : Heap} {w : World} {A : Around} {E : Value -> Shared -> Prop} {s : Shared} {ρ : List Addr} {σ : Sto} {m : Nat} {a : Addr} {h : Heap}
theorem stored_keys (kvs : List (Int × Value)) (k : Int) (x : Value) (hn : (kvs.map (·.1)).Nodup) : ((stored kvs k x).map (·.1)).Nodup := by
  unfold stored
  split
  · have : (kvs.map fun p => if p.1 = k then (p.1, x) else p).map (·.1) = kvs.map (·.1) := by
      (refine Eq.trans (List.map_map ..) ?_)
      refine List.map_congr_left fun p _ => ?_
      simp only [Function.comp]
      split <;> rfl
    rw [this]; exact hn
  · rename_i hno
    rw [List.map_append, List.nodup_append]
    refine ⟨hn, by simp, fun a ha b hb q => ?_⟩
    simp only [List.map_cons, List.map_nil, List.mem_singleton] at hb
    subst q hb
    refine el12 (List.mem_map.mp ha) fun p hp q21_2 => ?_
    subst q21_2
    exact hno (List.any_eq_true.mpr ⟨p, hp, by simp⟩)
theorem intO_inv {v : V} {k : Int} (e : intO v = some k) : v = .int k := by
  induction v using V.casesOn with
  | int i => exact congrArg V.int (Option.some.inj e)
  | _ => exact no_so e
theorem pairV_inv {v : V} {p : Int × V} (e : pairV v = some p) : ∃ k u, v = .tup [.int k, .int u] /\ p = (k, .int u) := by
  induction v using V.casesOn with
  | tup vs =>
    induction vs using List.casesOn with
    | nil => exact no_so e
    | cons a vs =>
    induction vs using List.casesOn with
    | nil => exact no_so e
    | cons b vs =>
    induction vs using List.casesOn with
    | cons => exact no_so e
    | nil =>
      refine el12 (bind_some e) fun k h1 e => ?_
      refine el12 (map_inv e) fun u h2 q => ?_
      rw [intO_inv h1, intO_inv h2]
      exact ⟨k, u, rfl, q.symm⟩
  | _ => exact no_so e
theorem pairs_rep {vs : List V} {cvs : List Value} {ps : List (Int × V)} (r : RepVs HH ρ h vs cvs) (e : pairsOfV vs = some ps) :
    ∃ qs, PairsAt h cvs qs /\ ps.map (·.1) = qs.map (·.1) /\ RepVs HH ρ h (ps.map (·.2)) (qs.map (·.2)) /\ ps.length = vs.length :=
  r.ind (M := fun vs cvs => ∀ ps, pairsOfV vs = some ps -> ∃ qs, PairsAt h cvs qs /\ ps.map (·.1) = qs.map (·.1) /\ RepVs HH ρ h (ps.map (·.2)) (qs.map (·.2)) /\ ps.length = vs.length)
    (fun _ e => Option.some.inj e ▸ ⟨[], .nil, rfl, .nil, rfl⟩) (fun {v x vs xs} a r ih ps e => by
    refine el12 (bind_some e) fun p h1 e => ?_
    refine el12 (map_inv e) fun ps' h2 q => ?_
    subst q
    refine el22 (pairV_inv h1) fun k u q1 q2 => ?_
    subst q1
    subst q2
    refine el14 (ih _ h2) fun qs p hk hr hl => ?_
    refine el23 (rep_tup a) fun b c q ht hx => ?_
    subst q
    refine el23 hx.cinv fun y1 c1 q1 r1 hx => ?_
    refine el23 hx.cinv fun y2 c2 q2 r2 hx => ?_
    have q3 : c2 = [] := hx.inv
    rw [q1, q2, q3] at ht
    refine el11 (rep_int r1) fun t q => ?_
    subst q
    exact ⟨(k, y2) :: qs, .cons ht p, congrArg (k :: ·) hk, .cons r2 hr, congrArg (· + 1) hl⟩) ps e
theorem fold_rep : ∀ {ps : List (Int × V)} {qs : List (Int × Value)} {es : List (Int × V)} {kvs : List (Int × Value)}, ps.map (·.1) = qs.map (·.1) -> RepVs HH ρ h (ps.map (·.2)) (qs.map (·.2)) ->
    es.map (·.1) = kvs.map (·.1) -> (kvs.map (·.1)).Nodup -> RepVs HH ρ h (es.map (·.2)) (kvs.map (·.2)) ->
    (ps.foldl (fun d p => putI d p.1 p.2) es).map (·.1) = (qs.foldl (fun m p => stored m p.1 p.2) kvs).map (·.1) /\ RepVs HH ρ h ((ps.foldl (fun d p => putI d p.1 p.2) es).map (·.2)) ((qs.foldl (fun m p => stored m p.1 p.2) kvs).map (·.2)) /\
      (ps.foldl (fun d p => putI d p.1 p.2) es).length <= es.length + ps.length
  | [], [], es, kvs, _, _, h1, _, h2 => ⟨h1, h2, Nat.le_refl _⟩
  | [], _ :: _, _, _, h, _, _, _, _ => by cases h
  | _ :: _, [], _, _, h, _, _, _, _ => by cases h
  | (k, v) :: ps, (k', x) :: qs, es, kvs, hk, hr, h1, hn, h2 => by
    simp only [List.map_cons, List.cons.injEq] at hk
    refine cpf fun rq => ?_
    obtain ⟨rfl, hk⟩ := hk
    cases hr with
    | cons r0 hr =>
    obtain ⟨p1, p2⟩ := put_rep r0 k h1 hn h2
    obtain ⟨g1, g2, g3⟩ := fold_rep hk hr p1 (stored_keys kvs k x hn) p2
    refine rq ?_
    refine ⟨g1, g2, Nat.le_trans g3 ?_⟩
    have := putI_length es k v
    simp only [List.length_cons]
    (exact om2 this)
theorem mkdict_ok {vs : List V} {ps : List (Int × V)} (hh : A.handled = none) (R : HeapRep HH w ρ s.heap σ) (ha : ρ[m]? = some a) (hv : Mine.getL σ m = some vs) (hp : pairsOfV vs = some ps) :
    wpAny (model prog w) A (call (.type "dict") [.ref a]) (EPost HH w ρ s (σ ++ [.dict (ps.foldl (fun d p => putI d p.1 p.2) [])]) (.dct σ.length)) E s := by
  refine cpf fun rq => ?_
  refine el34 (R.list hv) fun a' cvs n ha' hL hr hz => ?_
  (replace ha' := Eq.trans (Eq.symm (ha ..)) (ha')); (replace ha' := Option.some.inj ha'; subst ha')
  refine el14 (pairs_rep hr hp) fun qs hpa hk hrq hlq => ?_
  have hql : qs.length = vs.length := by (refine Eq.trans (?_) (hlq ..)); simpa using (congrArg List.length hk).symm
  obtain ⟨hp0, g, dr, t, os⟩ := s
  refine rq ?_
  refine callType_codes (Q₁ := fun obj s₁ => obj = .ref hp0.objs.size /\ s₁ = ⟨hp0.push { cls := .type "dict", data := .dict #[] }, g, dr, t, os⟩) PySem.F.kt_called_dict (PySem.F.kt_typeCall_dict_1 _) PySem.F.entry_dict_init (kt_code_dict_new _ ⟨rfl, rfl⟩) ?_
  rintro obj s₁ ⟨rfl, rfl⟩
  have hnew : (hp0.push { cls := .type "dict", data := .dict #[] }).DictOf (intKind prog w) hp0.objs.size [] := Heap.DictOf.new hp0
  have hL1 : IsL (hp0.push { cls := .type "dict", data := .dict #[] }) a cvs.toArray n := hL.push _
  refine ⟨hnew.typeIs, PySem.F.args_dict_init_2 _ _, ?_⟩
  unfold Builtin.«dict.__init__»
  refine wpAny_bind ?_
  unfold Builtin.Dict.selfAndRest
  refine wpAny_bind (wpAny_notOrdered_dict hnew.typeIs ?_)
  show wpAny _ _ (pure (hp0.objs.size, [Value.ref a])) _ _ _
  refine wpAny_pure ?_
  show wpAny _ _ (Builtin.Dict.updateFrom "dict.__init__" hp0.objs.size (.ref a) [] .none) _ _ _
  unfold Builtin.Dict.updateFrom
  refine wpAny_bind (wpAny_typeOf (T := "list") ⟨_, hL1, rfl⟩ ?_)
  rw [if_pos (by decide)]
  refine wpAny_bind (keys_list hh hL1 fun h2 t2 k2 => ?_)
  simp only [Option.isNone_none, if_true]
  have hL2 : IsL h2 a cvs.toArray n := k2 _ _ hL1
  refine wpAny_bind (wpAny_rule (wpAny_bind (wpAny_pyIter_list (s := ⟨h2, g, dr, t2, os⟩) (items := cvs.toArray) ⟨_, hL2, rfl, n, rfl⟩ ?_)))
  refine wpAny_pure ⟨Code.quiet_builtin _ (by decide +kernel), ?_⟩
  have k3 : ∀ b o, hp0.get? b = some o -> (h2.push { cls := .type "list_iterator", data := .fields #[.ref a, .int 0 0] }).get? b = some o := fun b o e => Heap.get?_push_of_some _ (k2 b o (Heap.get?_push_of_some _ e))
  have hD2 : Heap.DictOf (intKind prog w) h2 hp0.objs.size [] := let ⟨o, es, ep, ho, q⟩ := hnew; ⟨o, es, ep, k2 _ _ ho, q⟩
  have hane : a ≠ hp0.objs.size := Nat.ne_of_lt (Heap.lt_size hL)
  have hia : h2.objs.size ≠ a := Ne.symm (Nat.ne_of_lt (Heap.lt_size hL2))
  have hid : h2.objs.size ≠ hp0.objs.size := by
    refine el32 (hD2) fun o es ep ho q => ?_
    exact Ne.symm (Nat.ne_of_lt (Heap.lt_size ho))
  refine upd_loop (s := ⟨h2.push { cls := .type "list_iterator", data := .fields #[.ref a, .int 0 0] }, g, dr, t2, os⟩) (l := a) (j := 0) (items := cvs.toArray) (kvs := []) hia hid (Ne.symm hane) hh (hpa.move fun b o e _ => k3 b o e) (by simp)
    ⟨_, Heap.get?_push_size _ rfl, rfl, rfl⟩ ⟨_, hL2.push _, rfl, n, rfl⟩ (hD2.push _) (by simp only [List.length_nil]; (exact om3 hql hz)) fun h4 t4 hD4 k4 => ⟨rfl, ?_⟩
  have hnone : hp0.get? hp0.objs.size = none := get_size _
  have hold : ∀ b o, hp0.get? b = some o -> h4.get? b = some o := fun b o e => by
    refine k4 b o (k3 b o e) (fun q => ?_) fun q => ?_
    · have := Heap.lt_size (k2 b o (Heap.get?_push_of_some _ e))
      rw [q] at this
      exact Nat.lt_irrefl _ this
    · rw [q, hnone] at e; (exact no_so e)
  refine el03 (fold_rep (es := []) (kvs := []) hk (RepVs.mono' (List.prefix_refl _) (fun b o e _ => hold b o e) hrq) rfl List.nodup_nil .nil) fun f1 f2 f3 => ?_
  have hfix : ∀ b o, hp0.get? b = some o -> Fix o -> h4.get? b = some o := fun b o e _ => hold b o e
  refine ⟨ρ ++ [hp0.objs.size], ⟨⟨_, _, rfl⟩, Evo.snoc hold hnone, R.snoc hold hnone R.big (.dict hD4 f1 (RepVs.mono' (List.prefix_append _ _) (fun _ _ e _ => e) f2) ?_)⟩, .dct (by simp [<- R.len])⟩
  simp only [List.length_nil, Nat.zero_add] at f3
  (exact om4 hlq hz f3)
end
end Mine
end
section
set_option tactic.hygienic false
open PySem PySem.W PySem.Calls PyProof.Rows
namespace Mine
section
variable {HH : Heap} {p : Params} {w : World} {q : Program} {loose : List Str} {mg mb : Str -> Option Value}
theorem gl_ok (X : (hd.heap_1 p).In HH) (T : TopRead q loose mg mb HH) : Gl w HH fad mg mb where
  g := T.g
  b := T.b
  lim := T.nolimit
  fn := fn_names X T.g
  fobj := fn_objs X
  flow := mg_of X T.g (by rfl)
  fcls := fcls_ok X
  len := builtin_of X T (by rfl) Boot.len (by decide)
  range := builtin_of X T (by rfl) Boot.range (by decide)
  dict := builtin_of X T (by rfl) Boot.dict (by decide)
  list := builtin_of X T (by rfl) Boot.list (by decide)
  sorted := builtin_of X T (by rfl) Boot.sorted (by decide)
  reversed := builtin_of X T (by rfl) Boot.reversed (by decide)
  attr := attr_rule X
  mkdict := fun hh _ R ha hv hp => mkdict_ok hh R ha hv hp
  sortD := fun hh _ R ha he hl => sortD_ok hh R ha he hl
  newflow := fun CC R => newflow_ok X T.nolimit CC R
end
end Mine
end
section
set_option tactic.hygienic false
open PySem PySem.W PySem.Calls PyProof.Rows
namespace Mine
noncomputable section
noncomputable abbrev excObj (dd : Option Addr) (t : Addr) : Obj := { cls := .ref 44, dict := dd, data := .fields #[.ref t, .none, .none, .none, .bool false, .none], slots := #[] }
theorem refuse_exc (self : Value) : refuseLoop self "__setattr__" [.ref 44, .ref 31, .type "Exception", .type "BaseException", .type "object"] = pure () := by
  (refine Eq.trans (refuseLoop_ref ..) (Eq.trans (refuseLoop_ref ..) ?_))
  kernel_rfl
section
variable {p : Params} {w : World} {A : Around} {E : Value -> Shared -> Prop} {s : Shared} {e t : Addr}
theorem set_text {v : Value} {Q : Unit -> Shared -> Prop} (X : (hd.heap_1 p).In s.heap) (he : s.heap.get? e = some (excObj none t))
    (k : ∀ h' tk dx, h'.get? e = some (excObj (some dx) t) -> (∀ a o, s.heap.get? a = some o -> a ≠ e -> h'.get? a = some o) -> Q () { s with heap := h', toks := tk }) :
    wpAny (model prog w) A (setAttr (.ref e) "text" v) Q E s := by
  obtain ⟨hh, g, d, tk, os⟩ := s
  have I : InstAt hh e (excObj none t) 44 none := ⟨he, rfl, rfl, trivial⟩
  refine set_plain (K := hd.heap_1 p) (s := ⟨hh, g, d, tk, os⟩) X I (by kernel_rfl) ?_
  have X : (hd.heap_1 p).In hh := X
  have L0 := I.type (M := model prog w)
  have L1 := looks_findIn (M := model prog w) (K := hd.heap_1 p) (t := .ref 44) (name := "text") (r := none) X (by kernel_rfl)
  have SF := PySem.F.store_object
  have sub : Looks (model prog w) hh (isInstance (.ref e) (.type "object")) true := I.type.andThen (looks_mroIn (K := hd.heap_1 p) X (by kernel_rfl))
  refine codeAny_call_builtin SF.slot.plain SF.entry (@check_slot (model prog w) _ _ ⟨hh, g, d, tk + 1, os⟩ "object.__setattr__" "object" "__setattr__" (.ref e) [.str "text" tk, v] [] _ SF.kind SF.split sub (SF.args (.ref e) (.str "text" tk) v) ?_)
  refine cpf fun rq => ?_
  obtain ⟨cd, hc⟩ : ∃ cd, clsIn (hd.heap_1 p) 44 = some cd /\ cd.mro = [.ref 44, .ref 31, .type "Exception", .type "BaseException", .type "object"] /\ cd.hasDict = true := ⟨_, rfl, rfl, rfl⟩
  refine el03 (hc) fun hc hmro hdict => ?_
  have hm : Looks (model prog w) hh (mroOf (.ref 44)) cd.mro := (looks_clsIn X hc).andThen .now
  refine rq ?_
  rw [osa_eq, refuse_eq]
  refine wpAny_bind (wpAny_bind (L0.at (wpAny_bind (hm.at ?_))))
  rw [hmro, refuse_exc]
  refine wpAny_pure (wpAny_bind (L0.at (wpAny_bind (L1.at (wpAny_bind (wpAny_pure ?_))))))
  show wpAny _ _ (Builtin.ObjectAttr.storeInOwnDict (.ref e) (.ref 44) (.str "text" tk) "text" v false) _ _ _
  refine wpAny_bind (wpAny_pure ?_)
  refine wpAny_bind ?_
  show wpAny _ _ (instanceDict e true) _ _ _
  unfold instanceDict
  refine wpAny_bind (wpAny_loadPart he ?_)
  refine wpAny_bind ((looks_clsIn X hc).at ?_)
  rw [hdict]
  show wpAny _ _ (alloc emptyDict >>= fun d => (update e fun o => { o with dict := some d }) >>= fun _ => pure (some d)) _ _ _
  refine wpAny_bind (wpAny_alloc ?_)
  have he1 : (hh.push emptyDict).get? e = some (excObj none t) := Heap.get?_push_of_some _ he
  have hD1 : (hh.push emptyDict).get? hh.objs.size = some emptyDict := Heap.get?_push_size _ rfl
  have hne : e ≠ hh.objs.size := Nat.ne_of_lt (Heap.lt_size he)
  refine wpAny_bind (wpAny_update he1 ?_)
  refine wpAny_pure ?_
  show wpAny _ _ (Builtin.ObjectAttr.storeInDict hh.objs.size (.str "text" tk) "text" v) _ _ _
  refine wpAny_bind (wpAny_pure ?_)
  have hn : ((hh.push emptyDict).update e fun o => { o with dict := some hh.objs.size }).Ns hh.objs.size (fun _ => none) := by
    refine (Heap.Ns.new hh (.type "dict")).at' fun o q => ?_
    (refine Eq.trans (Heap.get?_update_other _ _ hne ..) ?_)
    exact q
  refine wpAny_bind (wpAny_nsSet1 (Heap.Ns1.of_empty hn) fun h' hn' hs => ?_)
  refine el33 (hn'.count (Within.cons "text" v Within.nil)) fun oD esD epD hoD hdD hcD => ?_
  refine wpAny_bind (wpAny_lookBehind hoD (by rw [hdD]; exact pastItsLine_dict (Nat.le_trans hcD (by rw [List.length_cons, List.length_nil, sizeLine_eq]; (decide)))) ?_)
  refine wpAny_pure ?_
  refine k h' _ hh.objs.size ?_ fun b o hb hne' => ?_
  · (refine Eq.trans (hs.2 e hne ..) ?_)
    exact Heap.get?_update_self _ he1 rfl
  · (refine Eq.trans (hs.2 b (Nat.ne_of_lt (Heap.lt_size hb)) ..) (Eq.trans (Heap.get?_update_other _ _ (Ne.symm hne') ..) ?_))
    exact Heap.get?_push_of_some _ hb
end
end
end Mine
end
section
set_option tactic.hygienic false
open PySem PySem.W PySem.Calls PyProof.Rows
namespace Mine
noncomputable section
noncomputable abbrev bm44 : List Value := [.ref 31, .type "Exception", .type "BaseException", .type "object"]
noncomputable abbrev cls44 : Obj := excClassObj "CheckFault" "CheckFault" 44 43 [.ref 31] bm44 true [] [] false none none (some (.ref 35)) none (some (.str "CheckFault" 218)) (some (.str "CheckFault" 226)) (some (.bool true)) "Exception.__new__"
theorem hC44 {h : Heap} {p : Params} (X : (hd.heap_1 p).In h) : h.get? 44 = some cls44 := X 44 _ rfl
section
variable {M : Model} {A : Around} {E : Value -> Shared -> Prop} {h : Heap} {g : Array GenState} {d : Drawn} {t : Nat} {os : OsState}
theorem has44 {T : String} (hT : ([.type "Exception", .type "BaseException", .type "object"] : List Value).contains (.type T) = true) : (Value.ref 44 :: bm44).contains (.type T) = true := by
  rw [List.contains_cons, List.contains_cons, hT]; rfl
theorem hasNot44 {T : String} (hT : ([.type "Exception", .type "BaseException", .type "object"] : List Value).contains (.type T) = false) : (Value.ref 44 :: bm44).contains (.type T) = false := by
  rw [List.contains_cons, List.contains_cons, hT]; rfl
theorem check_init44 {e : Addr} {oe : Obj} {rest : List Value} {Q : Unit -> Shared -> Prop} (hC : h.get? 44 = some cls44) (he : h.get? e = some oe) (hcls : oe.cls = .ref 44) (hq : Q () ⟨h, g, d, t, os⟩) :
    wpAny M A (checkBuiltinCall "Exception.__init__" ⟨.ref e :: rest, []⟩) Q E ⟨h, g, d, t, os⟩ := by
  have F := PySem.F.excBase_Exception
  have hcB := has44 F.hasB
  have hshort := F.noStar
  simp only [checkBuiltinCall, F.initKind, F.initSplit, F.initRow]
  repeat (first | (with_reducible refine wpAny_loadPart_at he ?_; rw [hcls]) | with_reducible refine wpAny_loadPart_at hC ?_ | (with_reducible refine wpAny_isSubtype_exc hC ?_; rw [hcB]) | wp_step)
  refine wpAny_onRaise ?_
  rw [show ∀ (a b : String) (n : Nat), Bind.check ⟨.positional, "*", "Exception", .self, [⟨"args", .varPos, false⟩]⟩ a b n (List.map (fun x => x.fst) ({ pos := Value.ref e :: rest } : Args).kw) = pure () from
    fun a b n => check_star_args _ _ _ _ _ _]
  exact wpAny_pure hq
theorem check_new44 {rest : List Value} {Q : Unit -> Shared -> Prop} (hC : h.get? 44 = some cls44) (hq : Q () ⟨h, g, d, t, os⟩) : wpAny M A (checkBuiltinCall "Exception.__new__" ⟨.ref 44 :: rest, []⟩) Q E ⟨h, g, d, t, os⟩ := by
  have F := PySem.F.excBase_Exception
  have hcont := has44 F.hasB
  have hstar := F.noStar
  simp only [checkBuiltinCall, F.newKind, F.newSplit, F.newRow]
  repeat (first | refine wpAny_loadPart_at hC ?_ | (refine wpAny_isSubtype_exc hC ?_; rw [hcont]) | refine wpAny_staticBase_exc hC ?_ | refine wpAny_madeBy_exc hC ?_ | simp only [bne_self_eq_false, Bool.false_eq_true, if_false] | wp_step)
  exact hq
end
section
variable {w : World} {A : Around} {R : Result -> Shared -> Prop} {E : Value -> Shared -> Prop} {h : Heap} {g : Array GenState} {d : Drawn} {t : Nat} {os : OsState}
theorem code_new44 {rest : List Value} (hC : h.get? 44 = some cls44)
    (hq : R (.ok (.ret (.ref (h.objs.size + 1)))) ⟨(h.push { cls := .type "tuple", data := .seq rest.toArray }).push
      { cls := .ref 44, data := .fields #[.ref h.objs.size, .none, .none, .none, .bool false, .none] }, g, d, t, os⟩) (hrest : rest.length <= sizeLine) :
    codeAny (model prog w) A (.builtin "Exception.__new__" ⟨.ref 44 :: rest, []⟩) R ⟨h, g, d, t, os⟩ := by
  have F := PySem.F.excBase_Exception
  have hends := F.ends
  have hcB := has44 F.hasB
  have hcA := hasNot44 F.noAttr
  have hcN := hasNot44 F.noName
  refine codeAny_builtinAt F.entry ?_
  unfold Builtin.«BaseException.__new__»
  refine PySem.wpAt_bind ?_
  show PySem.wpAt _ _ _ (stack >>= _) _ _ _
  refine PySem.wpAt_bind (PySem.wpAt_stack fun p below => PySem.wpAt_of_wpAny ?_)
  wp_walk
  refine PySem.wpAt_of_wpAny ?_
  rw [F.owner]
  repeat (first | with_reducible refine wpAny_madeHere_exc F.canon hC ?_ | with_reducible refine wpAny_loadPart_at hC ?_ | (with_reducible refine wpAny_isSubtype_exc hC ?_; first | rw [hcB] | rw [hcA] | rw [hcN]) | wp_step)
  show R _ _
  rw [Heap.size_push]
  exact hq
theorem base_init {e tt : Addr} {x : Value} {Q : Value -> Shared -> Prop} (hC : h.get? 44 = some cls44) (he : h.get? e = some (excObj none tt))
    (hq : ∀ h' t', h'.get? e = some (excObj none t') -> (∀ a o, h.get? a = some o -> a ≠ e -> h'.get? a = some o) -> Q .none ⟨h', g, d, t, os⟩) :
    wpAny (model prog w) A (call (.builtin "Exception.__init__") [.ref e, x]) Q E ⟨h, g, d, t, os⟩ := by
  have F := PySem.F.excBase_Exception
  refine wpAny_call (codeAny_call_builtin F.init.plain F.initEntry (check_init44 hC he rfl ?_))
  wp_walk
  refine hq _ h.objs.size ?_ fun a o ha hne => ?_
  · (refine Eq.trans (Heap.get?_update_self _ (Heap.get?_push_of_some _ he) rfl ..) ?_)
    rfl
  · (refine Eq.trans (Heap.get?_update_other _ _ (Ne.symm hne) ..) ?_)
    exact Heap.get?_push_of_some _ ha
end
end
end Mine
end
section
set_option tactic.hygienic false
open PySem PySem.W PySem.Calls PyProof.Rows
namespace Mine
theorem typeOf_Exception : typeOf (.type "Exception") = pure (.type "type") := by kernel_rfl
theorem opaque_type : opaqueClassAbove (.type "Exception") = pure none := by kernel_rfl
section
variable {p : Params} {w : World} {A : Around} {E : Value -> Shared -> Prop} {s : Shared} {e t : Addr}
theorem exc_method {pl : Sem Bool} {Q : Value × List Value -> Shared -> Prop} (X : (hd.heap_1 p).In s.heap) (k : ∀ tk, Q (.builtin "Exception.__init__", []) { s with toks := tk }) :
    wpAny (model prog w) A (getMethod (.type "Exception") "__init__" pl) Q E s := by
  have ht : ∀ h, Looks (model prog w) h (typeOf (.type "Exception")) (.type "type") := fun _ => Looks.of_pure typeOf_Exception
  unfold getMethod
  refine wpAny_bind (((ht s.heap).andThen (Looks.of_pure KF.slot_tga.lookup)).here ?_)
  dsimp only
  rw [if_pos canon_tga]
  refine wpAny_bind ?_
  refine cls_open (K := hd.heap_1 p) (mc := .type "type") (hook := none) (r := .val (.builtin "Exception.__init__")) X (Looks.of_pure (opaque_type)) (ht _) (by kernel_rfl) (looks_hook X (by rfl)) (by kernel_rfl) (by kernel_rfl) ?_
  refine wpAny_pure ?_
  show wpAny _ _ (handedOut (.builtin "Exception.__init__")) _ _ _
  rw [handedOut_of (by kernel_rfl)]
  exact wpAny_pure (wpAny_pure (k _))
end
end Mine
end
section
set_option tactic.hygienic false
open PySem PySem.W PySem.Calls PyProof.Rows
namespace Mine
section
variable {HH : Heap} {p : Params} {w : World} {A : Around} {E : Value -> Shared -> Prop} {s : Shared} {e t : Addr} {q : Program} {loose : List Str} {mg mb : Str -> Option Value}
theorem init_call {x : Value} {Q : Value -> Shared -> Prop} (X : (hd.heap_1 p).In HH) (T : TopRead q loose mg mb HH) (hS : HH.StaysIn s.heap) (hdep : A.depth <= 900) (heH : HH.get? e = none) (he : s.heap.get? e = some (excObj none t))
    (k : ∀ h' tk dx t', h'.get? e = some (excObj (some dx) t') -> (∀ a o, s.heap.get? a = some o -> a ≠ e -> h'.get? a = some o) -> Q .none { s with heap := h', toks := tk }) :
    wpAny (model prog w) A (call (.ref 28) [.ref e, x]) Q E s := by
  obtain ⟨hh, g, dr, tk, os⟩ := s
  have X0 : (hd.heap_1 p).In hh := fun a o q => hS _ _ (X a o q)
  refine wpAny_call ?_
  refine codeAny_call_def (binds := [(("self" : Str), .ref e), (("text" : Str), x)]) (by show A.depth < 1000; (exact om5 hdep)) (X0 28 _ rfl) rfl (T.nolimit.keeps hS) (codeRec_of X0 (by rfl)) rfl (.of_eq rfl) (by decide +kernel)
    (fun y hy => by simp only [List.mem_cons, List.not_mem_nil, or_false] at hy; rcases hy with rfl | rfl <;> rfl) (fun h₁ ns k1 => ?_)
  have X1 : (hd.heap_1 p).In h₁ := fun a o q => k1 _ _ (X0 a o q)
  have he1 : h₁.get? e = some (excObj none t) := k1 _ _ he
  have hLne : hh.objs.size ≠ e := Ne.symm (Nat.ne_of_lt (Heap.lt_size he))
  refine wpAny_execs_cons (wpAny_Expr_any ?_ rfl rfl)
  refine MethodCall_ (pl := do return (<- importBound _ _).getD true) ?_ (meth_eq (by rfl) (by rfl) (by rfl) (by simp))
  have hex := builtin_of (x := "Exception") (v := .type "Exception") X T (by rfl) Boot.Exception (by decide)
  refine Name_function_global (by rfl) (by rfl) (loadGlobal_builtin (mg := mg) (mb := mb) (ns_of T.g fun a o q => k1 _ _ (hS a o q)) hex.1 (ns_of T.b fun a o q => k1 _ _ (hS a o q)) hex.2 ?_) (by decide)
  refine exc_method X1 fun tk1 => ?_
  refine Calls.callWith_builtin (by rfl) (Calls.evalArgs_plain ?_)
  refine wpAny_items_cons (e := .Name "self" _) (rest := [.Name "text" _]) ?_
  refine wpAny_Name (wpAny_loadName_local (by rfl) (by rfl) ns (by rfl) ?_)
  refine wpAny_items_cons (e := .Name "text" _) (rest := []) ?_
  refine wpAny_Name (wpAny_loadName_local (by rfl) (by rfl) ns (by rfl) ?_)
  refine wpAny_items_nil ?_
  refine base_init (hC44 X1) he1 fun h2 t2 he2 k2 => ?_
  have ns2 := ns.at' fun o q => k2 _ o q hLne
  have X2 : (hd.heap_1 p).In h2 := fun a o q => k2 a o (X1 a o q) fun z => by
    have := X a o q
    rw [z, heH] at this
    cases this
  refine wpAny_execs_cons (plainObj_wpAny_Assign_Attribute ?_ (by rfl))
  refine wpAny_Name (wpAny_loadName_local (by rfl) (by rfl) ns2 (by rfl) ?_)
  refine wpAny_Name (wpAny_loadName_local (by rfl) (by rfl) ns2 (by rfl) ?_)
  refine set_text X2 he2 fun h3 t3 dx he3 k3 => ?_
  refine wpAny_execs_nil ?_
  exact k h3 t3 dx t2 he3 fun a o q hne => k3 a o (k2 a o (k1 a o q) hne) hne
end
end Mine
end
section
set_option tactic.hygienic false
open PySem PySem.W PySem.Calls PyProof.Rows
namespace Mine
section
variable {HH : Heap} {p : Params} {w : World} {A : Around} {E : Value -> Shared -> Prop} {h : Heap} {g : Array GenState} {d : Drawn} {t : Nat} {os : OsState}
theorem type_call44 {rest : List Value} {Q : PySem.Fin -> Shared -> Prop} (X : (hd.heap_1 p).In h) (hrest : rest.length <= sizeLine)
    (hq : ∀ h' e, Heap.MadeExcOf h h' e (.ref 44) rest ->
      wpAny (model prog w) A (call (.ref 28) (.ref e :: rest)) (fun r s' => r = .none /\ Q (.done (.ret (.ref e))) s') E ⟨h', g, d, t, os⟩) :
    wpAny (model prog w) A (Builtin.«type.__call__» ⟨.ref 44 :: rest, []⟩) Q E ⟨h, g, d, t, os⟩ := by
  have F := PySem.F.excBase_Exception
  have hC := hC44 X
  repeat (first | with_reducible refine wpAny_loadPart_at hC ?_ | with_reducible refine wpAny_madeBy_exc hC ?_ | wp_step)
  refine codeAny_call_builtin_code (Code.quiet_builtin _ F.quiet) (check_new44 hC ?_)
  refine code_new44 hC ?_ hrest
  show wpAny _ _ _ _ _ _
  have X₁ : (hd.heap_1 p).In ((h.push { cls := .type "tuple", data := .seq rest.toArray }).push { cls := .ref 44, data := .fields #[.ref h.objs.size, .none, .none, .none, .bool false, .none] }) :=
    fun a o q => Heap.get?_push_of_some _ (Heap.get?_push_of_some _ (X a o q))
  have hC₁ := hC44 X₁
  have hget : ((h.push { cls := .type "tuple", data := .seq rest.toArray }).push
      { cls := .ref 44, data := .fields #[.ref h.objs.size, .none, .none, .none, .bool false, .none] }).get? (h.objs.size + 1) = some
      { cls := .ref 44, data := .fields #[.ref h.objs.size, .none, .none, .none, .bool false, .none] } := by heap_get
  have hcC : (Value.ref 44 :: bm44).contains (.ref 44) = true := by simp
  unfold isInstance
  repeat (first | with_reducible refine wpAny_loadPart_at hget ?_ | (with_reducible refine wpAny_isSubtype_exc hC₁ ?_; rw [hcC]) | wp_step)
  show wpAny _ _ (typeLookup (.ref 44) _) _ _ _
  refine (looks_findIn X₁ (show findIn (hd.heap_1 p) (.ref 44) "__init__" = some (some (.ref 28)) by rfl)).at ?_
  refine wpAny_holding (wpAny_bind ?_)
  refine (bind_fn X₁ _ (by rfl)).at ?_
  refine wpAny_bind (wpAny_mono (hq _ (h.objs.size + 1) ⟨fun b o hb => Heap.get?_push_of_some _ (Heap.get?_push_of_some _ hb), Heap.get?_none_of_le (Nat.le_succ _), h.objs.size, hget, Heap.get?_none_of_le (Nat.le_refl _), ?_⟩) (fun r s' hr => ?_) fun _ _ q => q)
  · exact Heap.get?_push_of_some _ (Heap.get?_push_at rfl rfl)
  · refine el02 (hr) fun q33_0 hQ => ?_
    subst q33_0
    wp_walk
    exact hQ
theorem call44 {rest : List Value} {Q : Value -> Shared -> Prop} (X : (hd.heap_1 p).In h) (hrest : rest.length <= sizeLine)
    (hq : ∀ h' e, Heap.MadeExcOf h h' e (.ref 44) rest ->
      wpAny (model prog w) (A.under (.builtin "type.__call__" ⟨.ref 44 :: rest, []⟩)) (call (.ref 28) (.ref e :: rest)) (fun r s' => r = .none /\ Q (.ref e) s') E ⟨h', g, d, t, os⟩) :
    wpAny (model prog w) A (call (.ref 44) rest) Q E ⟨h, g, d, t, os⟩ := by
  have hC := hC44 X
  have f1 := tc_lookup
  have f2 := tc_bind (.ref 44)
  have hT : (⟨h, g, d, t, os⟩ : Shared).TypeIs (.ref 44) "type" := ⟨_, hC, rfl⟩
  refine wpAny_call (codeAny_of_tree ?_)
  show wpAny _ _ (callAny (.ref 44) _) _ _ _
  repeat (any_goals (first | assumption | with_reducible refine wpAny_loadPart_at hC ?_ | wp_step))
  refine ⟨rfl, ?_⟩
  refine codeAny_call_builtin_at (Code.quiet_builtin _ (by decide +kernel)) entry_typeCall (wpAny_check_type_call_sub hC (type_call44 X hrest fun h' e hm => ?_))
  exact hq h' e hm
theorem raise44 {env : Env} {s : Shared} {x : Sem Value} {Q : Flow -> Shared -> Prop} (hh : A.handled = none)
    (hx : wpAny (model prog w) A x (fun v s₁ => ∃ e tt dx, v = .ref e /\ (hd.heap_1 p).In s₁.heap /\ s₁.heap.get? e = some (excObj (some dx) tt) /\ E (.ref e) s₁) E s) :
    wpAny (model prog w) A (raiseStmt env (some x) none) Q E s := by
  have hcB : (Value.ref 44 :: bm44).contains (.type "BaseException") = true := has44 PySem.F.excBase_Exception.hasBase
  unfold raiseStmt
  refine wpAny_bind (wpAny_mono hx (fun v s₁ h₁ => ?_) fun _ _ x => x)
  refine el34 (h₁) fun e tt dx q58_3 X he hE => ?_
  subst q58_3
  obtain ⟨hp, g, d, tk, os⟩ := s₁
  have hC := hC44 X
  repeat (first | with_reducible refine wpAny_loadPart_at he ?_ | with_reducible refine wpAny_loadPart_at hC ?_ | (with_reducible refine wpAny_isSubtype_exc hC ?_; rw [hcB]) | wp_step)
  exact wpAny_raiseNew_none hh hE
end
end Mine
end
section
set_option tactic.hygienic false
open PySem PySem.W PySem.Calls PyProof.Rows
namespace Mine
section
variable {HH : Heap} {p : Params} {w : World} {q : Program} {loose : List Str} {mg mb : Str -> Option Value}
theorem raise_ok (X : (hd.heap_1 p).In HH) (T : TopRead q loose mg mb HH) : RaiseOk HH w := by
  intro A d env outer ρ ls σ s msg k np qq cp pos S F R hl
  have Y := S.ectx F
  have stays : HH.StaysIn s.heap := R.stays
  have X0 : (hd.heap_1 p).In s.heap := fun a o e => stays _ _ (X a o e)
  rw [arm_exec_Raise]
  refine wpAny_bind (wpAny_standAt ?_)
  refine raise44 (p := p) S.handled ?_
  refine wpAny_bind (wpAny_mono (Q := fun v s₁ => ∃ e tt dx, v = .ref e /\ (hd.heap_1 p).In s₁.heap /\ s₁.heap.get? e = some (excObj (some dx) tt) /\ SExc HH env outer ρ s .exc (.ref e) s₁) ?_ (fun v s₃ h₃ => wpAny_bind (wpAny_standAt (wpAny_pure h₃))) fun _ _ x => x)
  refine Call_ (Name_function_global S.kind hl (loadGlobal_global (mg := mg) (v := .ref 44) (by rw [S.globals]; exact ns_of T.g stays) (mg_of X T.g (by rfl)) ?_) (by decide))
  refine callWith_of (P := fun h => (hd.heap_1 p).In h) rfl (fun h hh => keeps_K (K := hd.heap_1 p) (f := .ref 44) (by kernel_rfl) h hh) ?_
  refine evalArgs_plain ?_
  refine wpAny_items_cons (e := .Constant (.str msg) k qq) (rest := []) (wpAny_Constant_str (wpAny_items_nil ⟨X0, ?_⟩))
  obtain ⟨hh, g, dr, tk, os⟩ := s
  refine call44 (p := p) X0 (by rw [sizeLine_eq]; simp) fun h' e hm => ?_
  obtain ⟨hk, hn, tt, he, htn, _⟩ := hm
  have heH : HH.get? e = none := by
    cases z : HH.get? e with
    | none => rfl
    | some o => have := stays _ _ z; (replace this := Eq.trans (Eq.symm (hn ..)) (this)); cases this
  have hS : HH.StaysIn h' := fun a o z => hk _ _ (stays _ _ z)
  refine init_call (HH := HH) (p := p) X T hS ?_ heH he fun h3 t3 dx t' he3 k3 => ⟨rfl, ?_⟩
  · have := S.depth
    show A.depth + 1 <= 900
    (exact om6 this)
  · have hold : ∀ a o, hh.get? a = some o -> h3.get? a = some o := fun a o z => k3 a o (hk _ _ z) fun z' => by rw [z', hn] at z; cases z
    refine ⟨e, t', dx, rfl, fun a o z => hold _ _ (X0 a o z), he3, e, rfl, ⟨_, _, rfl⟩, .first he3 rfl rfl rfl rfl heH (fun a o z => hold _ _ (stays _ _ z)) (funFrames_keep Y.ff fun b _ o z => hold b o z), fun a o z _ _ _ => ⟨o.slots, hold a o z⟩⟩
end
end Mine
end
section
set_option tactic.hygienic false
open PySem PySem.W PySem.Calls PyProof.Rows
namespace Mine
section
variable {HH : Heap} {p : Params} {w : World} {q : Program} {loose : List Str} {mg mb : Str -> Option Value} {A : Around} {env : Env} {outer : List Env} {h h' : Heap} {E : Value -> Shared -> Prop} {s : Shared} {d : Nat}
theorem NameVal.up {x : Str} {v : Value} (n : NameVal env h x v) (u : h.UpToSlots h') : NameVal env h' x v := by
  refine cpf fun rq => ?_
  rcases n with ⟨hk, m, hn, hv⟩ | ⟨hk, c, hc, o, ho, hd⟩
  · refine rq ?_
    exact .inl ⟨hk, m, u.ns hn, hv⟩
  · refine el11 (u c o ho (fun vs q => by (replace q := Eq.trans (Eq.symm (hd ..)) (q)); cases q)) fun sl h1 => ?_
    refine rq ?_
    exact .inr ⟨hk, c, hc, _, h1, hd⟩
theorem catch44 {e : Addr} {a0 : Value} {y : Str} {b : Bool} {np yp up rp hp : Pos} {Q : Flow -> Shared -> Prop} (X : (hd.heap_1 p).In HH) (T : TopRead q loose mg mb HH) (S : SCtx HH A d env outer)
    (fl : Heap.FlyingW HH (env :: outer) e (.ref 44) a0 s.heap) (hl : env.scope.names.lookup ("CheckFault" : Str) = some NameKind.globalImplicit) (nv : NameVal env s.heap y (.bool b)) (hy : (y == ("__debug__" : Str)) = false)
    (k : ∀ h', HH.StaysIn h' -> Q (.ret (.bool !b)) { s with heap := h' }) :
    wpAny (model prog w) A (noteFrame (.ref e) env) (fun _ s₂ => wpAny (model prog w) A (setFlight (.ref e) none) (fun _ s₃ =>
      wpAny (model prog w) A (handleBy (.ref e) env [.ExceptHandler (some (.Name "CheckFault" np)) none [.Return (some (.UnaryOp .Not (.Name y yp) up)) rp] hp]) Q E s₃) E s₂) E s := by
  refine noteX S.fr S.frame (.flying fl) fun h1 a1 hh u1 => ?_
  refine wpAny_landsW hh fun h2 fl2 u2 => ?_
  have X2 : (hd.heap_1 p).In h2 := fun a o z => fl2.1 _ _ (X a o z)
  refine cpf fun rq => ?_
  refine el12 (fl2.there) fun oe he hc => ?_
  obtain ⟨oc, od, dat, sl⟩ := oe
  have hc : oc = .ref 44 := hc
  subst hc
  have LT : Looks (model prog w) h2 (typeOf (.ref e)) (.ref 44) := (Looks.ld he).andThen .now
  refine rq ?_
  refine wpAny_handleBy_cons (codeAny_handlers_test ?_) (by intro z; cases z)
  refine Name_function_global S.kind hl (loadGlobal_global (mg := mg) (v := .ref 44) (by rw [S.globals]; exact ns_of T.g fl2.1) (mg_of X T.g (by rfl)) ?_) (by decide)
  refine (exm_one (K := hd.heap_1 p) (b := true) X2 LT (by kernel_rfl)).here ?_
  show codeAny _ _ _ _ _
  refine codeAny_handlers_suite ?_
  refine lands_againW fl2 fun h3 fl3 u3 => ?_
  refine wpAny_execs_cons (wpAny_Return_some (wpAny_UnaryOp ?_))
  refine name_load S.kind (((nv.up u1).up u2).up u3) hy ?_
  exact not_value (wpAny_truthy_bool (k _ fl3.1))
end
end Mine
end
section
open PySem PySem.W PySem.Calls PyProof.Rows
namespace Mine
noncomputable section
section inv
variable {c : CEnv} {m : Nat}
theorem cmpS_assign_inv {st : Stmt} {i : Nat} {ce : CE} (h : cmpS m c st = some (.assign i ce)) : ∃ m' x px e pos, st = .Assign [.Name x px] e pos /\ slotOf? c x = some i /\ cmpE m' c e = some ce := by
  induction m using Nat.casesOn with
  | zero => exact no_some h
  | succ m =>
    exact ⟨m, sview_all (cmp_sview h)⟩
theorem cmpS_ret_inv {st : Stmt} {ce : CE} (h : cmpS m c st = some (.ret ce)) : ∃ m' e pos, st = .Return (some e) pos /\ cmpE m' c e = some ce := by
  induction m using Nat.casesOn with
  | zero => exact no_some h
  | succ m =>
    exact ⟨m, sview_all (cmp_sview h)⟩
theorem cmpS_try_inv {st : Stmt} {a b : List CS} (h : cmpS m c st = some (.tryf a b)) : ∃ m' body f np hb hp pos, st = .Try body [.ExceptHandler (some (.Name f np)) none hb hp] [] [] pos /\ isGlob c f "CheckFault" = true /\ allM (cmpS m' c) body = some a /\ allM (cmpS m' c) hb = some b := by
  induction m using Nat.casesOn with
  | zero => exact no_some h
  | succ m =>
    exact ⟨m, sview_all (cmp_sview h)⟩
theorem cmp_var_inv {e : Expr} {j : Nat} (h : cmpE m c e = some (.var j)) : ∃ y yp, e = .Name y yp /\ resolve c y = .slot j /\ (y == ("__debug__" : Str)) = false := by
  induction m using Nat.casesOn with
  | zero => exact no_some h
  | succ m =>
    exact (cview_all (cmp_view h)).2
theorem cmp_notvar_inv {e : Expr} {j : Nat} (h : cmpE m c e = some (.not (.var j))) : ∃ y yp up, e = .UnaryOp .Not (.Name y yp) up /\ resolve c y = .slot j /\ (y == ("__debug__" : Str)) = false := by
  refine cpf fun rq => ?_
  induction m using Nat.casesOn with
  | zero => exact no_some h
  | succ m =>
    refine el22 (cview_all (cmp_view h)).2 fun a up q1 ha => ?_
    refine el23 (cmp_var_inv ha) fun y yp q2 h1 h2 => ?_
    refine rq ?_
    exact ⟨y, yp, up, q2 ▸ q1, h1, h2⟩
end inv
section
variable (HH : Heap)
noncomputable def LPost (w : World) (env : Env) (outer : List Env) (ρ : List Addr) (s : Shared) (out : Out) (f : Flow) (s' : Shared) : Prop := match out with
  | .next ls' σ' => f = .next /\ ∃ ρ', Stp HH w (owns env) ρ s ρ' σ' s' /\ FrameOk HH env outer ρ' s'.heap ls'
  | .ret (.bool b) _ => f = .ret (.bool b) /\ HH.StaysIn s'.heap /\ ∃ h' tk, s' = { s with heap := h', toks := tk }
  | .ret _ _ => ∃ v, f = .ret v
  | .cont _ _ => f = .cont
  | .exc => False
noncomputable def SndL (d : Nat) (w : World) (t : Env -> Sem Flow) (names : List (Str × NameKind)) (f : Ls -> Sto -> Option Out) : Prop :=
  ∀ {A : Around} {env : Env} {outer : List Env} {ρ : List Addr} {ls : Ls} {σ : Sto} {out : Out} {s : Shared},
    f ls σ = some out -> env.scope.names = names -> SCtx HH A d env outer -> FrameOk HH env outer ρ s.heap ls -> HeapRep HH w ρ s.heap σ ->
    wpAny (model prog w) A (t env) (LPost HH w env outer ρ s out) (fun _ _ => out = .exc) s
end
section
variable {HH : Heap} {fa : Nat -> Addr} {mg mb : Str -> Option Value} {w : World} {A : Around} {E : Value -> Shared -> Prop} {ρ ρ₁ ρ₂ own : List Addr} {s s₁ s₂ : Shared} {σ σ₁ σ' : Sto} {h h' hb : Heap} {C : Calls} {n d m : Nat} {names : List (Str × NameKind)} {env : Env} {outer : List Env} {ls : Ls} {c : CEnv} {p : Params} {q : Program} {loose : List Str}
theorem sndL_of {t : Env -> Sem Flow} {f : Ls -> Sto -> Option Out} {pu : Bool} (h : SndS HH d w t names f pu) : SndL HH d w t names f := by
  intro A env outer ρ ls σ out s hf hn S F R
  refine wpAny_mono (h hf hn S F R) (fun fl s₁ ⟨_, q⟩ => ?_) fun e s₁ q => ?_
  · induction out using Out.casesOn with
    | next ls' σ' => exact q
    | cont ls' σ' => exact q.1
    | exc => exact q
    | ret v σ' =>
      obtain ⟨x, rfl, ρ', st, r⟩ := q
      induction v using V.casesOn <;> first | exact ⟨_, rfl⟩ | skip
      have qr := rep_bool r
      subst qr
      exact ⟨rfl, st.2.2.stays, st.1⟩
  · induction out using Out.casesOn <;> first | rfl | exact q.elim
theorem LPost.after {out : Out} {f : Flow} (st : Stp HH w (owns env) ρ s ρ₁ σ₁ s₁) (x : LPost HH w env outer ρ₁ s₁ out f s₂) : LPost HH w env outer ρ s out f s₂ := by
  induction out using Out.casesOn with
  | next ls' σ' => obtain ⟨rfl, ρ', st', F⟩ := x; exact ⟨rfl, ρ', st.trans st', F⟩
  | cont ls' σ' => exact x
  | exc => exact x
  | ret v σ' =>
    induction v using V.casesOn <;> first | exact x | skip
    obtain ⟨rfl, hs, h', tk, rfl⟩ := x
    refine el03 (st) fun z81_0 _ _ => ?_
    obtain ⟨h1, t1, rfl⟩ := z81_0
    exact ⟨rfl, hs, h', tk, rfl⟩
theorem sndL_execs {sts : List Stmt} {cs : List CS} (h : All2 (fun st c => SndL HH d w (exec st) names (ex C n c)) sts cs) : SndL HH d w (execs sts) names (exs (ex C n) cs) := by
  induction h with
  | nil =>
    intro A env outer ρ ls σ out s hf hn S F R
    simp only [Eqn.exs_nil, Option.some.injEq] at hf
    subst hf
    exact wpAny_execs_nil ⟨rfl, ρ, Stp.refl R, F⟩
  | @cons st c sts cs p _ ih =>
    intro A env outer ρ ls σ out s hf hn S F R
    refine wpAny_execs_cons ?_
    simp only [Eqn.exs_cons] at hf
    split at hf
    · rename_i ls₁ σ₁ h1
      refine wpAny_mono (p h1 hn S F R) (fun f s₁ ⟨hp, ρ₁, st, F₁⟩ => ?_) fun _ _ q => by cases q
      subst hp
      exact wpAny_mono (ih hf hn S F₁ st.2.2) (fun f s₂ q => LPost.after st q) fun e s₂ q => q
    · rename_i o hne
      refine wpAny_mono (p hf hn S F R) (fun f s₁ hp => ?_) fun _ _ q => q
      induction out using Out.casesOn with
      | next ls' σ' => exact (hne _ _ hf).elim
      | cont ls' σ' => cases hp; rfl
      | exc => exact hp.elim
      | ret v σ' =>
        induction v using V.casesOn <;> first | (obtain ⟨x, rfl⟩ := hp; exact ⟨x, rfl⟩) | skip
        obtain ⟨rfl, hp⟩ := hp
        exact ⟨rfl, hp⟩
end
end
end Mine
end
section
set_option tactic.hygienic false
open PySem PySem.W PySem.Calls PyProof.Rows
namespace Mine
section
variable {HH : Heap} {fa : Nat -> Addr} {mg mb : Str -> Option Value} {w : World} {A : Around} {E : Value -> Shared -> Prop} {ρ ρ₁ ρ₂ own : List Addr} {s s₁ s₂ : Shared} {σ σ₁ σ' : Sto} {h h' hb : Heap} {C : Calls} {n d m : Nat} {names : List (Str × NameKind)} {env : Env} {outer : List Env} {ls : Ls} {c : CEnv} {p : Params} {q : Program} {loose : List Str}
theorem NameVal.sl {x : Str} {v : Value} (n : NameVal env h x v) (hl : env.locals ∉ ρ) (hc : ∀ ca, env.cells.lookup x = some ca -> ca ∉ ρ) (k : ∀ a o, h.get? a = some o -> a ∉ ρ -> (∀ vs, o.data ≠ .fields vs) -> ∃ sl, h'.get? a = some { o with slots := sl }) : NameVal env h' x v := by
  refine cpf fun rq => ?_
  rcases n with ⟨hk, m, ⟨o, es, ep, ho, hd, q⟩, hv⟩ | ⟨hk, c, hc', o, ho, hd⟩
  · refine el11 (k _ o ho hl (fun vs q => by (replace q := Eq.trans (Eq.symm (hd ..)) (q)); cases q)) fun sl h1 => ?_
    refine rq ?_
    exact .inl ⟨hk, m, ⟨_, es, ep, h1, hd, q⟩, hv⟩
  · refine el11 (k c o ho (hc c hc') (fun vs q => by (replace q := Eq.trans (Eq.symm (hd ..)) (q)); cases q)) fun sl h1 => ?_
    refine rq ?_
    exact .inr ⟨hk, c, hc', _, h1, hd⟩
theorem tryA_inv {a : List CS} {y : Nat × Nat × List CE} (h : tryA a = some y) : a = [.assign y.1 (.call y.2.1 y.2.2)] := by
  induction a using List.casesOn with
  | nil => exact no_some h
  | cons s r =>
    induction r using List.casesOn with
    | cons => exact no_some h
    | nil =>
      induction s using CS.casesOn with
      | assign i e =>
        induction e using CE.casesOn with
        | call f args => cases (show some (i, f, args) = some y from h); rfl
        | _ => exact no_some h
      | _ => exact no_some h
theorem tryB_inv {b : List CS} {j : Nat} (h : tryB b = some j) : b = [.ret (.not (.var j))] := by
  induction b using List.casesOn with
  | nil => exact no_some h
  | cons s r =>
    induction r using List.casesOn with
    | cons => exact no_some h
    | nil =>
      induction s using CS.casesOn with
      | ret e =>
        induction e using CE.casesOn with
        | not e =>
          induction e using CE.casesOn with
          | var i => cases (show some i = some j from h); rfl
          | _ => exact no_some h
        | _ => exact no_some h
      | _ => exact no_some h
theorem boolAt_inv {j : Nat} {b : Bool} (h : boolAt ls j = some b) : ls[j]? = some (some (.bool b)) := by
  have h : (match ls[j]? with | some (some (.bool b)) => some b | _ => none) = some b := h
  generalize ls[j]? = o at h
  induction o using Option.casesOn with
  | none => exact no_so h
  | some o =>
  induction o using Option.casesOn with
  | none => exact no_so h
  | some v =>
  induction v using V.casesOn with
  | bool c => exact congrArg (fun b => some (some (V.bool b))) (Option.some.inj h)
  | _ => exact no_so h
theorem tryRun_inv {i j : Nat} {o : Option Res} {out : Out} (h : tryRun ls i j o = some out) : (∃ v σ', o = some (.ok v σ') /\ out = .next (ls.set i (some v)) σ') \/ (o = some .exc /\ ∃ bb, ls[j]? = some (some (.bool bb)) /\ out = .ret (.bool !bb) []) := by
  induction o using Option.casesOn with
  | none => exact no_some h
  | some r =>
    induction r using Res.casesOn with
    | ok v σ' => cases (show some (Out.next (ls.set i (some v)) σ') = some out from h); exact .inl ⟨v, σ', rfl, rfl⟩
    | exc =>
      refine el12 (map_inv (show (boolAt ls j).map (fun b => Out.ret (.bool !b) []) = some out from h)) fun b hb q55_2 => ?_
      subst q55_2
      exact .inr ⟨rfl, b, boolAt_inv hb, rfl⟩
theorem ex_try {a b : List CS} {out : Out} (hf : ex C (n + 1) (.tryf a b) ls σ = some out) : ∃ i fi args j, a = [.assign i (.call fi args)] /\ b = [.ret (.not (.var j))] /\ ((∃ v σ', evR C n (.call fi args) ls σ = some (.ok v σ') /\ out = .next (ls.set i (some v)) σ') \/
    (evR C n (.call fi args) ls σ = some .exc /\ ∃ bb, ls[j]? = some (some (.bool bb)) /\ out = .ret (.bool !bb) [])) := by
  have h : (match tryA a with
      | some (i, f, args) => (match tryB b with
        | some j => tryRun ls i j (evR C n (.call f args) ls σ)
        | none => none)
      | none => none) = some out := hf
  clear hf
  refine cpf fun rq => ?_
  cases ha : tryA a with
  | none => refine rq ?_; rw [ha] at h; exact no_some h
  | some y =>
    rw [ha] at h
    have h : (match tryB b with | some j => tryRun ls y.1 j (evR C n (.call y.2.1 y.2.2) ls σ) | none => none) = some out := h
    cases hb : tryB b with
    | none => refine rq ?_; rw [hb] at h; exact no_some h
    | some j => refine rq ?_; rw [hb] at h; exact ⟨y.1, y.2.1, y.2.2, j, tryA_inv ha, tryB_inv hb, tryRun_inv h⟩
theorem sndL_try {st : Stmt} {a b : List CS} (X : (hd.heap_1 p).In HH) (T : TopRead q loose mg mb HH) (G : Gl w HH fa mg mb) (CO : CallsOk w HH fa C (d + 1)) (hc : cmpS m ⟨names, none⟩ st = some (.tryf a b)) (n : Nat) :
    SndL HH (d + 1) w (exec st) names (ex C n (.tryf a b)) := by
  intro A env outer ρ ls σ out s hf hn S F R
  refine cpf fun rq => ?_
  subst hn
  induction n using Nat.casesOn with
  | zero => exact no_some hf
  | succ n =>
  refine el74 (cmpS_try_inv hc) fun m' body f np hb hp pos q81_7 hg ha hbb => ?_
  subst q81_7
  refine el03 (glob_name hg) fun q82_0 g1 g2 => ?_
  subst q82_0
  refine el43 (ex_try hf) fun i fi args j q83_4 q83_5 hf2 => ?_
  subst q83_4
  subst q83_5
  obtain ⟨st1, rfl, pa⟩ : ∃ st1, body = [st1] /\ cmpS m' ⟨env.scope.names, none⟩ st1 = some (.assign i (.call fi args)) := by
    refine el23 (allM_all2 ha).rcons fun a k q pa ra => ?_
    have qk := ra.rnil
    subst qk
    exact ⟨a, q, pa⟩
  obtain ⟨st2, rfl, pb⟩ : ∃ st2, hb = [st2] /\ cmpS m' ⟨env.scope.names, none⟩ st2 = some (.ret (.not (.var j))) := by
    refine el23 (allM_all2 hbb).rcons fun a k q pa ra => ?_
    have qk := ra.rnil
    subst qk
    exact ⟨a, q, pa⟩
  refine el53 (cmpS_assign_inv pa) fun m1 x px e pos1 q94_5 hx he => ?_
  subst q94_5
  refine el32 (cmpS_ret_inv pb) fun m2 e2 pos2 q95_3 he2 => ?_
  subst q95_3
  refine el33 (cmp_notvar_inv he2) fun y yp up q96_3 hy hyd => ?_
  subst q96_3
  have hr := slotOf_inv hx
  have hne : ∀ elt gs scope p, e ≠ .ListComp elt gs scope p := by
    refine el53 (cmp_call_inv he) fun _ _ _ _ _ _ q99_6 _ => ?_
    subst q99_6
    intro _ _ _ _ z; cases z
  refine rq ?_
  refine wpAny_Try_except (wpAny_execs_cons (wpAny_Assign_Name ?_ ((cmp_plain he).sw hne _ _ _)))
  clear hf
  rcases hf2 with ⟨v, σ₁, h1, rfl⟩ | ⟨h1, bb, hj, rfl⟩
  · refine wpAny_mono (evR_at G CO he h1 S F R) (fun y s₁ ⟨ρ₁, st, rv⟩ => ?_) fun _ _ q => q.elim
    exact store_at S (F.mono st.2.1) st.2.2 hr rv fun s₂ st₂ _ F₂ => wpAny_execs_nil (wpAny_execs_nil ⟨rfl, ρ₁, st.of0.trans st₂, F₂⟩)
  · refine wpAny_mono (evR_at G CO he h1 S F R) (fun _ _ q => q.elim) fun e s₁ q => ?_
    refine cpf fun rq => ?_
    obtain ⟨ea, rfl, ⟨h2, tk, rfl⟩, ⟨a0, fl⟩, kp⟩ := q
    refine el12 ((S.ectx F).slot y j _ hy hj) fun v nv rv => ?_
    have qrv := rep_bool rv
    subst qrv
    refine rq ?_
    exact catch44 (s := { s with heap := h2, toks := tk }) X T S fl g2 (nv.sl F.loc.1 (fun ca q => (F.cel _ (mem_owns_cell q)).1) kp) hyd fun h' hs => ⟨rfl, hs, _, _, rfl⟩
theorem law_body {sts : List Stmt} {cs : List CS} (X : (hd.heap_1 p).In HH) (T : TopRead q loose mg mb HH) (G : Gl w HH fa mg mb) (RO : RaiseOk HH w) (CO : CallsOk w HH fa C (d + 1))
    (hc : allM (cmpS m ⟨names, none⟩) sts = some cs) (ht : ∀ c ∈ cs, noTry c = true \/ ∃ a b, c = .tryf a b) (n : Nat) : SndL HH (d + 1) w (execs sts) names (exs (ex C n) cs) := by
  refine sndL_execs ?_
  have := allM_all2 hc
  clear hc
  induction this with
  | nil => exact .nil
  | @cons st c sts cs h _ ih =>
    refine .cons ?_ (ih fun c hc => ht c (.tail _ hc))
    rcases ht c (.head _) with h1 | ⟨a, b, rfl⟩
    · exact sndL_of (main_stmt G RO CO m st c h h1 n)
    · exact sndL_try X T G CO h n
end
end Mine
end
section
open PySem PySem.W PySem.Calls PyProof.Rows
namespace Mine
noncomputable section
noncomputable def topOk (cs : List CS) : Bool := cs.all fun c => noTry c || (match c with | .tryf _ _ => true | _ => false)
theorem topOk_inv {cs : List CS} (h : topOk cs = true) : ∀ c ∈ cs, noTry c = true \/ ∃ a b, c = .tryf a b := by
  intro c hc
  have := List.all_eq_true.mp h c hc
  rcases Bool.or_eq_true_iff.mp this with q | q
  · exact .inl q
  · induction c using CS.casesOn <;> first | exact .inr ⟨_, _, rfl⟩ | cases q
theorem law_topOk : (lawFn.map fun F => topOk F.body) = some true := by decide +kernel
section
variable {HH : Heap} {p : Params} {mg mb : Str -> Option Value} {w : World} {q : Program} {loose : List Str}
theorem law_top {xs : List Int} {σ : Sto} {name nm : Str} {fa : Addr} {cd : Value} {l : Addr} {cvs : List Value} {o : Obj} {s : Shared} {args : Arguments} {body : List Stmt} {scope : Scope} {d1 d2 d3 d4 d5 d6}
    (X : (hd.heap_1 p).In HH) (T : TopRead q loose mg mb HH) (hrun : runLaw xs = some (.ok (.bool true) σ))
    (hdef : findDef "law" PySem.Challenge.pw_no0225_01.main.body = some (.FunctionDef nm args body d1 d2 d3 scope d4 d5 d6)) (hargs : args.args.map (·.arg) = [("script" : Str)])
    (hkind : scope.kind = .function) (hnd : (scope.names.map (·.1)).Nodup)
    (hL : HH.IsList l cvs.toArray) (hI : IntsAre cvs xs) (hlen : xs.length <= 1000) (hbase : ∃ o, HH.get? cStatics = some o)
    (F : Fr HH HH.objs.size s.heap (bindL (envOfC name scope HH.objs.size fa cd).kindOf [(("script" : Str), .ref l)] fun _ => none))
    (N : News HH HH.objs.size s.heap [(HH.objs.size + 1, o)]) (CA : CellsAre (bindC (envOfC name scope HH.objs.size fa cd).kindOf [(("script" : Str), .ref l)] fun _ => none) (cellsFrom (HH.objs.size + 1) scope.names []) [(HH.objs.size + 1, o)]) :
    wpAny (model prog w) (callerA.deeper (envOfC name scope HH.objs.size fa cd)) (execs body (envOfC name scope HH.objs.size fa cd)) (fun f s' => f = .ret (.bool true) /\ HH.StaysIn s'.heap /\ ∃ h' tk, s' = { s with heap := h', toks := tk }) (fun _ _ => False) s := by
  have htop := law_topOk
  unfold runLaw at hrun
  unfold lawFn fnOf? at hrun htop
  rw [hdef] at hrun htop
  simp only [Option.bind_some] at hrun htop
  refine cpf fun rq => ?_
  cases hcf : cmpFn (.FunctionDef nm args body d1 d2 d3 scope d4 d5 d6) with
  | none => refine rq ?_; rw [hcf] at hrun; cases hrun
  | some Fn =>
  rw [hcf] at hrun htop
  simp only [Option.map_some, Option.some.injEq] at hrun htop
  obtain ⟨qs, hq, bd, hbd, rfl⟩ := cmpFn_inv hcf
  refine el02 (mapM_slots hq) fun hq1 hq2 => ?_
  have hal : args.args.length = 1 := by simpa using congrArg List.length hargs
  simp only [runFn] at hrun
  split at hrun
  refine rq ?_
  case isFalse => cases hrun
  rename_i hal2
  have hex : exs (ex (run 5) 40) bd (initLs ⟨qs, scope.names.length, bd⟩ [.scr xs]) [] = some (.ret (.bool true) σ) := by
    refine cpf fun rq => ?_
    split at hrun
    · cases hrun
    · rename_i v σ' hx
      cases hrun
      refine rq ?_
      exact hx
    · cases hrun
    · cases hrun
  clear hrun
  have hlo : HH.StaysIn s.heap := F.keep
  have RO : RaiseOk HH w := raise_ok X T
  have G : Gl w HH fad mg mb := gl_ok X T
  have CO : CallsOk w HH fad (run 5) 6 := calls_ok G RO (fn_facts X) 5
  have hcn : ((cellsFrom (HH.objs.size + 1) scope.names []).map (·.1)).Nodup := cellsFrom_nodup hnd List.nodup_nil fun _ q => nomatch q
  have hck : ∀ y, scope.names.lookup y = some .cell -> ∃ ca, (cellsFrom (HH.objs.size + 1) scope.names []).lookup y = some ca := fun y q => lookup_mem_keys (cellsFrom_mem (.inl (mem_of_lookup q)))
  refine cpf fun rq => ?_
  obtain ⟨n0, hcs, hod⟩ : ∃ n0, cellsFrom (HH.objs.size + 1) scope.names [] = [(n0, HH.objs.size + 1)] /\ o.data = .cell (bindC (envOfC name scope HH.objs.size fa cd).kindOf [(("script" : Str), .ref l)] (fun _ => none) n0) := by
    generalize cellsFrom (HH.objs.size + 1) scope.names [] = cs at CA
    cases CA with
    | cons h r => cases r; exact ⟨_, rfl, h⟩
  have hnone : ∀ b, HH.objs.size <= b -> HH.get? b = none := fun b hb => Heap.get?_none_of_le hb
  refine el03 (N _ (.head _)) fun hN1 hN2 _ => ?_
  refine el34 (id F.ns) fun om es ep hom hdm hkm hfm => ?_
  have S : SCtx HH (callerA.deeper (envOfC name scope HH.objs.size fa cd)) (5 + 1) (envOfC name scope HH.objs.size fa cd) [] := by
    refine ⟨hkind, rfl, rfl, rfl, (by show 1 + 300 + 1 + (5 + 1) <= 400; decide), (by show 4 + 3 + 20 * (5 + 1) <= 1000; decide), rfl, rfl, hnd, fun x ca q e => ?_, fun x y ca q1 q2 => ?_, hck, fun b hb => ?_, (fun b hb => nomatch hb), ?_⟩
    · have := mem_of_lookup q
      show False
      change (x, ca) ∈ cellsFrom (HH.objs.size + 1) scope.names [] at this
      rw [hcs] at this
      cases List.mem_singleton.mp this
      exact absurd e (Nat.succ_ne_self _)
    · have h1 := mem_of_lookup q1
      have h2 := mem_of_lookup q2
      change (x, ca) ∈ cellsFrom (HH.objs.size + 1) scope.names [] at h1
      change (y, ca) ∈ cellsFrom (HH.objs.size + 1) scope.names [] at h2
      rw [hcs] at h1 h2
      cases List.mem_singleton.mp h1
      cases List.mem_singleton.mp h2
      rfl
    · rcases List.mem_cons.mp hb with e | hb
      · rw [e]; exact hnone _ (Nat.le_refl _)
      · change b ∈ (cellsFrom (HH.objs.size + 1) scope.names []).map (·.2) at hb
        rw [hcs] at hb
        cases List.mem_singleton.mp hb
        exact hnone _ (Nat.le_succ _)
    · unfold interactive
      show ((scope.kind == .module) && _) = false
      rw [hkind]; rfl
  have R : HeapRep HH w [] s.heap [] := ⟨rfl, List.nodup_nil, (fun _ q => nomatch q), hlo, hbase, fun n a ao e => by (replace e := Eq.trans (Eq.symm (List.getElem?_nil ..)) (e)); cases e⟩
  have hr : RepVs HH [] s.heap [.scr xs] [.ref l] := .cons (.scr hL hI hlen) .nil
  have hps : ∀ (j p : Nat) (x : Str), qs[j]? = some p -> [("script" : Str)][j]? = some x -> ∃ k, (k = NameKind.local \/ k = NameKind.cell) /\ scope.names[p]? = some (x, k) := fun j p x e1 e2 => by
    rw [<- hargs, List.getElem?_map] at e2
    cases e3 : args.args[j]? with
    | none => rw [e3] at e2; cases e2
    | some b =>
      rw [e3] at e2
      cases e2
      refine el13 (resolve_slot (slotOf_inv (hq2 j p b e1 e3))) fun k hk hn _ => ?_
      exact ⟨k, hk, hn⟩
  obtain ⟨bL, bC⟩ := bind_inv (names := scope.names) (kindOf := (envOfC name scope HH.objs.size fa cd).kindOf) (params := qs) (args := [.scr xs]) (ps := [("script" : Str)]) (cvs := [.ref l]) (ls := List.replicate scope.names.length none) (m := fun _ => none) (cm := fun _ => none) (fun x => rfl) hnd hr (by (refine Eq.trans (hq1 ..) (Eq.trans (hal ..) ?_)); rfl) hal2 hps
    (fun i x v _ q => by (replace q := Eq.trans (Eq.symm (List.getElem?_replicate ..)) (q)); split at q <;> cases q) (fun i x v _ q => by (replace q := Eq.trans (Eq.symm (List.getElem?_replicate ..)) (q)); split at q <;> cases q)
  have Fr : FrameOk HH (envOfC name scope HH.objs.size fa cd) [] [] s.heap (initLs ⟨qs, scope.names.length, bd⟩ [.scr xs]) := by
    refine ⟨?_, trivial, (fun b hb => nomatch hb), ⟨(fun q => nomatch q), om, hom⟩, fun pr hpr => ⟨(fun q => nomatch q), ?_⟩, ⟨_, F.ns, fun i x v q1 q2 => bL i x v q1 q2⟩, fun i x q => ?_⟩
    · unfold initLs
      rw [foldl_len _ fun v => some v, List.length_replicate]
      rfl
    · change pr ∈ cellsFrom (HH.objs.size + 1) scope.names [] at hpr
      rw [hcs] at hpr
      cases List.mem_singleton.mp hpr
      exact ⟨_, hN1⟩
    · refine el11 (hck x (lookup_of_get hnd q)) fun ca hca => ?_
      have hm := mem_of_lookup hca
      rw [hcs] at hm
      cases List.mem_singleton.mp hm
      exact ⟨_, _, hca, ⟨_, hN1, hod⟩, fun v q2 => bC i _ v q q2⟩
  refine rq ?_
  refine wpAny_mono (law_body X T G RO CO hbd (topOk_inv htop) 40 hex rfl S Fr R) (fun f s' q => ?_) fun e s' q => by cases q
  exact q
end
end
end Mine
end
section
open PySem PySem.W PySem.Calls PyProof.Rows
namespace Mine
local macro_rules
  | `(tactic| k_qdec) => `(tactic| decide +kernel)
set_option maxRecDepth 100000 in
set_option maxHeartbeats 8000000 in
set_option pp.deepTerms false in
set_option pp.maxSteps 2000 in
theorem tr (hp : ∀ xs : List Int, xs.length <= 63 -> ∃ σ, runLaw xs = some (.ok (.bool true) σ)) : PySem.Challenge.rw_no0225_01.Holds := by
  refine Mine.hd ?_
  k_go0
  rename Top _ _ _ _ _ _ => T
  rename Frag.In _ _ => KX
  rename IntsAre _ _ => hI
  rename Heap.IsList _ _ _ => hL
  rename Fr _ _ _ _ => F
  rename News _ _ _ _ => N
  rename CellsAre _ _ _ => CA
  rename ¬ ((_ : Int) < _) => hlen
  have hlen' := Int.ofNat_le.mp (Int.not_lt.mp hlen)
  refine el11 (hp _ hlen') fun σ hrun => ?_
  refine wpAny_mono (law_top KX (topRead_of T) hrun rfl rfl rfl (by decide +kernel) hL hI (Nat.le_trans hlen' (by decide)) ⟨_, KX cStatics _ rfl⟩ F N CA) (fun f s' q => ?_) (fun _ _ q => q.elim)
  obtain ⟨rfl, hst, h', tk, rfl⟩ := q
  clear N F CA
  show GoodW _ _ _ _ _ (.ok (.ret (.bool true))) _
  refine ⟨.inl ⟨.bool true, .bool true, [], rfl, raisesW_false ?_, .bool true, ?_, fun _ => ⟨List.nodup_nil, fun _ q => nomatch q⟩⟩, hst, rfl, ?_⟩
  · wrow_none_raised
  · wrow_post
  · assumption
end Mine
end
set_option maxRecDepth 100000 in
set_option maxHeartbeats 8000000 in
theorem PySem.Challenge.cw_no0225_01_holds : PySem.Challenge.rw_no0225_01.Holds := by
  exact Mine.tr Mine.PL.runLaw_true
