import PyProof.Rows.All
import Wide.All
import OpenK.AllK
import Wide.FinOn
import PySem.Challenge.RW_pf0037_01
set_option Elab.async false
namespace Mine
theorem e0_2 {p0 p1 : Prop} {G : Prop} (k : p0 → p1 → G) (h : p0 ∧ p1) : G := by
  obtain ⟨h0, h1⟩ := h
  exact k h0 h1
theorem e0_3 {p0 p1 p2 : Prop} {G : Prop} (k : p0 → p1 → p2 → G) (h : p0 ∧ p1 ∧ p2) : G := by
  obtain ⟨h0, h1, h2⟩ := h
  exact k h0 h1 h2
theorem e0_4 {p0 p1 p2 p3 : Prop} {G : Prop} (k : p0 → p1 → p2 → p3 → G) (h : p0 ∧ p1 ∧ p2 ∧ p3) : G := by
  obtain ⟨h0, h1, h2, h3⟩ := h
  exact k h0 h1 h2 h3
theorem e0_5 {p0 p1 p2 p3 p4 : Prop} {G : Prop} (k : p0 → p1 → p2 → p3 → p4 → G) (h : p0 ∧ p1 ∧ p2 ∧ p3 ∧ p4) : G := by
  obtain ⟨h0, h1, h2, h3, h4⟩ := h
  exact k h0 h1 h2 h3 h4
theorem e0_6 {p0 p1 p2 p3 p4 p5 : Prop} {G : Prop} (k : p0 → p1 → p2 → p3 → p4 → p5 → G) (h : p0 ∧ p1 ∧ p2 ∧ p3 ∧ p4 ∧ p5) : G := by
  obtain ⟨h0, h1, h2, h3, h4, h5⟩ := h
  exact k h0 h1 h2 h3 h4 h5
theorem e0_7 {p0 p1 p2 p3 p4 p5 p6 : Prop} {G : Prop} (k : p0 → p1 → p2 → p3 → p4 → p5 → p6 → G) (h : p0 ∧ p1 ∧ p2 ∧ p3 ∧ p4 ∧ p5 ∧ p6) : G := by
  obtain ⟨h0, h1, h2, h3, h4, h5, h6⟩ := h
  exact k h0 h1 h2 h3 h4 h5 h6
theorem e0_9 {p0 p1 p2 p3 p4 p5 p6 p7 p8 : Prop} {G : Prop} (k : p0 → p1 → p2 → p3 → p4 → p5 → p6 → p7 → p8 → G) (h : p0 ∧ p1 ∧ p2 ∧ p3 ∧ p4 ∧ p5 ∧ p6 ∧ p7 ∧ p8) : G := by
  obtain ⟨h0, h1, h2, h3, h4, h5, h6, h7, h8⟩ := h
  exact k h0 h1 h2 h3 h4 h5 h6 h7 h8
theorem e0_10 {p0 p1 p2 p3 p4 p5 p6 p7 p8 p9 : Prop} {G : Prop} (k : p0 → p1 → p2 → p3 → p4 → p5 → p6 → p7 → p8 → p9 → G) (h : p0 ∧ p1 ∧ p2 ∧ p3 ∧ p4 ∧ p5 ∧ p6 ∧ p7 ∧ p8 ∧ p9) : G := by
  obtain ⟨h0, h1, h2, h3, h4, h5, h6, h7, h8, h9⟩ := h
  exact k h0 h1 h2 h3 h4 h5 h6 h7 h8 h9
theorem e1_1 {α0 : Sort _} {p0 : α0 → Prop} {G : Prop} (k : ∀ (x0 : α0), p0 x0 → G) (h : ∃ x0, p0 x0) : G := by
  obtain ⟨x0, h0⟩ := h
  exact k _ h0
theorem e1_2 {α0 : Sort _} {p0 p1 : α0 → Prop} {G : Prop} (k : ∀ (x0 : α0), p0 x0 → p1 x0 → G) (h : ∃ x0, p0 x0 ∧ p1 x0) : G := by
  obtain ⟨x0, h0, h1⟩ := h
  exact k _ h0 h1
theorem e1_3 {α0 : Sort _} {p0 p1 p2 : α0 → Prop} {G : Prop} (k : ∀ (x0 : α0), p0 x0 → p1 x0 → p2 x0 → G) (h : ∃ x0, p0 x0 ∧ p1 x0 ∧ p2 x0) : G := by
  obtain ⟨x0, h0, h1, h2⟩ := h
  exact k _ h0 h1 h2
theorem e1_4 {α0 : Sort _} {p0 p1 p2 p3 : α0 → Prop} {G : Prop} (k : ∀ (x0 : α0), p0 x0 → p1 x0 → p2 x0 → p3 x0 → G) (h : ∃ x0, p0 x0 ∧ p1 x0 ∧ p2 x0 ∧ p3 x0) : G := by
  obtain ⟨x0, h0, h1, h2, h3⟩ := h
  exact k _ h0 h1 h2 h3
theorem e1_5 {α0 : Sort _} {p0 p1 p2 p3 p4 : α0 → Prop} {G : Prop} (k : ∀ (x0 : α0), p0 x0 → p1 x0 → p2 x0 → p3 x0 → p4 x0 → G) (h : ∃ x0, p0 x0 ∧ p1 x0 ∧ p2 x0 ∧ p3 x0 ∧ p4 x0) : G := by
  obtain ⟨x0, h0, h1, h2, h3, h4⟩ := h
  exact k _ h0 h1 h2 h3 h4
theorem e1_6 {α0 : Sort _} {p0 p1 p2 p3 p4 p5 : α0 → Prop} {G : Prop} (k : ∀ (x0 : α0), p0 x0 → p1 x0 → p2 x0 → p3 x0 → p4 x0 → p5 x0 → G) (h : ∃ x0, p0 x0 ∧ p1 x0 ∧ p2 x0 ∧ p3 x0 ∧ p4 x0 ∧ p5 x0) : G := by
  obtain ⟨x0, h0, h1, h2, h3, h4, h5⟩ := h
  exact k _ h0 h1 h2 h3 h4 h5
theorem e1_7 {α0 : Sort _} {p0 p1 p2 p3 p4 p5 p6 : α0 → Prop} {G : Prop} (k : ∀ (x0 : α0), p0 x0 → p1 x0 → p2 x0 → p3 x0 → p4 x0 → p5 x0 → p6 x0 → G) (h : ∃ x0, p0 x0 ∧ p1 x0 ∧ p2 x0 ∧ p3 x0 ∧ p4 x0 ∧ p5 x0 ∧ p6 x0) : G := by
  obtain ⟨x0, h0, h1, h2, h3, h4, h5, h6⟩ := h
  exact k _ h0 h1 h2 h3 h4 h5 h6
theorem e1_8 {α0 : Sort _} {p0 p1 p2 p3 p4 p5 p6 p7 : α0 → Prop} {G : Prop} (k : ∀ (x0 : α0), p0 x0 → p1 x0 → p2 x0 → p3 x0 → p4 x0 → p5 x0 → p6 x0 → p7 x0 → G) (h : ∃ x0, p0 x0 ∧ p1 x0 ∧ p2 x0 ∧ p3 x0 ∧ p4 x0 ∧ p5 x0 ∧ p6 x0 ∧ p7 x0) : G := by
  obtain ⟨x0, h0, h1, h2, h3, h4, h5, h6, h7⟩ := h
  exact k _ h0 h1 h2 h3 h4 h5 h6 h7
theorem e1_10 {α0 : Sort _} {p0 p1 p2 p3 p4 p5 p6 p7 p8 p9 : α0 → Prop} {G : Prop} (k : ∀ (x0 : α0), p0 x0 → p1 x0 → p2 x0 → p3 x0 → p4 x0 → p5 x0 → p6 x0 → p7 x0 → p8 x0 → p9 x0 → G) (h : ∃ x0, p0 x0 ∧ p1 x0 ∧ p2 x0 ∧ p3 x0 ∧ p4 x0 ∧ p5 x0 ∧ p6 x0 ∧ p7 x0 ∧ p8 x0 ∧ p9 x0) : G := by
  obtain ⟨x0, h0, h1, h2, h3, h4, h5, h6, h7, h8, h9⟩ := h
  exact k _ h0 h1 h2 h3 h4 h5 h6 h7 h8 h9
theorem e2_1 {α0 : Sort _} {α1 : Sort _} {p0 : α0 → α1 → Prop} {G : Prop} (k : ∀ (x0 : α0) (x1 : α1), p0 x0 x1 → G) (h : ∃ x0, ∃ x1, p0 x0 x1) : G := by
  obtain ⟨x0, x1, h0⟩ := h
  exact k _ _ h0
theorem e2_2 {α0 : Sort _} {α1 : Sort _} {p0 p1 : α0 → α1 → Prop} {G : Prop} (k : ∀ (x0 : α0) (x1 : α1), p0 x0 x1 → p1 x0 x1 → G) (h : ∃ x0, ∃ x1, p0 x0 x1 ∧ p1 x0 x1) : G := by
  obtain ⟨x0, x1, h0, h1⟩ := h
  exact k _ _ h0 h1
theorem e2_3 {α0 : Sort _} {α1 : Sort _} {p0 p1 p2 : α0 → α1 → Prop} {G : Prop} (k : ∀ (x0 : α0) (x1 : α1), p0 x0 x1 → p1 x0 x1 → p2 x0 x1 → G) (h : ∃ x0, ∃ x1, p0 x0 x1 ∧ p1 x0 x1 ∧ p2 x0 x1) : G := by
  obtain ⟨x0, x1, h0, h1, h2⟩ := h
  exact k _ _ h0 h1 h2
theorem e2_4 {α0 : Sort _} {α1 : Sort _} {p0 p1 p2 p3 : α0 → α1 → Prop} {G : Prop} (k : ∀ (x0 : α0) (x1 : α1), p0 x0 x1 → p1 x0 x1 → p2 x0 x1 → p3 x0 x1 → G) (h : ∃ x0, ∃ x1, p0 x0 x1 ∧ p1 x0 x1 ∧ p2 x0 x1 ∧ p3 x0 x1) : G := by
  obtain ⟨x0, x1, h0, h1, h2, h3⟩ := h
  exact k _ _ h0 h1 h2 h3
theorem e2_5 {α0 : Sort _} {α1 : Sort _} {p0 p1 p2 p3 p4 : α0 → α1 → Prop} {G : Prop} (k : ∀ (x0 : α0) (x1 : α1), p0 x0 x1 → p1 x0 x1 → p2 x0 x1 → p3 x0 x1 → p4 x0 x1 → G) (h : ∃ x0, ∃ x1, p0 x0 x1 ∧ p1 x0 x1 ∧ p2 x0 x1 ∧ p3 x0 x1 ∧ p4 x0 x1) : G := by
  obtain ⟨x0, x1, h0, h1, h2, h3, h4⟩ := h
  exact k _ _ h0 h1 h2 h3 h4
theorem e2_6 {α0 : Sort _} {α1 : Sort _} {p0 p1 p2 p3 p4 p5 : α0 → α1 → Prop} {G : Prop} (k : ∀ (x0 : α0) (x1 : α1), p0 x0 x1 → p1 x0 x1 → p2 x0 x1 → p3 x0 x1 → p4 x0 x1 → p5 x0 x1 → G) (h : ∃ x0, ∃ x1, p0 x0 x1 ∧ p1 x0 x1 ∧ p2 x0 x1 ∧ p3 x0 x1 ∧ p4 x0 x1 ∧ p5 x0 x1) : G := by
  obtain ⟨x0, x1, h0, h1, h2, h3, h4, h5⟩ := h
  exact k _ _ h0 h1 h2 h3 h4 h5
theorem e2_7 {α0 : Sort _} {α1 : Sort _} {p0 p1 p2 p3 p4 p5 p6 : α0 → α1 → Prop} {G : Prop} (k : ∀ (x0 : α0) (x1 : α1), p0 x0 x1 → p1 x0 x1 → p2 x0 x1 → p3 x0 x1 → p4 x0 x1 → p5 x0 x1 → p6 x0 x1 → G) (h : ∃ x0, ∃ x1, p0 x0 x1 ∧ p1 x0 x1 ∧ p2 x0 x1 ∧ p3 x0 x1 ∧ p4 x0 x1 ∧ p5 x0 x1 ∧ p6 x0 x1) : G := by
  obtain ⟨x0, x1, h0, h1, h2, h3, h4, h5, h6⟩ := h
  exact k _ _ h0 h1 h2 h3 h4 h5 h6
theorem e2_9 {α0 : Sort _} {α1 : Sort _} {p0 p1 p2 p3 p4 p5 p6 p7 p8 : α0 → α1 → Prop} {G : Prop} (k : ∀ (x0 : α0) (x1 : α1), p0 x0 x1 → p1 x0 x1 → p2 x0 x1 → p3 x0 x1 → p4 x0 x1 → p5 x0 x1 → p6 x0 x1 → p7 x0 x1 → p8 x0 x1 → G) (h : ∃ x0, ∃ x1, p0 x0 x1 ∧ p1 x0 x1 ∧ p2 x0 x1 ∧ p3 x0 x1 ∧ p4 x0 x1 ∧ p5 x0 x1 ∧ p6 x0 x1 ∧ p7 x0 x1 ∧ p8 x0 x1) : G := by
  obtain ⟨x0, x1, h0, h1, h2, h3, h4, h5, h6, h7, h8⟩ := h
  exact k _ _ h0 h1 h2 h3 h4 h5 h6 h7 h8
theorem e2_10 {α0 : Sort _} {α1 : Sort _} {p0 p1 p2 p3 p4 p5 p6 p7 p8 p9 : α0 → α1 → Prop} {G : Prop} (k : ∀ (x0 : α0) (x1 : α1), p0 x0 x1 → p1 x0 x1 → p2 x0 x1 → p3 x0 x1 → p4 x0 x1 → p5 x0 x1 → p6 x0 x1 → p7 x0 x1 → p8 x0 x1 → p9 x0 x1 → G) (h : ∃ x0, ∃ x1, p0 x0 x1 ∧ p1 x0 x1 ∧ p2 x0 x1 ∧ p3 x0 x1 ∧ p4 x0 x1 ∧ p5 x0 x1 ∧ p6 x0 x1 ∧ p7 x0 x1 ∧ p8 x0 x1 ∧ p9 x0 x1) : G := by
  obtain ⟨x0, x1, h0, h1, h2, h3, h4, h5, h6, h7, h8, h9⟩ := h
  exact k _ _ h0 h1 h2 h3 h4 h5 h6 h7 h8 h9
theorem e3_1 {α0 : Sort _} {α1 : Sort _} {α2 : Sort _} {p0 : α0 → α1 → α2 → Prop} {G : Prop} (k : ∀ (x0 : α0) (x1 : α1) (x2 : α2), p0 x0 x1 x2 → G) (h : ∃ x0, ∃ x1, ∃ x2, p0 x0 x1 x2) : G := by
  obtain ⟨x0, x1, x2, h0⟩ := h
  exact k _ _ _ h0
theorem e3_2 {α0 : Sort _} {α1 : Sort _} {α2 : Sort _} {p0 p1 : α0 → α1 → α2 → Prop} {G : Prop} (k : ∀ (x0 : α0) (x1 : α1) (x2 : α2), p0 x0 x1 x2 → p1 x0 x1 x2 → G) (h : ∃ x0, ∃ x1, ∃ x2, p0 x0 x1 x2 ∧ p1 x0 x1 x2) : G := by
  obtain ⟨x0, x1, x2, h0, h1⟩ := h
  exact k _ _ _ h0 h1
theorem e3_3 {α0 : Sort _} {α1 : Sort _} {α2 : Sort _} {p0 p1 p2 : α0 → α1 → α2 → Prop} {G : Prop} (k : ∀ (x0 : α0) (x1 : α1) (x2 : α2), p0 x0 x1 x2 → p1 x0 x1 x2 → p2 x0 x1 x2 → G) (h : ∃ x0, ∃ x1, ∃ x2, p0 x0 x1 x2 ∧ p1 x0 x1 x2 ∧ p2 x0 x1 x2) : G := by
  obtain ⟨x0, x1, x2, h0, h1, h2⟩ := h
  exact k _ _ _ h0 h1 h2
theorem e3_4 {α0 : Sort _} {α1 : Sort _} {α2 : Sort _} {p0 p1 p2 p3 : α0 → α1 → α2 → Prop} {G : Prop} (k : ∀ (x0 : α0) (x1 : α1) (x2 : α2), p0 x0 x1 x2 → p1 x0 x1 x2 → p2 x0 x1 x2 → p3 x0 x1 x2 → G) (h : ∃ x0, ∃ x1, ∃ x2, p0 x0 x1 x2 ∧ p1 x0 x1 x2 ∧ p2 x0 x1 x2 ∧ p3 x0 x1 x2) : G := by
  obtain ⟨x0, x1, x2, h0, h1, h2, h3⟩ := h
  exact k _ _ _ h0 h1 h2 h3
theorem e3_5 {α0 : Sort _} {α1 : Sort _} {α2 : Sort _} {p0 p1 p2 p3 p4 : α0 → α1 → α2 → Prop} {G : Prop} (k : ∀ (x0 : α0) (x1 : α1) (x2 : α2), p0 x0 x1 x2 → p1 x0 x1 x2 → p2 x0 x1 x2 → p3 x0 x1 x2 → p4 x0 x1 x2 → G) (h : ∃ x0, ∃ x1, ∃ x2, p0 x0 x1 x2 ∧ p1 x0 x1 x2 ∧ p2 x0 x1 x2 ∧ p3 x0 x1 x2 ∧ p4 x0 x1 x2) : G := by
  obtain ⟨x0, x1, x2, h0, h1, h2, h3, h4⟩ := h
  exact k _ _ _ h0 h1 h2 h3 h4
theorem e3_6 {α0 : Sort _} {α1 : Sort _} {α2 : Sort _} {p0 p1 p2 p3 p4 p5 : α0 → α1 → α2 → Prop} {G : Prop} (k : ∀ (x0 : α0) (x1 : α1) (x2 : α2), p0 x0 x1 x2 → p1 x0 x1 x2 → p2 x0 x1 x2 → p3 x0 x1 x2 → p4 x0 x1 x2 → p5 x0 x1 x2 → G) (h : ∃ x0, ∃ x1, ∃ x2, p0 x0 x1 x2 ∧ p1 x0 x1 x2 ∧ p2 x0 x1 x2 ∧ p3 x0 x1 x2 ∧ p4 x0 x1 x2 ∧ p5 x0 x1 x2) : G := by
  obtain ⟨x0, x1, x2, h0, h1, h2, h3, h4, h5⟩ := h
  exact k _ _ _ h0 h1 h2 h3 h4 h5
theorem e3_9 {α0 : Sort _} {α1 : Sort _} {α2 : Sort _} {p0 p1 p2 p3 p4 p5 p6 p7 p8 : α0 → α1 → α2 → Prop} {G : Prop} (k : ∀ (x0 : α0) (x1 : α1) (x2 : α2), p0 x0 x1 x2 → p1 x0 x1 x2 → p2 x0 x1 x2 → p3 x0 x1 x2 → p4 x0 x1 x2 → p5 x0 x1 x2 → p6 x0 x1 x2 → p7 x0 x1 x2 → p8 x0 x1 x2 → G) (h : ∃ x0, ∃ x1, ∃ x2, p0 x0 x1 x2 ∧ p1 x0 x1 x2 ∧ p2 x0 x1 x2 ∧ p3 x0 x1 x2 ∧ p4 x0 x1 x2 ∧ p5 x0 x1 x2 ∧ p6 x0 x1 x2 ∧ p7 x0 x1 x2 ∧ p8 x0 x1 x2) : G := by
  obtain ⟨x0, x1, x2, h0, h1, h2, h3, h4, h5, h6, h7, h8⟩ := h
  exact k _ _ _ h0 h1 h2 h3 h4 h5 h6 h7 h8
theorem e3_10 {α0 : Sort _} {α1 : Sort _} {α2 : Sort _} {p0 p1 p2 p3 p4 p5 p6 p7 p8 p9 : α0 → α1 → α2 → Prop} {G : Prop} (k : ∀ (x0 : α0) (x1 : α1) (x2 : α2), p0 x0 x1 x2 → p1 x0 x1 x2 → p2 x0 x1 x2 → p3 x0 x1 x2 → p4 x0 x1 x2 → p5 x0 x1 x2 → p6 x0 x1 x2 → p7 x0 x1 x2 → p8 x0 x1 x2 → p9 x0 x1 x2 → G) (h : ∃ x0, ∃ x1, ∃ x2, p0 x0 x1 x2 ∧ p1 x0 x1 x2 ∧ p2 x0 x1 x2 ∧ p3 x0 x1 x2 ∧ p4 x0 x1 x2 ∧ p5 x0 x1 x2 ∧ p6 x0 x1 x2 ∧ p7 x0 x1 x2 ∧ p8 x0 x1 x2 ∧ p9 x0 x1 x2) : G := by
  obtain ⟨x0, x1, x2, h0, h1, h2, h3, h4, h5, h6, h7, h8, h9⟩ := h
  exact k _ _ _ h0 h1 h2 h3 h4 h5 h6 h7 h8 h9
theorem e4_1 {α0 : Sort _} {α1 : Sort _} {α2 : Sort _} {α3 : Sort _} {p0 : α0 → α1 → α2 → α3 → Prop} {G : Prop} (k : ∀ (x0 : α0) (x1 : α1) (x2 : α2) (x3 : α3), p0 x0 x1 x2 x3 → G) (h : ∃ x0, ∃ x1, ∃ x2, ∃ x3, p0 x0 x1 x2 x3) : G := by
  obtain ⟨x0, x1, x2, x3, h0⟩ := h
  exact k _ _ _ _ h0
theorem e4_5 {α0 : Sort _} {α1 : Sort _} {α2 : Sort _} {α3 : Sort _} {p0 p1 p2 p3 p4 : α0 → α1 → α2 → α3 → Prop} {G : Prop} (k : ∀ (x0 : α0) (x1 : α1) (x2 : α2) (x3 : α3), p0 x0 x1 x2 x3 → p1 x0 x1 x2 x3 → p2 x0 x1 x2 x3 → p3 x0 x1 x2 x3 → p4 x0 x1 x2 x3 → G) (h : ∃ x0, ∃ x1, ∃ x2, ∃ x3, p0 x0 x1 x2 x3 ∧ p1 x0 x1 x2 x3 ∧ p2 x0 x1 x2 x3 ∧ p3 x0 x1 x2 x3 ∧ p4 x0 x1 x2 x3) : G := by
  obtain ⟨x0, x1, x2, x3, h0, h1, h2, h3, h4⟩ := h
  exact k _ _ _ _ h0 h1 h2 h3 h4
theorem e4_7 {α0 : Sort _} {α1 : Sort _} {α2 : Sort _} {α3 : Sort _} {p0 p1 p2 p3 p4 p5 p6 : α0 → α1 → α2 → α3 → Prop} {G : Prop} (k : ∀ (x0 : α0) (x1 : α1) (x2 : α2) (x3 : α3), p0 x0 x1 x2 x3 → p1 x0 x1 x2 x3 → p2 x0 x1 x2 x3 → p3 x0 x1 x2 x3 → p4 x0 x1 x2 x3 → p5 x0 x1 x2 x3 → p6 x0 x1 x2 x3 → G) (h : ∃ x0, ∃ x1, ∃ x2, ∃ x3, p0 x0 x1 x2 x3 ∧ p1 x0 x1 x2 x3 ∧ p2 x0 x1 x2 x3 ∧ p3 x0 x1 x2 x3 ∧ p4 x0 x1 x2 x3 ∧ p5 x0 x1 x2 x3 ∧ p6 x0 x1 x2 x3) : G := by
  obtain ⟨x0, x1, x2, x3, h0, h1, h2, h3, h4, h5, h6⟩ := h
  exact k _ _ _ _ h0 h1 h2 h3 h4 h5 h6
theorem e4_9 {α0 : Sort _} {α1 : Sort _} {α2 : Sort _} {α3 : Sort _} {p0 p1 p2 p3 p4 p5 p6 p7 p8 : α0 → α1 → α2 → α3 → Prop} {G : Prop} (k : ∀ (x0 : α0) (x1 : α1) (x2 : α2) (x3 : α3), p0 x0 x1 x2 x3 → p1 x0 x1 x2 x3 → p2 x0 x1 x2 x3 → p3 x0 x1 x2 x3 → p4 x0 x1 x2 x3 → p5 x0 x1 x2 x3 → p6 x0 x1 x2 x3 → p7 x0 x1 x2 x3 → p8 x0 x1 x2 x3 → G) (h : ∃ x0, ∃ x1, ∃ x2, ∃ x3, p0 x0 x1 x2 x3 ∧ p1 x0 x1 x2 x3 ∧ p2 x0 x1 x2 x3 ∧ p3 x0 x1 x2 x3 ∧ p4 x0 x1 x2 x3 ∧ p5 x0 x1 x2 x3 ∧ p6 x0 x1 x2 x3 ∧ p7 x0 x1 x2 x3 ∧ p8 x0 x1 x2 x3) : G := by
  obtain ⟨x0, x1, x2, x3, h0, h1, h2, h3, h4, h5, h6, h7, h8⟩ := h
  exact k _ _ _ _ h0 h1 h2 h3 h4 h5 h6 h7 h8
theorem e5_1 {α0 : Sort _} {α1 : Sort _} {α2 : Sort _} {α3 : Sort _} {α4 : Sort _} {p0 : α0 → α1 → α2 → α3 → α4 → Prop} {G : Prop} (k : ∀ (x0 : α0) (x1 : α1) (x2 : α2) (x3 : α3) (x4 : α4), p0 x0 x1 x2 x3 x4 → G) (h : ∃ x0, ∃ x1, ∃ x2, ∃ x3, ∃ x4, p0 x0 x1 x2 x3 x4) : G := by
  obtain ⟨x0, x1, x2, x3, x4, h0⟩ := h
  exact k _ _ _ _ _ h0
theorem e5_4 {α0 : Sort _} {α1 : Sort _} {α2 : Sort _} {α3 : Sort _} {α4 : Sort _} {p0 p1 p2 p3 : α0 → α1 → α2 → α3 → α4 → Prop} {G : Prop} (k : ∀ (x0 : α0) (x1 : α1) (x2 : α2) (x3 : α3) (x4 : α4), p0 x0 x1 x2 x3 x4 → p1 x0 x1 x2 x3 x4 → p2 x0 x1 x2 x3 x4 → p3 x0 x1 x2 x3 x4 → G) (h : ∃ x0, ∃ x1, ∃ x2, ∃ x3, ∃ x4, p0 x0 x1 x2 x3 x4 ∧ p1 x0 x1 x2 x3 x4 ∧ p2 x0 x1 x2 x3 x4 ∧ p3 x0 x1 x2 x3 x4) : G := by
  obtain ⟨x0, x1, x2, x3, x4, h0, h1, h2, h3⟩ := h
  exact k _ _ _ _ _ h0 h1 h2 h3
theorem e5_10 {α0 : Sort _} {α1 : Sort _} {α2 : Sort _} {α3 : Sort _} {α4 : Sort _} {p0 p1 p2 p3 p4 p5 p6 p7 p8 p9 : α0 → α1 → α2 → α3 → α4 → Prop} {G : Prop} (k : ∀ (x0 : α0) (x1 : α1) (x2 : α2) (x3 : α3) (x4 : α4), p0 x0 x1 x2 x3 x4 → p1 x0 x1 x2 x3 x4 → p2 x0 x1 x2 x3 x4 → p3 x0 x1 x2 x3 x4 → p4 x0 x1 x2 x3 x4 → p5 x0 x1 x2 x3 x4 → p6 x0 x1 x2 x3 x4 → p7 x0 x1 x2 x3 x4 → p8 x0 x1 x2 x3 x4 → p9 x0 x1 x2 x3 x4 → G) (h : ∃ x0, ∃ x1, ∃ x2, ∃ x3, ∃ x4, p0 x0 x1 x2 x3 x4 ∧ p1 x0 x1 x2 x3 x4 ∧ p2 x0 x1 x2 x3 x4 ∧ p3 x0 x1 x2 x3 x4 ∧ p4 x0 x1 x2 x3 x4 ∧ p5 x0 x1 x2 x3 x4 ∧ p6 x0 x1 x2 x3 x4 ∧ p7 x0 x1 x2 x3 x4 ∧ p8 x0 x1 x2 x3 x4 ∧ p9 x0 x1 x2 x3 x4) : G := by
  obtain ⟨x0, x1, x2, x3, x4, h0, h1, h2, h3, h4, h5, h6, h7, h8, h9⟩ := h
  exact k _ _ _ _ _ h0 h1 h2 h3 h4 h5 h6 h7 h8 h9
theorem none_e {α : Type} {a : α} {G : Prop} (h : none = some a) : G := nomatch h
theorem none_r {α : Type} {a : α} {G : Prop} : none = some a → G := fun h => nomatch h
theorem bind_r {α β : Type} {x : Option α} {f : α → Option β} {r : β} {G : Prop} (k : ∀ a, x = some a → f a = some r → G) : x.bind f = some r → G := by
  intro h
  cases x with
  | none => cases h
  | some a => exact k a rfl h
theorem map_r {α β : Type} {x : Option α} {f : α → β} {r : β} {G : β → Prop} (k : ∀ a, x = some a → G (f a)) : x.map f = some r → G r := by
  intro h
  cases x with
  | none => cases h
  | some a => cases h; exact k a rfl
theorem map2_r {α β γ : Type} {x : Option α} {f : α → β × γ} {u : β} {v : γ} {G : β → γ → Prop} (k : ∀ a, x = some a → G (f a).1 (f a).2) : x.map f = some (u, v) → G u v := by
  intro h
  cases x with
  | none => cases h
  | some a => rw [Option.map_some, Option.some.injEq] at h; have := k a rfl; rw [h] at this; exact this
theorem sm_r {α : Type} {a r : α} {G : α → Prop} (k : G a) : some a = some r → G r := by intro h; cases h; exact k
theorem sm2_r {α β : Type} {a x : α} {b y : β} {G : α → β → Prop} (k : G a b) : some (a, b) = some (x, y) → G x y := by intro h; cases h; exact k
theorem if_r {α : Type} {c : Prop} {inst : Decidable c} {x : Option α} {r : α} {G : Prop} (k : c → x = some r → G) : (if c then x else none) = some r → G := by
  intro h
  by_cases hc : c
  · rw [if_pos hc] at h; exact k hc h
  · rw [if_neg hc] at h; cases h
theorem ifs_r {α : Type} {c : Prop} {inst : Decidable c} {a r : α} {G : α → Prop} (k : c → G a) : (if c then some a else none) = some r → G r := by
  intro h
  by_cases hc : c
  · rw [if_pos hc] at h; cases h; exact k hc
  · rw [if_neg hc] at h; cases h
theorem ifs2_r {α β : Type} {c : Prop} {inst : Decidable c} {a x : α} {b y : β} {G : α → β → Prop} (k : c → G a b) : (if c then some (a, b) else none) = some (x, y) → G x y := by
  intro h
  by_cases hc : c
  · rw [if_pos hc] at h; cases h; exact k hc
  · rw [if_neg hc] at h; cases h
theorem and_r {a b : Bool} {G : Prop} (k : a = true → b = true → G) : (a && b) = true → G := fun h => k (Bool.and_eq_true_iff.mp h).1 (Bool.and_eq_true_iff.mp h).2
theorem sub_r {α : Sort _} {a b : α} {G : α → Prop} (k : G a) : a = b → G b := fun h => h ▸ k
noncomputable def bind2 {α β γ : Type} (f : α → β → Option γ) (x : Option α) (y : Option β) : Option γ := x.bind fun a => y.bind fun b => f a b
theorem bind2_r {α β γ : Type} {f : α → β → Option γ} {x : Option α} {y : Option β} {r : γ} {G : Prop} (k : ∀ a b, x = some a → y = some b → f a b = some r → G) : bind2 f x y = some r → G :=
  bind_r fun a ha => bind_r fun b hb h => k a b ha hb h
noncomputable def altO {α : Type} (x y : Option α) : Option α := match x with
  | some a => some a
  | none => y
theorem alt_r {α : Type} {x y : Option α} {r : α} {G : Prop} (k : x = some r → G) (k2 : y = some r → G) : altO x y = some r → G := by
  cases x with
  | none => exact k2
  | some a => exact k
end Mine
noncomputable section
open PySem PySem.W PyProof.Rows PySem.Calls PySem.Spec
set_option Elab.async false
namespace Mine

noncomputable abbrev HLe (h h' : Heap) : Prop := ∀ b o, h.get? b = some o → h'.get? b = some o
noncomputable abbrev tupOf (its : Array Value) (n : Nat) : Obj := { cls := .type "tuple", data := .seq its n }

/-! values of the heap read as data, their lists and tuples outside of X -/
mutual
inductive Rp (X : Addr → Prop) (h : Heap) : Value → PyData → Prop
  | none : Rp X h .none .none
  | bool (b : Bool) : Rp X h (.bool b) (.bool b)
  | int (i : Int) (t : Tok) : Rp X h (.int i t) (.int i)
  | list {a : Addr} {vs : List Value} {n : Nat} {xs : List PyData} : ¬ X a → h.get? a = some (listOf vs.toArray n) → RpA X h vs xs → Rp X h (.ref a) (.list xs)
  | tuple {a : Addr} {vs : List Value} {xs : List PyData} : ¬ X a → h.IsTuple a vs.toArray → RpA X h vs xs → Rp X h (.ref a) (.tuple xs)
inductive RpA (X : Addr → Prop) (h : Heap) : List Value → List PyData → Prop
  | nil : RpA X h [] []
  | cons {v : Value} {d : PyData} {vs : List Value} {ds : List PyData} : Rp X h v d → RpA X h vs ds → RpA X h (v :: vs) (d :: ds)
end

theorem Rp.to {X X' : Addr → Prop} {h h' : Heap} (k : ∀ a o, ¬ X a → h.get? a = some o → ¬ X' a ∧ h'.get? a = some o) {v : Value} {d : PyData} (r : Rp X h v d) : Rp X' h' v d :=
  Rp.rec (motive_1 := fun v d _ => Rp X' h' v d) (motive_2 := fun vs ds _ => RpA X' h' vs ds) .none .bool .int (fun x e _ q => .list (k _ _ x e).1 (k _ _ x e).2 q)
    (fun x t _ q => .tuple (k _ _ x t.choose_spec.1).1 ⟨t.choose, (k _ _ x t.choose_spec.1).2, t.choose_spec.2⟩ q) .nil (fun _ _ a b => .cons a b) r
theorem RpA.to {X X' : Addr → Prop} {h h' : Heap} (k : ∀ a o, ¬ X a → h.get? a = some o → ¬ X' a ∧ h'.get? a = some o) : ∀ {ds : List PyData} {vs : List Value}, RpA X h vs ds → RpA X' h' vs ds := by
  intro ds
  induction ds with
  | nil => intro vs r; cases r; exact .nil
  | cons d ds ih => intro vs r; cases r with | cons a q => exact .cons (a.to k) (ih q)
theorem Rp.up {X : Addr → Prop} {h h' : Heap} (k : HLe h h') {v : Value} {d : PyData} (r : Rp X h v d) : Rp X h' v d := r.to fun a o x e => ⟨x, k a o e⟩
theorem RpA.up {X : Addr → Prop} {h h' : Heap} (k : HLe h h') {v : List Value} {d : List PyData} (r : RpA X h v d) : RpA X h' v d := r.to fun a o x e => ⟨x, k a o e⟩
theorem RpA.ind {X : Addr → Prop} {h : Heap} {P : List Value → List PyData → Prop} (hn : P [] []) (hc : ∀ v d vs ds, Rp X h v d → RpA X h vs ds → P vs ds → P (v :: vs) (d :: ds)) : ∀ {ds : List PyData} {vs : List Value}, RpA X h vs ds → P vs ds := by
  intro ds
  induction ds with
  | nil => intro vs r; cases r; exact hn
  | cons d ds ih => intro vs r; cases r with | cons a q => exact hc _ _ _ _ a q (ih q)
theorem RpA.length {X : Addr → Prop} {h : Heap} {vs : List Value} {ds : List PyData} (r : RpA X h vs ds) : vs.length = ds.length :=
  RpA.ind (P := fun vs ds => vs.length = ds.length) rfl (fun _ _ _ _ _ _ e => congrArg Nat.succ e) r
theorem RpA.get {X : Addr → Prop} {h : Heap} {vs : List Value} {ds : List PyData} (r : RpA X h vs ds) : ∀ (i : Nat) (d : PyData), ds[i]? = some d → ∃ v, vs[i]? = some v ∧ Rp X h v d := by
  refine RpA.ind (P := fun vs ds => ∀ (i : Nat) (d : PyData), ds[i]? = some d → ∃ v, vs[i]? = some v ∧ Rp X h v d) (fun i d e => ?_) (fun v d vs ds a _ ih i d' e => ?_) r
  · rw [List.getElem?_nil] at e; exact nomatch e
  · cases i with
    | zero => rw [List.getElem?_cons_zero] at e; cases e; exact ⟨v, rfl, a⟩
    | succ i => exact ih i d' e
theorem RpA.append {X : Addr → Prop} {h : Heap} {vs : List Value} {ds : List PyData} {ws : List Value} {es : List PyData} (r : RpA X h vs ds) (q : RpA X h ws es) : RpA X h (vs ++ ws) (ds ++ es) :=
  RpA.ind (P := fun vs ds => RpA X h (vs ++ ws) (ds ++ es)) q (fun _ _ _ _ a _ ih => .cons a ih) r
theorem RpA.take {X : Addr → Prop} {h : Heap} {vs : List Value} {ds : List PyData} (k : Nat) (r : RpA X h vs ds) : RpA X h (vs.take k) (ds.take k) :=
  RpA.ind (P := fun vs ds => ∀ k, RpA X h (vs.take k) (ds.take k)) (fun k => by rw [List.take_nil, List.take_nil]; exact .nil) (fun _ _ _ _ a _ ih k => match k with
    | 0 => .nil
    | k + 1 => .cons a (ih k)) r k
theorem RpA.drop {X : Addr → Prop} {h : Heap} {vs : List Value} {ds : List PyData} (k : Nat) (r : RpA X h vs ds) : RpA X h (vs.drop k) (ds.drop k) :=
  RpA.ind (P := fun vs ds => ∀ k, RpA X h (vs.drop k) (ds.drop k)) (fun k => by rw [List.drop_nil, List.drop_nil]; exact .nil) (fun _ _ _ _ a q ih k => match k with
    | 0 => .cons a q
    | k + 1 => ih k) r k
theorem RpA.reverse {X : Addr → Prop} {h : Heap} {vs : List Value} {ds : List PyData} (r : RpA X h vs ds) : RpA X h vs.reverse ds.reverse :=
  RpA.ind (P := fun vs ds => RpA X h vs.reverse ds.reverse) .nil (fun v d vs ds a _ ih => by rw [List.reverse_cons, List.reverse_cons]; exact ih.append (.cons a .nil)) r
theorem RpA.set {X : Addr → Prop} {h : Heap} {v : Value} {d : PyData} (r : Rp X h v d) {vs : List Value} {ds : List PyData} (k : Nat) (q : RpA X h vs ds) : RpA X h (vs.set k v) (ds.set k d) :=
  RpA.ind (P := fun vs ds => ∀ k, RpA X h (vs.set k v) (ds.set k d)) (fun _ => .nil) (fun _ _ _ _ a q ih k => match k with
    | 0 => .cons r q
    | k + 1 => .cons a (ih k)) q k
theorem RpA.rep {X : Addr → Prop} {h : Heap} {vs : List Value} {ds : List PyData} (r : RpA X h vs ds) : ∀ k : Nat, RpA X h (List.replicate k vs).flatten (List.replicate k ds).flatten
  | 0 => by simpa using RpA.nil
  | k + 1 => by simpa [List.replicate_succ] using r.append (RpA.rep r k)

theorem Rp.reads {X : Addr → Prop} {h : Heap} {v : Value} {d : PyData} (r : Rp X h v d) : ∃ as, Reads h v d as :=
  Rp.rec (motive_1 := fun v d _ => ∃ as, Reads h v d as) (motive_2 := fun vs ds _ => ∃ as, ReadsAll h vs ds as) ⟨_, .none⟩ (fun b => ⟨_, .bool b⟩) (fun i t => ⟨_, .int i t⟩)
    (fun _ e _ q => ⟨_, .list e rfl rfl q.choose_spec⟩) (fun _ t _ q => ⟨_, .tuple t.choose_spec.1 t.choose_spec.2.1 t.choose_spec.2.2.choose_spec q.choose_spec⟩) ⟨_, .nil⟩ (fun _ _ a b => ⟨_, .cons a.choose_spec b.choose_spec⟩) r

/-! the evaluator -/
inductive Slot where
  | val (d : PyData)
  | own (xs : List PyData)
noncomputable def Slot.data : Slot → PyData
  | .val d => d
  | .own xs => .list xs
noncomputable def valS : Slot → Option PyData
  | .val d => some d
  | .own _ => none
noncomputable abbrev Sto := Str → Option Slot
noncomputable def setS (σ : Sto) (x : Str) (s : Slot) : Sto := fun y => if y = x then some s else σ y
theorem setS_at {σ : Sto} {x y : Str} {s : Slot} (h : y = x) : setS σ x s y = some s := if_pos h
theorem setS_off {σ : Sto} {x y : Str} {s : Slot} (h : ¬ y = x) : setS σ x s y = σ y := if_neg h
noncomputable abbrev Orc := Str → List PyData → Option PyData

noncomputable def smallI (a : Int) : Bool := Nat.ble a.natAbs 4611686018427387903
noncomputable def lenOk (n : Nat) : Bool := decide (n ≤ 1048576)

noncomputable def nameOf : Expr → Option Str
  | .Name x _ => some x
  | _ => none
noncomputable def tupsOf : Expr → Option (List Expr)
  | .Tuple es _ _ => some es
  | _ => none
noncomputable def intOf : PyData → Option Int
  | .int i => some i
  | _ => none
noncomputable def boolOf : PyData → Option Bool
  | .bool b => some b
  | _ => none
noncomputable def listOfD : PyData → Option (List PyData)
  | .list xs => some xs
  | _ => none
noncomputable def tupOfD : PyData → Option (List PyData)
  | .tuple xs => some xs
  | _ => none
noncomputable def isNoneV : PyData → Bool
  | .none => true
  | _ => false
theorem name_r {e : Expr} {x : Str} {G : Expr → Prop} (k : ∀ p, G (.Name x p)) : nameOf e = some x → G e := by
  intro h
  cases e with
  | Name y p => cases h; exact k p
  | _ => exact none_e h
theorem tups_r {e : Expr} {ts : List Expr} {G : Expr → Prop} (k : ∀ n p, G (.Tuple ts n p)) : tupsOf e = some ts → G e := by
  intro h
  cases e with
  | Tuple y n p => cases h; exact k n p
  | _ => exact none_e h
theorem nameOf_some {f : Expr} {x : Str} (h : nameOf f = some x) : ∃ p, f = .Name x p := name_r (G := fun f => ∃ p, f = .Name x p) (fun p => ⟨p, rfl⟩) h
theorem tupsOf_some {f : Expr} {x : List Expr} (h : tupsOf f = some x) : ∃ n p, f = .Tuple x n p := tups_r (G := fun f => ∃ n p, f = .Tuple x n p) (fun n p => ⟨n, p, rfl⟩) h
theorem int_r {d : PyData} {i : Int} {G : PyData → Prop} (k : G (.int i)) : intOf d = some i → G d := by
  intro h
  cases d with
  | int y => cases h; exact k
  | _ => exact none_e h
theorem bool_r {d : PyData} {i : Bool} {G : PyData → Prop} (k : G (.bool i)) : boolOf d = some i → G d := by
  intro h
  cases d with
  | bool y => cases h; exact k
  | _ => exact none_e h
theorem lst_r {d : PyData} {i : List PyData} {G : PyData → Prop} (k : G (.list i)) : listOfD d = some i → G d := by
  intro h
  cases d with
  | list y => cases h; exact k
  | _ => exact none_e h
theorem tup_r {d : PyData} {i : List PyData} {G : PyData → Prop} (k : G (.tuple i)) : tupOfD d = some i → G d := by
  intro h
  cases d with
  | tuple y => cases h; exact k
  | _ => exact none_e h
theorem intOf_some {d : PyData} {i : Int} (h : intOf d = some i) : d = .int i := int_r (G := fun d => d = .int i) rfl h
theorem boolOf_some {d : PyData} {i : Bool} (h : boolOf d = some i) : d = .bool i := bool_r (G := fun d => d = .bool i) rfl h
theorem listOf_some {d : PyData} {i : List PyData} (h : listOfD d = some i) : d = .list i := lst_r (G := fun d => d = .list i) rfl h
theorem tupOf_some {d : PyData} {i : List PyData} (h : tupOfD d = some i) : d = .tuple i := tup_r (G := fun d => d = .tuple i) rfl h
theorem isNone_r {d : PyData} {G : PyData → Prop} (k : G .none) : isNoneV d = true → G d := by
  intro h
  cases d with
  | none => exact k
  | _ => cases h

noncomputable def binV (op : Operator) (a b : PyData) : Option PyData := match op with
  | .Add => altO (bind2 (fun a b => some (.int (a + b))) (intOf a) (intOf b)) (bind2 (fun xs ys => if lenOk (xs.length + ys.length) then some (.list (xs ++ ys)) else none) (listOfD a) (listOfD b))
  | .Sub => bind2 (fun a b => some (.int (a - b))) (intOf a) (intOf b)
  | .Mult => altO (bind2 (fun a b => if smallI b then some (.int (a * b)) else none) (intOf a) (intOf b)) (bind2 (fun xs k => if smallI k = true ∧ lenOk (xs.length * k.toNat) = true then some (.list (List.replicate k.toNat xs).flatten) else none) (listOfD a) (intOf b))
  | .FloorDiv => bind2 (fun a b => if b ≠ 0 ∧ b.natAbs < 1073741824 then some (.int (a.fdiv b)) else none) (intOf a) (intOf b)
  | .Mod => bind2 (fun a b => if b ≠ 0 then some (.int (a.fmod b)) else none) (intOf a) (intOf b)
  | .Pow => bind2 (fun a n => if smallI a = true ∧ 0 ≤ n ∧ n ≤ 1000 then some (.int (a ^ n.toNat)) else none) (intOf a) (intOf b)
  | _ => none

noncomputable def cmpV (op : CmpOp) (a b : PyData) : Option Bool := match op with
  | .Eq => if SeqAt.shaped a && SeqAt.shaped b then some (PyData.eqv a b) else none
  | .NotEq => if SeqAt.shaped a && SeqAt.shaped b then some (!PyData.eqv a b) else none
  | .Lt => bind2 (fun a b => some (decide (a < b))) (intOf a) (intOf b)
  | .Gt => bind2 (fun a b => some (decide (b < a))) (intOf a) (intOf b)
  | .LtE => bind2 (fun a b => some (decide (a ≤ b))) (intOf a) (intOf b)
  | .GtE => bind2 (fun a b => some (decide (b ≤ a))) (intOf a) (intOf b)
  | .Is => if isNoneV b = true then some (isNoneV a) else none
  | .IsNot => if isNoneV b = true then some (!isNoneV a) else none
  | _ => none

noncomputable def idxL (xs : List PyData) (k : Int) : Option PyData := if lenOk xs.length then (if 0 ≤ k then xs[k.toNat]? else if -(xs.length : Int) ≤ k then xs[(k + xs.length).toNat]? else none) else none
noncomputable def idxT (xs : List PyData) (k : Int) : Option PyData := if lenOk xs.length then (if 0 ≤ k then xs[k.toNat]? else none) else none
noncomputable def idxV (d k : PyData) : Option PyData := altO (bind2 idxL (listOfD d) (intOf k)) (bind2 idxT (tupOfD d) (intOf k))

noncomputable def itemsOf (d : PyData) : Option (List PyData) := altO (listOfD d) (tupOfD d)
/-- a name as a value that may be shared -/
noncomputable def rdV (σ : Sto) (x : Str) : Option PyData := (σ x).bind valS
/-- a name that is only looked into -/
noncomputable def rdB (σ : Sto) (x : Str) : Option PyData := (σ x).map Slot.data

noncomputable def rangeL (a b c : Int) : List PyData := (List.range (Builtin.Range.rangeSize a b c).toNat).map fun (i : Nat) => PyData.int (a + (i : Int) * c)
noncomputable def range2 (a b : Int) : Option (List PyData) := if smallI a && smallI b then some (rangeL a b 1) else none
noncomputable def range3 (a b c : Int) : Option (List PyData) := if smallI a && (smallI b && (decide (c ≠ 0) && (decide (-1000 ≤ c) && decide (c ≤ 1000)))) then some (rangeL a b c) else none
noncomputable def rangeV : List PyData → Option (List PyData)
  | [] => none
  | a :: r => (intOf a).bind fun a => match r with
    | [] => if smallI a then some (rangeL 0 a 1) else none
    | b :: r => (intOf b).bind fun b => match r with
      | [] => range2 a b
      | c :: r => (intOf c).bind fun c => match r with
        | [] => range3 a b c
        | _ :: _ => none
noncomputable def enumL (n : Nat) : List PyData → List PyData
  | [] => []
  | x :: xs => .tuple [.int n, x] :: enumL (n + 1) xs

noncomputable def namesOf : List Expr → Option (List Str)
  | [] => some []
  | e :: r => (nameOf e).bind fun x => (namesOf r).map (x :: ·)
noncomputable def setAllV (σ : Sto) : List Str → List PyData → Sto
  | [], _ => σ
  | x :: xs, ds => match ds with
    | [] => σ
    | d :: ds => setAllV (setS σ x (.val d)) xs ds
noncomputable def bindTs (ts : List Expr) (d : PyData) (σ : Sto) : Option Sto := (namesOf ts).bind fun xs => (tupOfD d).bind fun ds => if xs.length = ds.length then some (setAllV σ xs ds) else none
noncomputable def bindT (t : Expr) (d : PyData) (σ : Sto) : Option Sto := altO ((nameOf t).map fun x => setS σ x (.val d)) ((tupsOf t).bind fun ts => bindTs ts d σ)
noncomputable def freeS (σ : Sto) (y : Str) : NameKind → Option Slot
  | .free => (rdV σ y).map .val
  | _ => none
noncomputable def compSto (scope : Scope) (σ : Sto) : Sto := fun y => (scope.names.lookup y).bind (freeS σ y)
theorem compSto_some {scope : Scope} {σ : Sto} {x : Str} {sl : Slot} : compSto scope σ x = some sl → scope.names.lookup x = some .free ∧ ∃ d, σ x = some (.val d) ∧ sl = .val d := by
  refine bind_r fun k hk h => ?_
  cases k <;> first | exact none_e h | skip
  revert h
  apply map_r; intro d
  refine bind_r fun sl' hs hv => ?_
  cases sl' with
  | own _ => exact none_e hv
  | val d' => revert hv; apply sm_r; exact ⟨hk, _, hs, rfl⟩
noncomputable def compItems (t : Expr) (test : Sto → Option Bool) (body : Sto → Option (List PyData)) (τ : Sto) (items : List PyData) : Option (List PyData) :=
  (items.mapM fun d => do
    let τ1 ← bindT t d τ
    let ok ← test τ1
    if ok then body τ1 else some []).map List.flatten

noncomputable def negV (d : PyData) : Option PyData := (intOf d).map fun i => .int (-i)
noncomputable def cmpB (op : CmpOp) (a b : PyData) : Option PyData := (cmpV op a b).map .bool
noncomputable def consO {α : Type} (d : α) (ds : List α) : Option (List α) := some (d :: ds)
noncomputable def iteO {α : Type} (c : Option Bool) (x y : Option α) : Option α := c.bind fun c => match c with
  | true => x
  | false => y
noncomputable def lenV (d : PyData) : Option PyData := (listOfD d).bind fun xs => if lenOk xs.length then some (.int xs.length) else none
noncomputable def oneOf {α : Type} : List α → Option α
  | [] => none
  | a :: r => match r with
    | [] => some a
    | _ :: _ => none
noncomputable def enumV (ds : List PyData) : Option PyData := ((oneOf ds).bind listOfD).map fun xs => .list (enumL 0 xs)
noncomputable def takeV (d k : PyData) : Option PyData := bind2 (fun xs k => if 0 ≤ k ∧ smallI k = true ∧ lenOk xs.length = true then some (.list (xs.take k.toNat)) else none) (listOfD d) (intOf k)
noncomputable def dropV (d k : PyData) : Option PyData := bind2 (fun xs k => if 0 ≤ k ∧ smallI k = true ∧ lenOk xs.length = true then some (.list (xs.drop k.toNat)) else none) (listOfD d) (intOf k)
noncomputable def revV (d k : PyData) : Option PyData := bind2 (fun xs k => if k = -1 ∧ lenOk xs.length = true then some (.list xs.reverse) else none) (listOfD d) (intOf k)
noncomputable def okLV (xs : List PyData) : Option PyData := if lenOk xs.length then some (.list xs) else none
noncomputable def constV : Const → Option PyData
  | .int i => some (.int i)
  | .bool b => some (.bool b)
  | .none => some .none
  | _ => none
/-- what is looked into: a name's list, or a value -/
noncomputable def evB' (b : Expr) (σ : Sto) (v : Option PyData) : Option PyData := match nameOf b with
  | some x => rdB σ x
  | none => v
noncomputable def boolQ (op : BoolOp) (b : Bool) (y : Option Bool) : Option Bool := match op with
  | .And => match b with
    | true => y
    | false => some false
  | .Or => match b with
    | true => some true
    | false => y
noncomputable def compB (t : Expr) (f : Sto → Option Bool) (g : Sto → Option (List PyData)) (τ : Sto) (o : Option PyData) : Option (List PyData) := (o.bind itemsOf).bind (compItems t f g τ)
noncomputable def callV (O : Orc) (it : Bool) (f : Str) (ds : Option (List PyData)) (l : Option PyData) : Option PyData :=
  if f = "len" then l
  else if f = "range" then (match it with
    | true => (ds.bind rangeV).map .list
    | false => none)
  else if f = "enumerate" then (match it with
    | true => ds.bind enumV
    | false => none)
  else ds.bind (O f)

mutual
noncomputable def evE (O : Orc) : Expr → Bool → Sto → Option PyData
  | .Constant c _ _, _, _ => constV c
  | .Name x _, _, σ => rdV σ x
  | .BinOp l op r _, _, σ => bind2 (binV op) (evE O l false σ) (evE O r false σ)
  | .UnaryOp op x _, _, σ => match op with
    | .USub => (evE O x false σ).bind negV
    | _ => none
  | .IfExp t b o _, _, σ => iteO (evT O t σ) (evE O b false σ) (evE O o false σ)
  | .Compare l ops rs _, _, σ => (oneOf ops).bind fun op => bind2 (cmpB op) (evE O l false σ) ((evL O rs σ).bind oneOf)
  | .BoolOp op vs _, _, σ => (evBs O op vs σ).map .bool
  | .List es _, _, σ => (evL O es σ).map .list
  | .Tuple es _ _, _, σ => (evL O es σ).map .tuple
  | .Subscript b i _, _, σ => match i with
    | .Slice lo hi st _ => match lo with
      | some lo => match hi with
        | some _ => none
        | none => match st with
          | some _ => none
          | none => bind2 dropV (evB' b σ (evE O b false σ)) (evE O lo false σ)
      | none => match hi with
        | some hi => match st with
          | some _ => none
          | none => bind2 takeV (evB' b σ (evE O b false σ)) (evE O hi false σ)
        | none => match st with
          | some st => bind2 revV (evB' b σ (evE O b false σ)) (evE O st false σ)
          | none => none
    | i => bind2 idxV (evB' b σ (evE O b false σ)) (evE O i false σ)
  | .Call f args kws _, it, σ => match kws with
    | [] => (nameOf f).bind fun f => callV O it f (evL O args σ) (evLen O args σ)
    | _ :: _ => none
  | .ListComp elt gens scope _, _, σ => (evC O gens (evE O elt false) scope σ).bind okLV
  | _, _, _ => none
noncomputable def evT (O : Orc) : Expr → Sto → Option Bool
  | .UnaryOp op x _, σ => match op with
    | .Not => (evT O x σ).map (!·)
    | _ => none
  | .BoolOp op vs _, σ => evTs O op vs σ
  | .Compare l ops rs _, σ => (oneOf ops).bind fun op => bind2 (cmpV op) (evE O l false σ) ((evL O rs σ).bind oneOf)
  | .Call f args kws _, σ => match kws with
    | [] => (nameOf f).bind fun f => if f = "len" ∨ f = "range" ∨ f = "enumerate" then none else ((evL O args σ).bind (O f)).bind boolOf
    | _ :: _ => none
  | _, _ => none
noncomputable def evTs (O : Orc) : BoolOp → List Expr → Sto → Option Bool
  | op, [], _ => some (op == .And)
  | op, x :: r, σ => (evT O x σ).bind fun b => boolQ op b (evTs O op r σ)
noncomputable def evBs (O : Orc) : BoolOp → List Expr → Sto → Option Bool
  | _, [], _ => none
  | op, x :: r, σ => ((evE O x false σ).bind boolOf).bind fun b => match r with
    | [] => some b
    | _ :: _ => boolQ op b (evBs O op r σ)
noncomputable def evL (O : Orc) : List Expr → Sto → Option (List PyData)
  | [], _ => some []
  | e :: r, σ => bind2 consO (evE O e false σ) (evL O r σ)
noncomputable def evLen (O : Orc) : List Expr → Sto → Option PyData
  | [], _ => none
  | a :: r, σ => match r with
    | [] => (evB' a σ (evE O a false σ)).bind lenV
    | _ :: _ => none
noncomputable def evC (O : Orc) : List Comprehension → (Sto → Option PyData) → Scope → Sto → Option (List PyData)
  | [], _, _, _ => none
  | ⟨t, i, ifs, _⟩ :: gs, elt, scope, σ => compB t (evTs O .And ifs) (evG O gs elt) (compSto scope σ) (evE O i true σ)
noncomputable def evG (O : Orc) : List Comprehension → (Sto → Option PyData) → Sto → Option (List PyData)
  | [], elt, τ => (elt τ).map ([·])
  | ⟨t, i, ifs, _⟩ :: gs, elt, τ => compB t (evTs O .And ifs) (evG O gs elt) τ (evE O i true τ)
end
end Mine
end
noncomputable section
open PySem PySem.W PyProof.Rows PySem.Calls PySem.Spec
set_option Elab.async false
namespace Mine

noncomputable abbrev NoE : Value → Shared → Prop := fun _ _ => False
structure Room (A : Around) (n : Nat) : Prop where
  h : A.handled = none
  d : A.depth + n < 900
  u : A.units + 4 * n + 100 < cLine
theorem Room.mono {A : Around} {n m : Nat} (r : Room A n) (h : m ≤ n) : Room A m := ⟨r.h, by have := r.d; lia, by have := r.u; lia⟩
noncomputable abbrev Pres (X : Addr → Prop) (h : Heap) : Prop := ∀ a, X a → ∃ o, h.get? a = some o
theorem Pres.up {X : Addr → Prop} {h h' : Heap} (p : Pres X h) (k : HLe h h') : Pres X h' := fun a x => let ⟨o, e⟩ := p a x; ⟨o, k a o e⟩
theorem Pres.fresh {X : Addr → Prop} {h : Heap} (p : Pres X h) : ¬ X h.objs.size := fun x => let ⟨_, e⟩ := p _ x; Nat.lt_irrefl _ (Heap.lt_size e)
theorem keeps_refl (s : Shared) : Keeps s s := ⟨s.heap, s.toks, rfl, fun _ _ e => e⟩
theorem kle {s s' : Shared} (k : Keeps s s') : HLe s.heap s'.heap := by (refine e2_2 ?_ k; clear k; intro h t zz1 k; subst zz1); exact k
theorem ktr {a b c : Shared} (x : Keeps a b) (y : Keeps b c) : Keeps a c := by
  (refine e2_2 ?_ x; clear x; intro h t zz1 k; subst zz1); (refine e2_2 ?_ y; clear y; intro h' t' zz1 k'; subst zz1); exact ⟨h', t', rfl, fun b o e => k' b o (k b o e)⟩
theorem keeps_toks (s : Shared) (t : Nat) : Keeps s { s with toks := t } := ⟨s.heap, t, rfl, fun _ _ e => e⟩
theorem keeps_push (s : Shared) (o : Obj) (t : Nat) : Keeps s { s with heap := s.heap.push o, toks := t } := ⟨_, t, rfl, fun _ _ e => Heap.get?_push_of_some _ e⟩
theorem keeps_push' (s : Shared) (o : Obj) : Keeps s { s with heap := s.heap.push o } := ⟨_, s.toks, rfl, fun _ _ e => Heap.get?_push_of_some _ e⟩
theorem keeps_heap (s : Shared) (h : Heap) (t : Nat) (k : HLe s.heap h) : Keeps s { s with heap := h, toks := t } := ⟨h, t, rfl, k⟩

theorem push_list {X : Addr → Prop} {h : Heap} {vs : List Value} {xs : List PyData} (p : Pres X h) (r : RpA X h vs xs) : Rp X (h.push (listOf vs.toArray 0)) (.ref h.objs.size) (.list xs) :=
  .list p.fresh (Heap.get?_push_size _ rfl) (r.up fun _ _ e => Heap.get?_push_of_some _ e)
theorem push_tup {X : Addr → Prop} {h : Heap} {vs : List Value} {xs : List PyData} (p : Pres X h) (r : RpA X h vs xs) : Rp X (h.push (tupOf vs.toArray 0)) (.ref h.objs.size) (.tuple xs) :=
  .tuple p.fresh ⟨_, Heap.get?_push_size _ rfl, rfl, 0, rfl⟩ (r.up fun _ _ e => Heap.get?_push_of_some _ e)

theorem isList_of {h : Heap} {a : Addr} {vs : List Value} {n : Nat} (e : h.get? a = some (listOf vs.toArray n)) : h.IsList a vs.toArray := ⟨_, e, rfl, n, rfl⟩
theorem isTup_of {h : Heap} {a : Addr} {vs : List Value} {n : Nat} (e : h.get? a = some (tupOf vs.toArray n)) : h.IsTuple a vs.toArray := ⟨_, e, rfl, n, rfl⟩

theorem smallI_iff {a : Int} : smallI a = true ↔ -(2 ^ 62) < a ∧ a < 2 ^ 62 := by
  simp only [smallI, Nat.ble_eq]
  lia
theorem lenOk_iff {n : Nat} : lenOk n = true ↔ n ≤ 1048576 := by simp [lenOk]
theorem bits_small {a : Int} (h : smallI a = true) : Builtin.Int.intBits a ≤ 64 := by
  (refine e0_2 ?_ (smallI_iff.mp h); intro h1 h2)
  exact intBits_le_64 (by lia) (by lia)
theorem lenOk_line {n : Nat} (h : lenOk n = true) : n ≤ sizeLine := by rw [sizeLine_eq]; have := lenOk_iff.mp h; lia

theorem foldl_rep (xs : List Value) : ∀ (n : Nat) (acc : Array Value), List.foldl (fun x y => x ++ y) acc (List.replicate n xs.toArray) = acc ++ (List.replicate n xs).flatten.toArray
  | 0, acc => by simp
  | n + 1, acc => by
    rw [List.replicate_succ, List.foldl_cons, foldl_rep xs n, List.replicate_succ, List.flatten_cons]
    simp [Array.append_assoc]

section
variable {prog : Program} {w : World} {A : Around} {s : Shared} {X : Addr → Prop}

theorem s_addList {a b : Addr} {vs ws : List Value} {n m : Nat} {xs ys : List PyData} {E : Value → Shared → Prop} (p : Pres X s.heap) (ha : s.heap.get? a = some (listOf vs.toArray n)) (hb : s.heap.get? b = some (listOf ws.toArray m))
    (r : RpA X s.heap vs xs) (q : RpA X s.heap ws ys) (hl : lenOk (xs.length + ys.length) = true) :
    wpAny (model prog w) A (binaryOp .Add (.ref a) (.ref b)) (fun v s' => Keeps s s' ∧ Rp X s'.heap v (.list (xs ++ ys))) E s := by
  have hsz : vs.toArray.size + ws.toArray.size ≤ sizeLine := by
    rw [List.size_toArray, List.size_toArray, r.length, q.length]; exact lenOk_line hl
  refine concat_meets ⟨_, ha, rfl⟩ ⟨_, hb, rfl⟩ noFill_list_add seq_list_add PySem.F.slot_list_add PySem.F.entry_list_add (PySem.F.args_list_add_2 _ _) (AutoSeq1.list___add___list_list_0 a vs.toArray n b ws.toArray m hsz) ⟨ha, hb, ?_⟩
  have e : vs.toArray ++ ws.toArray = (vs ++ ws).toArray := by simp
  rw [e]
  exact ⟨keeps_push _ _ _, push_list p (r.append q)⟩

theorem s_mulList {a : Addr} {k : Int} {t : Tok} {vs : List Value} {n : Nat} {xs : List PyData} {E : Value → Shared → Prop} (ha : s.heap.get? a = some (listOf vs.toArray n))
    (r : RpA X s.heap vs xs) (hk : smallI k = true) (hl : lenOk (xs.length * k.toNat) = true) :
    wpAny (model prog w) A (binaryOp .Mult (.ref a) (.int k t)) (fun v s' => v = .ref s.heap.objs.size ∧ s' = { s with heap := s.heap.push (listOf (List.replicate k.toNat vs).flatten.toArray 0) }) E s := by
  (refine e0_2 ?_ (smallI_iff.mp hk); intro h1 h2)
  have hlen : vs.length * k.toNat ≤ 1048576 := by rw [r.length]; exact lenOk_iff.mp hl
  refine wpAny_binaryOp_repeat_ref (T := "list") (U := "int") (by decide) ⟨_, ha, rfl⟩ (fun s' => typeIs_int s' k t) noFill_list_mul F.fills_int_mul F.slot_int_rmul repeat_list F.slot_int_index.lookup
    (call_meets F.slot_int_rmul (typeIs_int s k t) F.entry_int_rmul (F.args_int_rmul_2 _ _) (int___rmul___int_list k t a vs.toArray n)
      ⟨ha, rfl, ⟨_, ha, rfl⟩, call_meets F.slot_list_mul ⟨_, ha, rfl⟩ F.entry_list_mul (F.args_list_mul_2 _ _)
        (AutoListH.list___mul___list_int_3 a vs.toArray n k t (by simp [Builtin.List.listFitsIndex]; lia) (by simp only [List.size_toArray]; lia) (by simp [Builtin.List.listTooLong, sizeLine]; lia))
        ⟨ha, ?_⟩⟩)
  have e : List.foldl (fun x1 x2 => x1 ++ x2) #[] (List.replicate (if vs.toArray.isEmpty = true then 0 else k.toNat) vs.toArray) = (List.replicate k.toNat vs).flatten.toArray := by
    by_cases hv : vs = []
    · subst hv
      have : (List.replicate k.toNat ([] : List Value)).flatten = [] := by simp
      simp [this]
    · have hv' : vs.toArray.isEmpty = false := by simpa using hv
      rw [hv', if_neg (by decide), foldl_rep]; simp
  show _ ∧ _
  refine ⟨rfl, ?_⟩
  rw [e]

theorem int_v {h : Heap} {v : Value} {i : Int} {G : Value → Prop} (k : ∀ t, G (.int i t)) : Rp X h v (.int i) → G v := by intro r; cases r; exact k _
theorem lst_v {h : Heap} {v : Value} {xs : List PyData} {G : Value → Prop} (k : ∀ a vs n, ¬ X a → h.get? a = some (listOf vs.toArray n) → RpA X h vs xs → G (.ref a)) : Rp X h v (.list xs) → G v := by
  intro r; cases r with | list x g q => exact k _ _ _ x g q
theorem bool_v {h : Heap} {v : Value} {b : Bool} {G : Value → Prop} (k : G (.bool b)) : Rp X h v (.bool b) → G v := by intro r; cases r; exact k
theorem none_v {h : Heap} {v : Value} {G : Value → Prop} (k : G .none) : Rp X h v .none → G v := by intro r; cases r; exact k
theorem cons_v {h : Heap} {vs : List Value} {d : PyData} {ds : List PyData} {G : List Value → Prop} (k : ∀ v vs, Rp X h v d → RpA X h vs ds → G (v :: vs)) : RpA X h vs (d :: ds) → G vs := by intro r; cases r with | cons a q => exact k _ _ a q
theorem nil_v {h : Heap} {vs : List Value} {G : List Value → Prop} (k : G []) : RpA X h vs [] → G vs := by intro r; cases r; exact k
theorem one_inv {h : Heap} {vs : List Value} {d : PyData} (r : RpA X h vs [d]) : ∃ v, vs = [v] ∧ Rp X h v d := by
  revert r; apply cons_v; intro v vs r; apply nil_v; exact ⟨v, rfl, r⟩
theorem two_inv {h : Heap} {vs : List Value} {d e : PyData} (r : RpA X h vs [d, e]) : ∃ v u, vs = [v, u] ∧ Rp X h v d ∧ Rp X h u e := by
  revert r; apply cons_v; intro v vs r; apply cons_v; intro u vs q; apply nil_v; exact ⟨v, u, rfl, r, q⟩
theorem lst_inv {h : Heap} {v : Value} {xs : List PyData} (r : Rp X h v (.list xs)) : ∃ a vs n, v = .ref a ∧ ¬ X a ∧ h.get? a = some (listOf vs.toArray n) ∧ RpA X h vs xs := by
  revert r; apply lst_v; intro a vs n x g q; exact ⟨a, vs, n, rfl, x, g, q⟩
theorem lst_at {h : Heap} {a : Addr} {xs : List PyData} (r : Rp X h (.ref a) (.list xs)) : ∃ vs n, h.get? a = some (listOf vs.toArray n) ∧ RpA X h vs xs := by
  cases r with | list _ g q => exact ⟨_, _, g, q⟩
theorem cons_inv {h : Heap} {vs : List Value} {d : PyData} {ds : List PyData} (r : RpA X h vs (d :: ds)) : ∃ v vs', vs = v :: vs' ∧ Rp X h v d ∧ RpA X h vs' ds := by
  revert r; apply cons_v; intro v vs r q; exact ⟨v, vs, rfl, r, q⟩
theorem int_inv {h : Heap} {v : Value} {i : Int} (r : Rp X h v (.int i)) : ∃ t, v = .int i t := by
  revert r; apply int_v; intro t; exact ⟨t, rfl⟩
theorem int_d {h : Heap} {v : Value} {d : PyData} {i : Int} {G : Value → Prop} (k : ∀ t, G (.int i t)) (r : Rp X h v d) : intOf d = some i → G v := by
  revert r
  exact fun r e => int_r (G := fun d => Rp X h v d → G v) (int_v k) e r
theorem lst_d {h : Heap} {v : Value} {d : PyData} {xs : List PyData} {G : Value → Prop} (k : ∀ a vs n, ¬ X a → h.get? a = some (listOf vs.toArray n) → RpA X h vs xs → G (.ref a)) (r : Rp X h v d) : listOfD d = some xs → G v := by
  revert r
  exact fun r e => lst_r (G := fun d => Rp X h v d → G v) (lst_v k) e r
theorem ii_v {h : Heap} {γ : Type} {va vb : Value} {a b : PyData} {f : Int → Int → Option γ} {r : γ} {G : Value → Value → Prop} (k : ∀ i j t u, f i j = some r → G (.int i t) (.int j u)) (ha : Rp X h va a) (hb : Rp X h vb b) : bind2 f (intOf a) (intOf b) = some r → G va vb :=
  bind2_r fun i j h1 h2 e => int_d (G := fun v => G v vb) (fun t => int_d (G := fun v => G (.int i t) v) (fun u => k i j t u e) hb h2) ha h1

theorem isNone_d {h : Heap} {v : Value} {d : PyData} {G : Value → Prop} (k : G .none) : Rp X h v d → isNoneV d = true → G v := fun r e =>
  isNone_r (G := fun d => Rp X h v d → G v) (none_v k) e r
theorem s_bin {op : Operator} {va vb : Value} {a b r : PyData} (he : binV op a b = some r) (p : Pres X s.heap) (ha : Rp X s.heap va a) (hb : Rp X s.heap vb b) :
    wpAny (model prog w) A (binaryOp op va vb) (fun v s' => Keeps s s' ∧ Rp X s'.heap v r) NoE s := by
  revert he
  cases op with
  | Add =>
    refine alt_r ?_ (bind2_r fun xs ys h1 h2 => ?_)
    · revert ha hb; apply ii_v; intro i j t u; apply sm_r
      exact add_int ⟨keeps_toks _ _, .int _ _⟩
    · apply ifs_r; intro hl
      revert ha h1; apply lst_d; intro _ _ _ _ g q
      revert hb h2; apply lst_d; intro _ _ _ _ g' q'
      exact s_addList p g g' q q' hl
  | Sub => revert ha hb; apply ii_v; intro i j t u; apply sm_r; exact sub_int ⟨keeps_toks _ _, .int _ _⟩
  | Mult =>
    refine alt_r ?_ (bind2_r fun xs k h1 h2 => ?_)
    · revert ha hb; apply ii_v; intro i j t u; apply ifs_r; intro h
      exact mul_int ⟨keeps_toks _ _, .int _ _⟩ (.of_right (bits_small h))
    · apply ifs_r; intro h
      revert ha h1; apply lst_d; intro _ _ _ _ g q
      revert hb h2; apply int_d; intro t
      refine wpAny_mono (s_mulList g q h.1 h.2) (fun v s' x => ?_) fun _ _ x => x
      rw [x.1, x.2]
      exact ⟨keeps_push' _ _, push_list p (q.rep _)⟩
  | FloorDiv =>
    revert ha hb; apply ii_v; intro i j t u; apply ifs_r; intro h
    exact floordiv_int h.1 ⟨keeps_toks _ _, .int _ _⟩ (.inl (PyProof.noPylong_small h.2))
  | Mod => revert ha hb; apply ii_v; intro i j t u; apply ifs_r; intro h; exact mod_int' h ⟨keeps_toks _ _, .int _ _⟩
  | Pow =>
    revert ha hb; apply ii_v; intro i j t u; apply ifs_r; intro h
    refine pow_int h.2.1 ?_ ⟨keeps_toks _ _, .int _ _⟩
    have h1 := Int.ofNat_le.mpr (bits_small h.1)
    exact Int.le_trans (Int.mul_le_mul h1 h.2.2 h.2.1 (by decide)) (by decide)
  | _ => exact none_r

theorem s_neg {v : Value} {i : Int} (h : Rp X s.heap v (.int i)) : wpAny (model prog w) A (unaryOp .USub v) (fun v s' => Keeps s s' ∧ Rp X s'.heap v (.int (-i))) NoE s := by
  revert h
  apply int_v; intro _
  exact neg_int ⟨keeps_toks _ _, .int _ _⟩

theorem s_cmp {op : CmpOp} {va vb : Value} {a b : PyData} {r : Bool} (he : cmpV op a b = some r) (hu : A.units + 64 < cLine) (ha : Rp X s.heap va a) (hb : Rp X s.heap vb b) :
    wpAny (model prog w) A (compareOp op va vb) (fun v s' => v = .bool r ∧ Keeps s s') NoE s := by
  revert he
  cases op with
  | Eq =>
    apply ifs_r; intro h
    (refine e0_2 ?_ (Bool.and_eq_true_iff.mp h); intro h1 h2)
    (refine e1_1 ?_ ha.reads; intro _ ra); (refine e1_1 ?_ hb.reads; intro _ rb)
    exact eq_dataH ra rb h1 h2 hu ⟨rfl, keeps_refl _⟩
  | NotEq =>
    apply ifs_r; intro h
    (refine e0_2 ?_ (Bool.and_eq_true_iff.mp h); intro h1 h2)
    (refine e1_1 ?_ ha.reads; intro _ ra); (refine e1_1 ?_ hb.reads; intro _ rb)
    exact ne_dataH ra rb h1 h2 hu ⟨rfl, keeps_refl _⟩
  | Lt => revert ha hb; apply ii_v; intro i j t u; apply sm_r; exact lt_int ⟨rfl, keeps_refl _⟩
  | Gt => revert ha hb; apply ii_v; intro i j t u; apply sm_r; exact gt_int ⟨rfl, keeps_refl _⟩
  | LtE => revert ha hb; apply ii_v; intro i j t u; apply sm_r; exact le_int ⟨rfl, keeps_refl _⟩
  | GtE => revert ha hb; apply ii_v; intro i j t u; apply sm_r; exact ge_int ⟨rfl, keeps_refl _⟩
  | Is =>
    apply ifs_r; intro h
    revert h hb; apply isNone_d
    cases ha <;> exact wpAny_is_plain rfl ⟨rfl, keeps_refl _⟩
  | IsNot =>
    apply ifs_r; intro h
    revert h hb; apply isNone_d
    cases ha <;> exact wpAny_isNot_plain rfl ⟨rfl, keeps_refl _⟩
  | _ => exact none_r

/-- what an index looks into -/
noncomputable def LT (X : Addr → Prop) (h : Heap) (v : Value) (d : PyData) : Prop := (∃ l vs n xs, v = .ref l ∧ d = .list xs ∧ h.get? l = some (listOf vs.toArray n) ∧ RpA X h vs xs) ∨ (∃ l vs xs, v = .ref l ∧ d = .tuple xs ∧ h.IsTuple l vs.toArray ∧ RpA X h vs xs)
theorem s_idx {va vb : Value} {a b r : PyData} (he : idxV a b = some r) (ha : LT X s.heap va a)
    (hb : Rp X s.heap vb b) : wpAny (model prog w) A (getItem va vb) (fun v s' => Keeps s s' ∧ Rp X s'.heap v r) NoE s := by
  revert he
  refine alt_r (bind2_r fun xs k h1 h2 => if_r fun hs he => ?_) (bind2_r fun xs k h1 h2 => if_r fun hs => if_r fun h0 he => ?_)
  · revert hb h2
    apply int_d; intro t
    rcases ha with ⟨l, vs, n, ys, e1, e2, hl, q⟩ | ⟨l, vs, ys, e1, e2, hl, q⟩
    · rw [e2] at h1
      have e := Option.some.inj h1
      rw [e] at q
      rw [e1]
      have hlen := lenOk_iff.mp hs
      have hvl := q.length
      by_cases h0 : 0 ≤ k
      · rw [if_pos h0] at he
        (refine e1_2 ?_ (q.get _ _ he); intro v hv rv)
        have hlt := (List.getElem?_eq_some_iff.mp he).1
        exact wpAny_getItem_list (isList_of hl) h0 (by lia) (by simpa using hv) ⟨keeps_refl _, rv⟩
      · rw [if_neg h0] at he
        revert he
        refine if_r fun h1 he => ?_
        (refine e1_2 ?_ (q.get _ _ he); intro v hv rv)
        exact wpAny_getItem_list_neg (isList_of hl) (by lia) (by rw [List.size_toArray, hvl]; lia) (by lia) (x := v) (by simpa [hvl] using hv) ⟨keeps_refl _, rv⟩
    · rw [e2] at h1; exact none_e h1
  · revert hb h2
    apply int_d; intro t
    rcases ha with ⟨l, vs, n, ys, e1, e2, hl, q⟩ | ⟨l, vs, ys, e1, e2, hl, q⟩
    · rw [e2] at h1; exact none_e h1
    · rw [e2] at h1
      have e := Option.some.inj h1
      rw [e] at q
      rw [e1]
      have hlen := lenOk_iff.mp hs
      (refine e1_2 ?_ (q.get _ _ he); intro v hv rv)
      have hlt := (List.getElem?_eq_some_iff.mp he).1
      have hvl := q.length
      refine getItem_tuple hl (by lia) (by lia) (j := k.toNat) ?_ (by simpa using hv) ⟨keeps_refl _, rv⟩
      have hk : ¬ k < 0 := by lia
      simp only [seqIndex?, if_neg hk, List.size_toArray]
      rw [if_pos (by simp; lia)]
end
end Mine
end
noncomputable section
open PySem PySem.W PyProof.Rows PySem.Calls PySem.Spec
set_option Elab.async false
namespace Mine

/-- s' is s but for objects at W (new ones aside) -/
noncomputable def Ch (W : Addr → Prop) (s s' : Shared) : Prop := ∃ h tk, s' = { s with heap := h, toks := tk } ∧ ∀ b o, ¬ W b → s.heap.get? b = some o → h.get? b = some o
theorem Ch.at {W : Addr → Prop} {s s' : Shared} (c : Ch W s s') {b : Addr} {o : Obj} (x : ¬ W b) (e : s.heap.get? b = some o) : s'.heap.get? b = some o := by
  (refine e2_2 ?_ c; clear c; intro h t zz1 k; subst zz1); exact k b o x e
theorem Ch.refl (W : Addr → Prop) (s : Shared) : Ch W s s := ⟨s.heap, s.toks, rfl, fun _ _ _ e => e⟩
theorem kch {s s' : Shared} (k : Keeps s s') (W : Addr → Prop) : Ch W s s' := by (refine e2_2 ?_ k; clear k; intro h t zz1 k; subst zz1); exact ⟨h, t, rfl, fun b o _ e => k b o e⟩
theorem Ch.tr {W W' W'' : Addr → Prop} {a b c : Shared} (x : Ch W a b) (y : Ch W' b c) (h : ∀ d o, ¬ W'' d → a.heap.get? d = some o → ¬ W d ∧ ¬ W' d) : Ch W'' a c := by
  (refine e2_2 ?_ x; clear x; intro h1 t1 zz1 k1; subst zz1); (refine e2_2 ?_ y; clear y; intro h2 t2 zz1 k2; subst zz1)
  exact ⟨h2, t2, rfl, fun b o nb e => k2 b o (h b o nb e).2 (k1 b o (h b o nb e).1 e)⟩
theorem Ch.mono {W W' : Addr → Prop} {a b : Shared} (x : Ch W a b) (h : ∀ d, W d → W' d) : Ch W' a b := by
  (refine e2_2 ?_ x; clear x; intro h1 t1 zz1 k1; subst zz1)
  exact ⟨h1, t1, rfl, fun b o nb e => k1 b o (fun w => nb (h b w)) e⟩
theorem Ch.keeps {W : Addr → Prop} {a b : Shared} (x : Ch W a b) (h : ∀ d o, a.heap.get? d = some o → ¬ W d) : Keeps a b := by
  (refine e2_2 ?_ x; clear x; intro h1 t1 zz1 k1; subst zz1)
  exact ⟨h1, t1, rfl, fun b o e => k1 b o (h b o e) e⟩
theorem ch_heap {W : Addr → Prop} (s : Shared) (h : Heap) (t : Nat) (k : ∀ b o, ¬ W b → s.heap.get? b = some o → h.get? b = some o) : Ch W s { s with heap := h, toks := t } := ⟨h, t, rfl, k⟩

structure Its (prog : Program) (w : World) (A : Around) (X : Addr → Prop) (target : Expr) (I : Addr) (wr : List Addr) (items : List PyData) (St : Nat → Heap → Prop) : Prop where
  wrX : ∀ b ∈ wr, X b
  pres : ∀ i h, St i h → ∀ b ∈ wr, ∃ o, h.get? b = some o
  frame : ∀ i (h h' : Heap), St i h → (∀ b o, (¬ X b ∨ b ∈ wr) → h.get? b = some o → h'.get? b = some o) → St i h'
  item : ∀ i d (s : Shared), items[i]? = some d → St i s.heap → Pres X s.heap →
    wpAny (model prog w) A (pyNext (.ref I)) (fun r s₁ => ∃ v, r = some v ∧ wpAny (model prog w) A (letOwnedTupleGo target (.ref I) v) (fun _ s₂ => Ch (· ∈ wr) s s₂ ∧ Rp X s₂.heap v d ∧ St (i + 1) s₂.heap) NoE s₁) NoE s
  done : ∀ (s : Shared), St items.length s.heap → wpAny (model prog w) A (pyNext (.ref I)) (fun r s₁ => r = none ∧ Ch (· ∈ wr) s s₁) NoE s
  self : ∀ i (s : Shared), St i s.heap → wpAny (model prog w) A (pyIter (.ref I)) (fun it s' => it = .ref I ∧ s' = s) NoE s

section
variable {prog : Program} {w : World} {A : Around} {X : Addr → Prop}

theorem letGo_name {x : Str} {p : Pos} {it v : Value} {s : Shared} {Q : Unit → Shared → Prop} {E : Value → Shared → Prop} (h : Q () s) : wpAny (model prog w) A (letOwnedTupleGo (.Name x p) it v) Q E s :=
  wpAny_of_eq (show letOwnedTupleGo (.Name x p) it v = pure () by rfl) h

theorem letGo_list {target : Expr} (ht : (∃ x p, target = .Name x p) ∨ ∃ es k p, target = .Tuple es k p) {I l : Addr} {i : Nat} {v : Value} {d : PyData} {s : Shared} {Q : Unit → Shared → Prop} (r : Rp X s.heap v d)
    (hit : s.heap.IsListIter I l i) (h : Q () s) : wpAny (model prog w) A (letOwnedTupleGo target (.ref I) v) Q NoE s := by
  rcases ht with ⟨x, p, rfl⟩ | ⟨es, k, p, rfl⟩
  · exact letGo_name h
  · cases r <;> first | exact wpAny_letOwnedTupleGo_listiter hit h | exact wpAny_of_eq (by rfl) h

theorem its_list {target : Expr} (ht : (∃ x p, target = .Name x p) ∨ ∃ es k p, target = .Tuple es k p) (hh : A.handled = none) {I l : Addr} {vs : List Value} {n : Nat} {items : List PyData}
    (hI : X I) (hl : ¬ X l) :
    Its prog w A X target I [I] items (fun i h => h.IsListIter I l i ∧ h.get? l = some (listOf vs.toArray n) ∧ RpA X h vs items) where
  wrX := fun b hb => by rw [List.mem_singleton.mp hb]; exact hI
  pres := fun i h st b hb => by rw [List.mem_singleton.mp hb]; (refine e1_2 ?_ st.1; intro o ho _); exact ⟨o, ho⟩
  frame := fun i h h' st k => ⟨st.1.at fun o e => k I o (.inr (by simp)) e, k l _ (.inl hl) st.2.1, st.2.2.to fun a o x e => ⟨x, k a o (.inl x) e⟩⟩
  item := fun i d s hd st p => by
    (refine e1_2 ?_ (st.2.2.get i d hd); intro v hv rv)
    have hne : l ≠ I := fun e => hl (e ▸ hI)
    refine wpAny_pyNext_list_item st.1 (isList_of st.2.1) (x := v) (by simpa using hv) fun h' hit hs => ?_
    have k : ∀ a o, ¬ X a → s.heap.get? a = some o → h'.get? a = some o := fun a o x e => (hs.2 a (fun e' => x (e' ▸ hI))).trans e
    have rv' : Rp X h' v d := rv.to fun a o x e => ⟨x, k a o x e⟩
    refine ⟨v, rfl, letGo_list (s := { s with heap := h' }) (d := d) ht rv' hit ⟨ch_heap s h' s.toks fun b o nb e => (hs.2 b (fun e' => nb (by simp [e']))).trans e, rv', hit, k l _ hl st.2.1, st.2.2.to fun a o x e => ⟨x, k a o x e⟩⟩⟩
  done := fun s st => by
    have hlen := st.2.2.length
    refine wpAny_pyNext_list_end hh st.1 (isList_of st.2.1) (by simp [hlen]) fun h' he => ⟨rfl, ch_heap s h' s.toks fun b o nb e => he b o (fun e' => nb (by simp [e'])) e⟩
  self := fun i s st => wpAny_pyIter_listiter st.1 ⟨rfl, rfl⟩

theorem its_range {x : Str} {p : Pos} (hh : A.handled = none) {I : Addr} {a c : Int} {n : Nat} (hI : X I) :
    Its prog w A X (.Name x p) I [I] ((List.range n).map fun (i : Nat) => PyData.int (a + (i : Int) * c)) (fun i h => IsRangeIter h I (a + (i : Nat) * c) ((n : Int) - (i : Nat)) c) where
  wrX := fun b hb => by rw [List.mem_singleton.mp hb]; exact hI
  pres := fun i h st b hb => by rw [List.mem_singleton.mp hb]; exact ⟨_, st⟩
  frame := fun i h h' st k => k I _ (.inr (by simp)) st
  item := fun i d s hd st p => by
    have hin : i < n := by
      have := (List.getElem?_eq_some_iff.mp hd).1; simpa using this
    have hd' : d = .int (a + (i : Int) * c) := by
      rw [List.getElem?_map, List.getElem?_range hin] at hd; exact (Option.some.inj hd).symm
    subst hd'
    refine wpAny_pyNext_range_item st (by lia) fun h' hit hs => ?_
    have e1 : a + ((i + 1 : Nat) : Int) * c = a + (i : Int) * c + c := by push_cast; rw [Int.add_mul, Int.one_mul, Int.add_assoc]
    have e2 : (n : Int) - ((i + 1 : Nat) : Int) = (n : Int) - (i : Int) - 1 := by push_cast; lia
    refine ⟨_, rfl, letGo_name ⟨ch_heap s h' _ fun b o nb e => (hs.2 b (fun e' => nb (by simp [e']))).trans e, .int _ _, ?_⟩⟩
    rw [e1, e2]; exact hit
  done := fun s st => by
    have hl : ((List.range n).map fun (i : Nat) => PyData.int (a + (i : Int) * c)).length = n := by simp
    rw [hl] at st
    exact wpAny_pyNext_range_end hh st (by lia) fun h' he => ⟨rfl, ch_heap s h' s.toks fun b o nb e => he b o (fun e' => nb (by simp [e'])) e⟩
  self := fun i s st => wpAny_pyIter_rangeiter st ⟨rfl, rfl⟩

theorem enumL_get : ∀ (xs : List PyData) (k i : Nat) (d : PyData), (enumL k xs)[i]? = some d → ∃ x, xs[i]? = some x ∧ d = .tuple [.int ((k + i : Nat) : Int), x]
  | [], _, _, _, h => by simp [enumL] at h
  | x :: xs, k, 0, d, h => by simp [enumL] at h; exact ⟨x, by simp, by simpa using h.symm⟩
  | x :: xs, k, i + 1, d, h => by
    (refine e1_2 ?_ (enumL_get xs (k + 1) i d (by simpa [enumL] using h)); intro y h1 h2)
    exact ⟨y, by simpa using h1, by rw [h2, Nat.add_assoc, Nat.add_comm 1 i]⟩
theorem enumL_length : ∀ (xs : List PyData) (k : Nat), (enumL k xs).length = xs.length
  | [], _ => rfl
  | _ :: xs, k => by simp [enumL, enumL_length xs (k + 1)]

theorem its_enum {es : List Expr} {k : Nat} {p : Pos} (hh : A.handled = none) {e it l : Addr} {vs : List Value} {n : Nat} {xs : List PyData}
    (hE : X e) (hI : X it) (hl : ¬ X l) (hei : e ≠ it) :
    Its prog w A X (.Tuple es k p) e [e, it] (enumL 0 xs) (fun i h => (∃ old, IsEnum h e it i old) ∧ h.IsListIter it l i ∧ h.get? l = some (listOf vs.toArray n) ∧ RpA X h vs xs) where
  wrX := fun b hb => by
    rcases List.mem_cons.mp hb with rfl | hb
    · exact hE
    · rw [List.mem_singleton.mp hb]; exact hI
  pres := fun i h st b hb => by
    (refine e0_3 ?_ st; clear st; intro zz1 zz2 _; refine e1_1 ?_ zz1; clear zz1; intro _ h1; refine e1_2 ?_ zz2; clear zz2; intro o h2 _)
    rcases List.mem_cons.mp hb with rfl | hb
    · exact ⟨_, h1⟩
    · rw [List.mem_singleton.mp hb]; exact ⟨o, h2⟩
  frame := fun i h h' st k => by
    (refine e0_4 ?_ st; clear st; intro zz1 h2 h3 h4; refine e1_1 ?_ zz1; clear zz1; intro old h1)
    exact ⟨⟨old, k e _ (.inr (by simp)) h1⟩, h2.at fun o x => k it o (.inr (by simp)) x, k l _ (.inl hl) h3, h4.to fun a o x e => ⟨x, k a o (.inl x) e⟩⟩
  item := fun i d s hd st pr => by
    (refine e0_4 ?_ st; clear st; intro zz1 h2 h3 h4; refine e1_1 ?_ zz1; clear zz1; intro old h1)
    (refine e1_2 ?_ (enumL_get xs 0 i d hd); intro x hx zz1; subst zz1)
    (refine e1_2 ?_ (h4.get i x hx); intro v hv rv)
    refine wpAny_pyNext_enum_item h1 h2 (isList_of h3) (x := v) (by simpa using hv) hei fun h' ho hit' hT hsz hk => ?_
    have nT : ¬ X s.heap.objs.size := pr.fresh
    refine ⟨_, rfl, wpAny_letOwnedTupleGo_enum ho fun h'' he'' hs'' => ?_⟩
    have hkk : ∀ b o, b ≠ e → b ≠ it → s.heap.get? b = some o → h''.get? b = some o := fun b o b1 b2 eb => (hs''.2 b b1).trans (hk b o b1 b2 eb)
    have kX : ∀ a o, ¬ X a → s.heap.get? a = some o → h''.get? a = some o := fun a o x e' => hkk a o (fun q => x (q ▸ hE)) (fun q => x (q ▸ hI)) e'
    have hTe : s.heap.objs.size ≠ e := fun q => nT (q ▸ hE)
    refine ⟨ch_heap s h'' _ fun b o nb eb => hkk b o (fun q => nb (by simp [q])) (fun q => nb (by simp [q])) eb, ?_, ⟨v, ?_⟩, hit'.at fun o y => (hs''.2 it hei.symm).trans y, kX l _ hl h3, h4.to fun a o x e => ⟨x, kX a o x e⟩⟩
    · refine .tuple (vs := [.int i s.toks, v]) nT ⟨_, (hs''.2 _ hTe).trans hT, rfl, 0, rfl⟩ (.cons (by simpa using Rp.int _ _) (.cons (rv.to fun a o x e => ⟨x, kX a o x e⟩) .nil))
    · have : ((i + 1 : Nat) : Int) = (i : Int) + 1 := by push_cast; rfl
      rw [this]; exact he''
  done := fun s st => by
    (refine e0_4 ?_ st; clear st; intro zz1 h2 h3 h4; refine e1_1 ?_ zz1; clear zz1; intro old h1)
    rw [enumL_length] at h1 h2
    have hlen := h4.length
    exact wpAny_pyNext_enum_end hh h1 h2 (isList_of h3) (by simp [hlen]) fun h' he => ⟨rfl, ch_heap s h' s.toks fun b o nb e => he b o (fun e' => nb (by simp [e'])) e⟩
  self := fun i s st => by
    (refine e0_2 ?_ st; clear st; intro zz1 _; refine e1_1 ?_ zz1; clear zz1; intro old h1)
    exact wpAny_pyIter_enum h1 ⟨rfl, rfl⟩
end
end Mine
end
noncomputable section
open PySem PySem.W PyProof.Rows PySem.Calls PySem.Spec
set_option Elab.async false
namespace Mine

noncomputable def CurM (env : Env) (h : Heap) (m : Str → Option Value) (x : Str) (v : Value) : Prop :=
  (x == ("__debug__" : Str)) = false ∧ ((env.kindOf x = some .local ∧ m x = some v) ∨ (env.kindOf x = some .cell ∧ ∃ c, env.cells.lookup x = some c ∧ h.IsCell c (some v)))

structure RdM (base : Heap) (env : Env) (X : Addr → Prop) (σ : Sto) (h : Heap) (m : Str → Option Value) : Prop where
  fn : env.scope.kind = .function
  gl : env.globals = mainGlobals
  bl : env.builtins = builtinsNs
  ba : HLe base h
  pres : Pres X h
  ns : h.Ns env.locals m
  ci : ∀ x, env.kindOf x = some .cell → ∃ c, env.cells.lookup x = some c
  cellAt : ∀ x c, env.kindOf x = some .cell → env.cells.lookup x = some c → ∃ u, h.IsCell c u
  vals : ∀ x d, σ x = some (.val d) → ∃ v, CurM env h m x v ∧ Rp X h v d
  owns : ∀ x xs, σ x = some (.own xs) → ∃ a vs n, CurM env h m x (.ref a) ∧ h.get? a = some (listOf vs.toArray n) ∧ RpA X h vs xs

theorem CurM.up {env : Env} {h h' : Heap} {m : Str → Option Value} {x : Str} {v : Value} (k : HLe h h') (c : CurM env h m x v) : CurM env h' m x v :=
  ⟨c.1, c.2.imp id fun ⟨a, c, e, i⟩ => ⟨a, c, e, i.keeps k⟩⟩
theorem RdM.up {base : Heap} {env : Env} {X : Addr → Prop} {σ : Sto} {h h' : Heap} {m : Str → Option Value} (R : RdM base env X σ h m) (k' : HLe h h') : RdM base env X σ h' m where
  fn := R.fn
  gl := R.gl
  bl := R.bl
  ba := fun b o e => k' b o (R.ba b o e)
  pres := R.pres.up k'
  ns := R.ns.keeps k'
  ci := R.ci
  cellAt := fun x c k e => let ⟨u, i⟩ := R.cellAt x c k e; ⟨u, i.keeps k'⟩
  vals := fun x d e => let ⟨v, c, r⟩ := R.vals x d e; ⟨v, c.up k', r.up k'⟩
  owns := fun x xs e => let ⟨a, vs, n, c, g, r⟩ := R.owns x xs e; ⟨a, vs, n, c.up k', k' _ _ g, r.up k'⟩

structure Bg (base : Heap) (mg mb : Str → Option Value) : Prop where
  g : base.Ns mainGlobals mg
  b : base.Ns builtinsNs mb
  nolimit : base.NoLimit
  len : mg "len" = none ∧ mb "len" = some (.builtin "len")
  range : mg "range" = none ∧ mb "range" = some (.type "range")
  enum : mg "enumerate" = none ∧ mb "enumerate" = some (.type "enumerate")
  list : mg "list" = none ∧ mb "list" = some (.type "list")

noncomputable def KeepOk (prog : Program) (w : World) (base : Heap) (fv : Value) : Prop := ∀ h, HLe base h → ∃ k, (k = Keeper.frame ∨ k = Keeper.machine) ∧ Looks (model prog w) h (keeperOf fv) k
noncomputable def OCall (prog : Program) (w : World) (base : Heap) (n : Nat) (fv : Value) (args : List PyData) (r : PyData) : Prop :=
  ∀ (A : Around) (s : Shared) (X : Addr → Prop) (vals : List Value), Room A n → Pres X s.heap → HLe base s.heap → RpA X s.heap vals args →
    wpAny (model prog w) A (call fv vals []) (fun v s' => Keeps s s' ∧ Rp X s'.heap v r) NoE s
noncomputable def OGood (prog : Program) (w : World) (base : Heap) (mg mb : Str → Option Value) (n : Nat) (f : Str) (args : List PyData) (r : PyData) : Prop :=
  ∃ fv, (mg f = some fv ∨ (mg f = none ∧ mb f = some fv)) ∧ KeepOk prog w base fv ∧ OCall prog w base n fv args r
noncomputable def OSound (prog : Program) (w : World) (base : Heap) (mg mb : Str → Option Value) (n : Nat) (O : Orc) : Prop :=
  ∀ f args r, O f args = some r → OGood prog w base mg mb n f args r

theorem keep_type {prog : Program} {w : World} {base : Heap} {t : String} : KeepOk prog w base (.type t) := fun _ _ => ⟨.machine, .inr rfl, Looks.now⟩
theorem keep_builtin {prog : Program} {w : World} {base : Heap} {t : String} : KeepOk prog w base (.builtin t) := fun _ _ => ⟨.machine, .inr rfl, Looks.now⟩

section
variable {prog : Program} {w : World} {A : Around} {X : Addr → Prop} {base : Heap} {mg mb : Str → Option Value} {env : Env} {σ : Sto} {s : Shared} {m : Str → Option Value}

theorem s_cur {x : Str} {p : Pos} {v : Value} {Q : Value → Shared → Prop} (R : RdM base env X σ s.heap m) (c : CurM env s.heap m x v) (h : Q v s) : wpAny (model prog w) A (eval (.Name x p) env) Q NoE s := by
  refine wpAny_Name ?_ c.1
  rcases c.2 with ⟨k, e⟩ | ⟨k, c, e, i⟩
  · exact wpAny_loadName_local R.fn k R.ns e h
  · exact wpAny_loadName_cell R.fn k e i h
theorem s_rdV {x : Str} {p : Pos} {d : PyData} (R : RdM base env X σ s.heap m) (e : rdV σ x = some d) : wpAny (model prog w) A (eval (.Name x p) env) (fun v s' => Keeps s s' ∧ Rp X s'.heap v d) NoE s := by
  revert e
  refine bind_r fun sl q e => ?_
  cases sl with
  | own _ => exact none_e e
  | val d' =>
    revert e
    apply sm_r
    (refine e1_2 ?_ (R.vals x _ q); intro v c r)
    exact s_cur R c ⟨keeps_refl _, r⟩

/-- a value that is looked into: its top may be an owned list -/
noncomputable def RpB (X : Addr → Prop) (h : Heap) (v : Value) (d : PyData) : Prop := Rp X h v d ∨ ∃ a vs n xs, v = .ref a ∧ d = .list xs ∧ h.get? a = some (listOf vs.toArray n) ∧ RpA X h vs xs
theorem RpB.list {h : Heap} {v : Value} {xs : List PyData} (r : RpB X h v (.list xs)) : ∃ a vs n, v = .ref a ∧ h.get? a = some (listOf vs.toArray n) ∧ RpA X h vs xs := by
  rcases r with r | ⟨a, vs, n, ys, e, e2, g, q⟩
  · cases r with | list x g q => exact ⟨_, _, _, rfl, g, q⟩
  · cases e2; exact ⟨a, vs, n, e, g, q⟩
theorem RpB.up {h h' : Heap} {v : Value} {d : PyData} (r : RpB X h v d) (k : HLe h h') : RpB X h' v d :=
  r.imp (·.up k) fun ⟨a, vs, n, xs, e1, e2, g, q⟩ => ⟨a, vs, n, xs, e1, e2, k _ _ g, q.up k⟩
theorem s_rdB {x : Str} {p : Pos} {d : PyData} (R : RdM base env X σ s.heap m) (e : rdB σ x = some d) : wpAny (model prog w) A (eval (.Name x p) env) (fun v s' => Keeps s s' ∧ RpB X s'.heap v d) NoE s := by
  unfold rdB at e
  (refine e1_2 ?_ (Option.map_eq_some_iff.mp e); intro sl q zz1; subst zz1)
  cases sl with
  | val d =>
    (refine e1_2 ?_ (R.vals x _ q); intro v c r)
    exact s_cur R c ⟨keeps_refl _, .inl r⟩
  | own xs =>
    (refine e3_3 ?_ (R.owns x _ q); intro a vs n c g r)
    exact s_cur R c ⟨keeps_refl _, .inr ⟨a, vs, n, xs, rfl, rfl, g, r⟩⟩

theorem s_glob {f : Str} {p : Pos} {fv : Value} {Q : Value → Shared → Prop} (B : Bg base mg mb) (R : RdM base env X σ s.heap m) (hk : env.kindOf f = some .globalImplicit) (hd : (f == ("__debug__" : Str)) = false)
    (hf : mg f = some fv ∨ (mg f = none ∧ mb f = some fv)) (h : Q fv s) : wpAny (model prog w) A (eval (.Name f p) env) Q NoE s := by
  refine Name_function_global R.fn hk ?_ hd
  rcases hf with e | ⟨e1, e2⟩
  · exact loadGlobal_global (mg := mg) (by rw [R.gl]; exact B.g.keeps R.ba) e h
  · exact loadGlobal_builtin (mg := mg) (mb := mb) (by rw [R.gl]; exact B.g.keeps R.ba) e1 (by rw [R.bl]; exact B.b.keeps R.ba) e2 h

/-- a call by a global name, its arguments laid -/
theorem s_callWith {fv : Value} {pos : Pos} {args : List (Bool × Sem Value)} {Q : Value → Shared → Prop} (hK : KeepOk prog w base fv) (ba : HLe base s.heap) (hne : args ≠ []) (hp : args.all (fun x => !x.1) = true)
    (h : wpAny (model prog w) A (spliced args) (fun vs s' => Keeps s s' ∧ wpAny (model prog w) A (call fv vs []) Q NoE s') NoE s) : wpAny (model prog w) A (callWith pos fv [] args []) Q NoE s := by
  cases args with
  | nil => exact absurd rfl hne
  | cons a r =>
    obtain ⟨b, t⟩ := a
    simp only [List.all_cons, Bool.and_eq_true, Bool.not_eq_true'] at hp
    (refine e0_2 ?_ hp; clear hp; intro hb hr)
    subst hb
    refine callWith_of (P := HLe base) ?_ (fun h hh => ?_) (evalArgs_plain (wpAny_mono h (fun vs s' x => ⟨fun b o e => kle x.1 b o (ba b o e), by simpa using x.2⟩) fun _ _ x => x))
    · simp only [List.any_cons, Bool.false_or, List.any_nil, Bool.or_false, List.any_eq_false]
      intro x hx
      have := List.all_eq_true.mp hr x hx
      simpa using this
    · (refine e1_2 ?_ (hK h hh); intro k hk L)
      exact ⟨k, hk.elim .inl (fun e => .inr (.inl e)), L⟩

theorem subscripted_eq (slice : Expr) (o i : Value) : ∃ l, subscripted slice false o i = operate l (getItem o i) := by
  cases slice with
  | Slice lo hi st p => cases st <;> exact ⟨_, rfl⟩
  | _ => exact ⟨_, rfl⟩

/-- value[slice], value a list or a tuple -/
theorem s_sub {value slice : Expr} {pos : Pos} {Q : Value → Shared → Prop}
    (h : wpAny (model prog w) A (eval value env) (fun o s₁ => wpAny (model prog w) A (eval slice env) (fun i s₂ => (s₂.TypeIs o "list" ∨ s₂.TypeIs o "tuple") ∧ wpAny (model prog w) A (getItem o i) Q NoE s₂) NoE s₁) NoE s) :
    wpAny (model prog w) A (eval (.Subscript value slice pos) env) Q NoE s := by
  rw [eval_Subscript]
  refine wpAny_bind (wpAny_mono h (fun o s₁ h₁ => wpAny_bind (wpAny_holding (wpAny_mono h₁ (fun i s₂ h₂ => wpAny_bind (wpAny_standAt ?_)) fun _ _ x => x)))
    fun _ _ x => x)
  (refine e1_1 ?_ (subscripted_eq slice o i); intro l hl)
  have fin : wpAny (model prog w) A (subscripted slice false o i) (fun r s₃ => wpAny (model prog w) A (letTemporaryGo value o r >>= fun _ => pure r) Q NoE s₃) NoE s₂ := by
    rw [hl]
    exact wpAny_operate' (wpAny_mono h₂.2 (fun r s₃ h₃ => wpAny_bind (wpAny_letTemporaryGo (wpAny_pure h₃))) fun _ _ x => x)
  rcases h₂.1 with hT | hT
  · refine wpAny_bind ?_
    rw [getitemInPython_of_ne hT.not_modules]
    refine wpAny_bind (wpAny_specialOf hT slot_list_getitem.lookup ?_)
    exact wpAny_pure (wpAny_bind fin)
  · refine wpAny_bind ?_
    rw [getitemInPython_of_ne hT.not_modules]
    refine wpAny_bind (wpAny_specialOf hT slot_tuple_getitem.lookup ?_)
    exact wpAny_pure (wpAny_bind fin)
end
end Mine
end
noncomputable section
open PySem PySem.W PyProof.Rows PySem.Calls PySem.Spec
set_option Elab.async false
namespace Mine

noncomputable abbrev Nms := List (Str × NameKind)
noncomputable def isNameE (e : Expr) : Bool := (nameOf e).isSome
noncomputable def isTupE (e : Expr) : Bool := (tupsOf e).isSome
noncomputable def calledOf : Expr → Option Str
  | .Call f _ _ _ => nameOf f
  | _ => none
noncomputable def iterOk (t i : Expr) : Bool := match calledOf i with
  | some x => if x = "range" then isNameE t else if x = "enumerate" then isTupE t else isNameE t || isTupE t
  | none => isNameE t || isTupE t
noncomputable def tgtNames (t : Expr) : List Str := match nameOf t with
  | some x => [x]
  | none => ((tupsOf t).bind namesOf).getD []
theorem some_r {α : Type} {x : Option α} {G : Prop} (k : ∀ a, x = some a → G) : x.isSome = true → G := fun h => match x, h, k with | some a, _, k => k a rfl
theorem isName_r {e : Expr} {G : Expr → Prop} (k : ∀ x p, G (.Name x p)) : isNameE e = true → G e := some_r fun _ h => name_r (fun p => k _ p) h
theorem isTup_r {e : Expr} {G : Expr → Prop} (k : ∀ es n p, G (.Tuple es n p)) : isTupE e = true → G e := some_r fun _ h => tups_r (fun n p => k _ n p) h
noncomputable def scopeOk (scope : Scope) (K : Nms) : Bool :=
  (scope.kind == .function) && scope.names.all fun (n, k) =>
    (k == .local && scope.names.lookup n == some .local) || (k == .free && scope.names.lookup n == some .free && K.lookup n == some .cell) || k == .globalImplicit
noncomputable def relNames (K : Nms) (scope : Scope) : Nms := scope.names.map fun (n, k) => if (k == .free && K.lookup n == some .cell) then (n, .cell) else (n, k)
noncomputable def tgtLoc (t : Expr) (K : Nms) : Bool := (isNameE t || (isTupE t && ((tupsOf t).bind namesOf).isSome)) && (tgtNames t).all (fun x => K.lookup x == some .local && !(x == ("__debug__" : Str))) && decide (tgtNames t).Nodup

mutual
noncomputable def okE : Expr → Nms → Bool
  | .Constant .., _ => true
  | .Name .., _ => true
  | .BinOp l _ r _, K => okE l K && okE r K
  | .UnaryOp _ x _, K => okE x K
  | .IfExp t b o _, K => okE t K && okE b K && okE o K
  | .Compare l _ rs _, K => okE l K && okL rs K
  | .BoolOp _ vs _, K => okL vs K
  | .List es _, K => okL es K && decide (es.length ≤ 1000)
  | .Tuple es _ _, K => okL es K && decide (es.length ≤ 1000)
  | .Subscript b i _, K => okE b K && okE i K
  | .Slice lo hi st _, K => okO lo K && okO hi K && okO st K
  | .Call f args _ _, K => (match nameOf f with | some x => K.lookup x == some .globalImplicit && !(x == ("__debug__" : Str)) | none => false) && okL args K && !args.isEmpty
  | .ListComp elt gens scope _, K => scopeOk scope K && okE elt (relNames K scope) && okC gens K (relNames K scope) && decide (gens.flatMap fun g => tgtNames g.target).Nodup
  | _, _ => false
noncomputable def okO : Option Expr → Nms → Bool
  | none, _ => true
  | some e, K => okE e K
noncomputable def okL : List Expr → Nms → Bool
  | [], _ => true
  | e :: r, K => okE e K && okL r K
noncomputable def okC : List Comprehension → Nms → Nms → Bool
  | [], _, _ => false
  | ⟨t, i, ifs, a⟩ :: gs, K, K' => a == 0 && tgtLoc t K' && iterOk t i && okE i K && okL ifs K' && okG gs K'
noncomputable def okG : List Comprehension → Nms → Bool
  | [], _ => true
  | ⟨t, i, ifs, a⟩ :: gs, K' => a == 0 && tgtLoc t K' && iterOk t i && okE i K' && okL ifs K' && (match gs with | [] => true | _ :: _ => false)
end

section
variable {prog : Program} {w : World} {A : Around} {X : Addr → Prop} {base : Heap} {mg mb : Str → Option Value} {env : Env} {σ : Sto} {s : Shared} {m : Str → Option Value}

theorem slice_up {vs : List Value} {k : Int} (h : 0 ≤ k) : slicePick vs.toArray none (some k) none = (vs.take k.toNat).toArray := by
  (refine e1_1 ?_ (Int.eq_ofNat_of_zero_le h); intro n zz1; subst zz1)
  rw [slicePick_upto' vs.toArray n]
  simp
theorem slice_fr {vs : List Value} {k : Int} (h : 0 ≤ k) : slicePick vs.toArray (some k) none none = (vs.drop k.toNat).toArray := by
  (refine e1_1 ?_ (Int.eq_ofNat_of_zero_le h); intro n zz1; subst zz1)
  rw [slicePick_from' vs.toArray n]
  simp

theorem starEach_cons {e : Expr} {r : List Expr} (h : ∀ v p, e ≠ .Starred v p) : starEach (e :: r) env = (false, eval e env) :: starEach r env := by
  cases e <;> first | rfl | exact absurd rfl (h _ _)
theorem not_starred {O : Orc} {e : Expr} {it : Bool} {d : PyData} (h : evE O e it σ = some d) : ∀ v p, e ≠ .Starred v p := by
  intro v p q; subst q; exact none_e h

theorem s_spl_cons {e : Expr} {r : List Expr} {pos : Pos} {d : PyData} {ds : List PyData} (hs : ∀ v p, e ≠ .Starred v p)
    (h : wpAny (model prog w) A (eval e env) (fun v s₁ => (Keeps s s₁ ∧ Rp X s₁.heap v d) ∧
      wpAny (model prog w) A (spliced (backTo pos (starEach r env))) (fun vs s₂ => Keeps s₁ s₂ ∧ RpA X s₂.heap vs ds) NoE s₁) NoE s) :
    wpAny (model prog w) A (spliced (backTo pos (starEach (e :: r) env))) (fun vs s₂ => Keeps s s₂ ∧ RpA X s₂.heap vs (d :: ds)) NoE s := by
  rw [starEach_cons hs]
  show wpAny (model prog w) A (spliced ((false, eval e env) :: backTo pos (starEach r env))) _ NoE s
  refine spliced_cons (wpAny_mono h (fun v s₁ x => wpAny_mono x.2 (fun vs s₂ y => ?_) fun _ _ x => x) fun _ _ x => x)
  exact ⟨ktr x.1.1 y.1, .cons (x.1.2.up (kle y.1)) y.2⟩

theorem starEach_plain {O : Orc} {pos : Pos} : ∀ {es : List Expr} {ds : List PyData}, evL O es σ = some ds → (backTo pos (starEach es env)).all (fun x => !x.1) = true ∧ (es ≠ [] → backTo pos (starEach es env) ≠ [])
  | [], _, _ => ⟨rfl, fun h => absurd rfl h⟩
  | e :: r, ds, h => by
    revert h
    refine bind2_r fun d ds' h1 h2 _ => ?_
    rw [starEach_cons (not_starred h1)]
    have ih := (starEach_plain (pos := pos) h2).1
    exact ⟨by show (!false && (backTo pos (starEach r env)).all fun x => !x.1) = true; rw [ih]; rfl, fun _ => by simp [backTo]⟩
end
end Mine
end
noncomputable section
open PySem PySem.W PyProof.Rows PySem.Calls PySem.Spec
set_option Elab.async false
namespace Mine

section
variable {prog : Program} {w : World} {A : Around} {X : Addr → Prop} {base : Heap} {mg mb : Str → Option Value} {env : Env} {σ : Sto} {s : Shared} {m : Str → Option Value}

theorem ns_not_cell {h : Heap} {a : Addr} {m : Str → Option Value} {v : Option Value} (n : h.Ns a m) (c : h.IsCell a v) : False := by
  (refine e3_3 ?_ n; clear n; intro o es ep h1 h2 _); (refine e1_2 ?_ c; clear c; intro o' h3 h4)
  rw [h1] at h3; cases h3; rw [h2] at h4; cases h4
theorem ns_not_list {h : Heap} {a : Addr} {m : Str → Option Value} {vs : Array Value} {k : Nat} (n : h.Ns a m) (c : h.get? a = some (listOf vs k)) : False := by
  (refine e3_3 ?_ n; clear n; intro o es ep h1 h2 _)
  rw [h1] at c; cases c; cases h2
theorem cell_not_list {h : Heap} {a : Addr} {v : Option Value} {vs : Array Value} {k : Nat} (n : h.IsCell a v) (c : h.get? a = some (listOf vs k)) : False := by
  (refine e1_2 ?_ n; clear n; intro o h1 h2)
  rw [h1] at c; cases c; cases h2
theorem cell_congr {h h' : Heap} {c : Addr} {v : Option Value} (i : h.IsCell c v) (e : ∀ o, h.get? c = some o → h'.get? c = some o) : h'.IsCell c v :=
  let ⟨o, ho, hd⟩ := i; ⟨o, e o ho, hd⟩

theorem s_store_local {x : Str} {v : Value} {d : PyData} (R : RdM base env X σ s.heap m) (hx : env.kindOf x = some .local) (hd : (x == ("__debug__" : Str)) = false) (hX : X env.locals) (hb : base.get? env.locals = none) (r : Rp X s.heap v d) :
    wpAny (model prog w) A (storeName env x v) (fun _ s' => Ch (· = env.locals) s s' ∧ RdM base env X (setS σ x (.val d)) s'.heap (fun y => if y = x then some v else m y)) NoE s := by
  refine wpAny_storeName_local hx R.ns (fun h' hn hs => ?_) (by rw [R.fn]; rfl)
  have kX : ∀ a o, ¬ X a → s.heap.get? a = some o → h'.get? a = some o := fun a o x e => (hs.2 a (fun q => x (q ▸ hX))).trans e
  have kL : ∀ a o, a ≠ env.locals → s.heap.get? a = some o → h'.get? a = some o := fun a o x e => (hs.2 a x).trans e
  refine ⟨ch_heap s h' _ fun b o nb e => kL b o nb e, ?_⟩
  have cc : ∀ y u, y ≠ x → CurM env s.heap m y u → CurM env h' (fun y => if y = x then some v else m y) y u := fun y u ne c => by
    refine ⟨c.1, c.2.imp (fun ⟨a, b⟩ => ⟨a, by show (if y = x then some v else m y) = some u; rw [if_neg ne]; exact b⟩) fun ⟨a, c', e1, e2⟩ => ⟨a, c', e1, cell_congr e2 fun o e => kL _ o (fun q => ?_) e⟩⟩
    subst q
    exact ns_not_cell R.ns e2
  exact {
    fn := R.fn, gl := R.gl, bl := R.bl, ci := R.ci
    cellAt := fun y c k e => by
      (refine e1_1 ?_ (R.cellAt y c k e); intro u i)
      exact ⟨u, cell_congr i fun o e => kL _ o (fun q => by subst q; exact ns_not_cell R.ns i) e⟩
    ba := fun b o e => kL b o (fun q => by subst q; rw [hb] at e; cases e) (R.ba b o e)
    pres := fun a xa => by
      by_cases q : a = env.locals
      · subst q; (refine e3_2 ?_ hn; clear hn; intro o es ep h1 _); exact ⟨o, h1⟩
      · (refine e1_1 ?_ (R.pres a xa); intro o e); exact ⟨o, kL a o q e⟩
    ns := hn
    vals := fun y d' e => by
      by_cases q : y = x
      · subst q
        simp only [setS, if_true] at e; cases e
        exact ⟨v, ⟨hd, .inl ⟨hx, by simp⟩⟩, r.to fun a o x e => ⟨x, kX a o x e⟩⟩
      · simp only [setS, if_neg q] at e
        (refine e1_2 ?_ (R.vals y d' e); intro u c r')
        exact ⟨u, cc y u q c, r'.to fun a o x e => ⟨x, kX a o x e⟩⟩
    owns := fun y xs e => by
      by_cases q : y = x
      · subst q; simp only [setS, if_true] at e; cases e
      · simp only [setS, if_neg q] at e
        (refine e3_3 ?_ (R.owns y xs e); intro a vs n c g r')
        exact ⟨a, vs, n, cc y _ q c, kL a _ (fun q => by subst q; exact ns_not_list R.ns g) g, r'.to fun a o x e => ⟨x, kX a o x e⟩⟩ }

theorem s_store_cell {x : Str} {c : Addr} {v : Value} {d : PyData} (R : RdM base env X σ s.heap m) (hx : env.kindOf x = some .cell) (hc : env.cells.lookup x = some c) (hi : ∃ u, s.heap.IsCell c u)
    (ap : ∀ x y c, env.cells.lookup x = some c → env.cells.lookup y = some c → x = y) (hd : (x == ("__debug__" : Str)) = false) (hX : X c) (hb : base.get? c = none) (r : Rp X s.heap v d) :
    wpAny (model prog w) A (storeName env x v) (fun _ s' => Ch (· = c) s s' ∧ RdM base env X (setS σ x (.val d)) s'.heap m ∧ s'.heap.IsCell c (some v)) NoE s := by
  (refine e1_1 ?_ hi; clear hi; intro u hi)
  refine wpAny_storeName_cell R.fn hx hc hi fun h' hn hs => ?_
  have kX : ∀ a o, ¬ X a → s.heap.get? a = some o → h'.get? a = some o := fun a o x e => (hs.2 a (fun q => x (q ▸ hX))).trans e
  have kL : ∀ a o, a ≠ c → s.heap.get? a = some o → h'.get? a = some o := fun a o x e => (hs.2 a x).trans e
  refine ⟨ch_heap s h' s.toks fun b o nb e => kL b o nb e, ?_, hn⟩
  have cc : ∀ y u, y ≠ x → CurM env s.heap m y u → CurM env h' m y u := fun y u ne cu => by
    refine ⟨cu.1, cu.2.imp id fun ⟨a, c', e1, e2⟩ => ⟨a, c', e1, cell_congr e2 fun o e => kL _ o (fun q => ?_) e⟩⟩
    subst q
    exact ne (ap _ _ _ e1 hc)
  exact {
    fn := R.fn, gl := R.gl, bl := R.bl, ci := R.ci
    cellAt := fun y c' k e => by
      (refine e1_1 ?_ (R.cellAt y c' k e); intro u' i)
      by_cases q : c' = c
      · subst q; exact ⟨_, hn⟩
      · exact ⟨u', cell_congr i fun o e => kL _ o q e⟩
    ba := fun b o e => kL b o (fun q => by subst q; rw [hb] at e; cases e) (R.ba b o e)
    pres := fun a xa => by
      by_cases q : a = c
      · subst q; (refine e1_2 ?_ hn; clear hn; intro o h1 _); exact ⟨o, h1⟩
      · (refine e1_1 ?_ (R.pres a xa); intro o e); exact ⟨o, kL a o q e⟩
    ns := by
      (refine e3_2 ?_ R.ns; intro o es ep h1 h2)
      refine ⟨o, es, ep, kL _ o (fun q => ?_) h1, h2⟩
      subst q
      exact ns_not_cell R.ns hi
    vals := fun y d' e => by
      by_cases q : y = x
      · subst q
        simp only [setS, if_true] at e; cases e
        exact ⟨v, ⟨hd, .inr ⟨hx, c, hc, hn⟩⟩, r.to fun a o x e => ⟨x, kX a o x e⟩⟩
      · simp only [setS, if_neg q] at e
        (refine e1_2 ?_ (R.vals y d' e); intro u cu r')
        exact ⟨u, cc y u q cu, r'.to fun a o x e => ⟨x, kX a o x e⟩⟩
    owns := fun y xs e => by
      by_cases q : y = x
      · subst q; simp only [setS, if_true] at e; cases e
      · simp only [setS, if_neg q] at e
        (refine e3_3 ?_ (R.owns y xs e); intro a vs n cu g r')
        exact ⟨a, vs, n, cc y _ q cu, kL a _ (fun q => by subst q; exact cell_not_list hi g) g, r'.to fun a o x e => ⟨x, kX a o x e⟩⟩ }

/-- several names at once, all of the locals -/
theorem s_order_local : ∀ (xs : List Str) (ps : List Pos) (vs : List Value) (ds : List PyData) (σ : Sto) (s : Shared) (m : Str → Option Value), xs.length = ps.length → RdM base env X σ s.heap m → (∀ x ∈ xs, env.kindOf x = some .local ∧ (x == ("__debug__" : Str)) = false) →
    X env.locals → base.get? env.locals = none → RpA X s.heap vs ds → xs.length = ds.length →
    wpAny (model prog w) A (assignInOrder ((xs.zip ps).map fun xp => assign (.Name xp.1 xp.2) env) vs) (fun _ s' => Ch (· = env.locals) s s' ∧ ∃ m', RdM base env X (setAllV σ xs ds) s'.heap m' ∧ ∀ y, y ∉ xs → m' y = m y) NoE s
  | [], [], vs, ds, σ, s, m, _, R, _, _, _, r, hl => by
    refine wpAny_pure ?_
    exact ⟨Ch.refl _ _, m, R, fun _ _ => rfl⟩
  | x :: xs, p :: ps, _, _, σ, s, m, hl1, R, hx, hX, hb, .cons (v := v) (d := d) (vs := vs) (ds := ds) r rs, hl => by
    show wpAny (model prog w) A (do holding vs (assign (.Name x p) env v); assignInOrder ((xs.zip ps).map fun xp => assign (.Name xp.1 xp.2) env) vs) _ NoE s
    have h1 := hx x (by simp)
    refine wpAny_bind (wpAny_holding (wpAny_assign_Name (wpAny_mono (s_store_local R h1.1 h1.2 hX hb r) (fun _ s₁ y => ?_) fun _ _ x => x)))
    (refine e0_2 ?_ y; clear y; intro c R₁)
    have rs₁ : RpA X s₁.heap vs ds := rs.to fun a o xa e => ⟨xa, c.at (fun q => xa (q ▸ hX)) e⟩
    refine wpAny_mono (s_order_local xs ps vs ds _ s₁ _ (by simpa using hl1) R₁ (fun y hy => hx y (by simp [hy])) hX hb rs₁ (by simpa using hl)) (fun _ s₂ z => ?_) fun _ _ x => x
    (refine e0_2 ?_ z; clear z; intro c₂ zz1; refine e1_2 ?_ zz1; clear zz1; intro m' R₂ ag)
    refine ⟨c.tr c₂ fun d o nd _ => ⟨nd, nd⟩, m', R₂, fun y hy => ?_⟩
    rw [List.mem_cons, not_or] at hy
    rw [ag y hy.2, if_neg hy.1]
  | [], _ :: _, _, _, _, _, _, h, _, _, _, _, _, _ => by simp at h
  | _ :: _, [], _, _, _, _, _, h, _, _, _, _, _, _ => by simp at h
  | _ :: _, _ :: _, _, _, _, _, _, _, _, _, _, _, .nil, h => by simp at h

theorem namesOf_form : ∀ {ts : List Expr} {xs : List Str}, namesOf ts = some xs → ∃ ps : List Pos, xs.length = ps.length ∧ ts = (xs.zip ps).map fun xp => Expr.Name xp.1 xp.2
  | [], xs, h => by revert h; apply sm_r; exact ⟨[], rfl, rfl⟩
  | t :: r, xs, h => by
    revert h
    refine bind_r fun x hx => ?_
    apply map_r; intro ys h1
    (refine e1_1 ?_ (nameOf_some hx); intro pos zz1; subst zz1)
    (refine e1_2 ?_ (namesOf_form h1); intro ps h2 zz1; subst zz1)
    exact ⟨pos :: ps, by simp [h2], by simp⟩
theorem assignEach_names (xps : List (Str × Pos)) : assignEach (xps.map fun xp => Expr.Name xp.1 xp.2) env = xps.map fun xp => (false, assign (.Name xp.1 xp.2) env) := by
  induction xps with
  | nil => rfl
  | cons a r ih => simp only [List.map_cons]; rw [← ih]; rfl
theorem tup_inv {h : Heap} {v : Value} {ds : List PyData} (r : Rp X h v (.tuple ds)) : ∃ a vs, v = .ref a ∧ h.IsTuple a vs.toArray ∧ RpA X h vs ds := by
  cases r with | tuple _ e q => exact ⟨_, _, rfl, e, q⟩

/-- the target of a comprehension's loop -/
theorem s_bind_local {t : Expr} {v : Value} {d : PyData} {σ' : Sto} (hh : A.handled = none) (R : RdM base env X σ s.heap m) (hb : bindT t d σ = some σ') (ht : tgtLoc t env.scope.names = true)
    (hX : X env.locals) (hbb : base.get? env.locals = none) (r : Rp X s.heap v d) :
    wpAny (model prog w) A (assign t env v) (fun _ s' => Ch (· = env.locals) s s' ∧ ∃ m', RdM base env X σ' s'.heap m' ∧ ∀ y, y ∉ tgtNames t → m' y = m y) NoE s := by
  (refine e0_2 ?_ (Bool.and_eq_true_iff.mp ht); intro ht _)
  have h2 := (Bool.and_eq_true_iff.mp ht).2
  have hl : ∀ x ∈ tgtNames t, env.kindOf x = some .local ∧ (x == ("__debug__" : Str)) = false := fun x hx => by
    have := List.all_eq_true.mp h2 x hx
    simp only [Bool.and_eq_true, beq_iff_eq, Bool.not_eq_true'] at this
    exact ⟨this.1, by simpa using this.2⟩
  clear ht h2
  revert hb
  refine alt_r ?_ (bind_r fun ts hts => bind_r fun xs hxs => bind_r fun ds hds => ?_)
  · apply map_r; intro x hx
    (refine e1_1 ?_ (nameOf_some hx); intro p zz1; subst zz1)
    have h1 := hl x (List.mem_singleton.mpr rfl)
    exact wpAny_assign_Name (wpAny_mono (s_store_local R h1.1 h1.2 hX hbb r) (fun _ s₁ y => ⟨y.1, _, y.2, fun z hz => if_neg fun q => hz (List.mem_singleton.mpr q)⟩) fun _ _ x => x)
  · apply ifs_r; intro hlen
    (refine e2_1 ?_ (tupsOf_some hts); intro k p zz1; subst zz1)
    have hT : tgtNames (.Tuple ts k p) = xs := by show (namesOf ts).getD [] = xs; rw [hxs]; rfl
    rw [hT] at hl ⊢
    clear hT hts
    obtain rfl := tupOf_some hds
    clear hds
    (refine e1_2 ?_ (namesOf_form hxs); intro ps hps zz1; subst zz1)
    clear hxs
    (refine e2_3 ?_ (tup_inv r); intro a vs zz1 hta rs; subst zz1)
    have hvl := rs.length
    refine wpAny_assign_Tuple hh hta ?_ ?_ fun h' hk => ?_
    · rw [assignEach_names]; simp [hps] at hlen ⊢; lia
    · rw [assignEach_names]
      rw [List.findIdx?_eq_none_iff]
      intro x hx
      (refine e1_2 ?_ (List.mem_map.mp hx); intro y _ zz1; subst zz1)
      rfl
    · have kk : HLe s.heap h' := fun b o e => hk b o (Nat.ne_of_lt (Heap.lt_size e)) e
      rw [assignEach_names, List.map_map]
      have := s_order_local (prog := prog) (w := w) (A := A) xs ps vs ds σ { s with heap := h' } m hps (R.up kk) hl hX hbb (rs.up kk) hlen
      refine wpAny_mono this (fun _ s₁ y => ⟨?_, y.2⟩) fun _ _ x => x
      exact (kch (keeps_heap s h' s.toks kk) (fun _ => False)).tr y.1 fun d o nd _ => ⟨id, nd⟩
end
end Mine
end
noncomputable section
open PySem PySem.W PyProof.Rows PySem.Calls PySem.Spec
set_option Elab.async false
namespace Mine

noncomputable def turnForm (p : Pos) (target : Expr) (ifs : List Expr) (it : Value) (env : Env) (emit : Sem Fin) (c : Code) : Sem Fin := do
  standAt p
  match ← pyNext it with
  | none => pure (.done .next)
  | some v =>
    letOwnedTupleGo target it v
    assign target env v
    let mut ok := true
    for c in ifs do
      if ok then ok ← isTrue c env (eval c env)
    if ok then emit else again c
noncomputable abbrev LC1 (elt target iter : Expr) (ifs : List Expr) (scope : Scope) (pos : Pos) : Expr := .ListComp elt [⟨target, iter, ifs, 0⟩] scope pos
noncomputable abbrev LC2 (elt target iter target2 iter2 : Expr) (ifs ifs2 : List Expr) (scope : Scope) (pos : Pos) : Expr := .ListComp elt [⟨target, iter, ifs, 0⟩, ⟨target2, iter2, ifs2, 0⟩] scope pos
theorem turn_one (elt target iter : Expr) (ifs : List Expr) (scope : Scope) (pos : Pos) (it acc : Value) (env : Env) :
    compTurn (LC1 elt target iter ifs scope pos) 0 it acc env =
      turnForm iter.pos target ifs it env ((do let _ ← call (.builtin "list.append") [acc, ← eval elt env] : Sem Unit) >>= fun _ => again (.compLoop (LC1 elt target iter ifs scope pos) 0 it acc env)) (.compLoop (LC1 elt target iter ifs scope pos) 0 it acc env) := by rfl
theorem turn_two0 (elt target iter target2 iter2 : Expr) (ifs ifs2 : List Expr) (scope : Scope) (pos : Pos) (it acc : Value) (env : Env) :
    compTurn (LC2 elt target iter target2 iter2 ifs ifs2 scope pos) 0 it acc env =
      turnForm iter.pos target ifs it env (do
        let x ← eval iter2 env
        standAt iter2.pos
        let x ← foldedSetIterable iter2 env x
        let _ ← runOwn (.compStart (LC2 elt target iter target2 iter2 ifs ifs2 scope pos) 1 (← holding [x] (pyIter x)) acc env) env
        again (.compLoop (LC2 elt target iter target2 iter2 ifs ifs2 scope pos) 0 it acc env))
        (.compLoop (LC2 elt target iter target2 iter2 ifs ifs2 scope pos) 0 it acc env) := by rfl
theorem turn_two1 (elt target iter target2 iter2 : Expr) (ifs ifs2 : List Expr) (scope : Scope) (pos : Pos) (it acc : Value) (env : Env) :
    compTurn (LC2 elt target iter target2 iter2 ifs ifs2 scope pos) 1 it acc env =
      turnForm iter2.pos target2 ifs2 it env ((do let _ ← call (.builtin "list.append") [acc, ← eval elt env] : Sem Unit) >>= fun _ => again (.compLoop (LC2 elt target iter target2 iter2 ifs ifs2 scope pos) 1 it acc env))
        (.compLoop (LC2 elt target iter target2 iter2 ifs ifs2 scope pos) 1 it acc env) := by rfl

theorem compItems_cons {t : Expr} {f : Sto → Option Bool} {b : Sto → Option (List PyData)} {τ : Sto} {d : PyData} {ds : List PyData} {r : List PyData} (h : compItems t f b τ (d :: ds) = some r) :
    ∃ τ1 ok ys rs, bindT t d τ = some τ1 ∧ f τ1 = some ok ∧ (if ok then b τ1 else some []) = some ys ∧ compItems t f b τ ds = some rs ∧ r = ys ++ rs := by
  simp only [compItems, List.mapM_cons, Option.bind_eq_bind, Option.map_eq_some_iff, Option.bind_eq_some_iff, Option.pure_def, Option.some.injEq] at h
  (refine e1_2 ?_ h; clear h; intro a zz1 zz6; refine e1_2 ?_ zz1; clear zz1; intro ys zz2 zz4; refine e1_2 ?_ zz2; clear zz2; intro τ1 h1 zz3; refine e1_2 ?_ zz3; clear zz3; intro ok h2 h3; refine e1_2 ?_ zz4; clear zz4; intro rs h4 zz5; subst zz5; subst zz6)
  exact ⟨τ1, ok, ys, rs.flatten, h1, h2, h3, by simp only [compItems, Option.bind_eq_bind]; rw [h4]; rfl, by simp⟩

section
variable {prog : Program} {w : World} {A : Around} {X : Addr → Prop} {base : Heap} {mg mb : Str → Option Value} {env : Env} {σ : Sto} {s : Shared} {m : Str → Option Value}

theorem s_tests {O : Orc} {τ : Sto} : ∀ (ifs : List Expr) (s : Shared) (b : Bool), (∀ e ∈ ifs, ∀ s' b, Keeps s s' → evT O e τ = some b → wpAny (model prog w) A (isTrue e env (eval e env)) (fun b' s'' => b' = b ∧ Keeps s' s'') NoE s') →
    evTs O .And ifs τ = some b →
    wpAny (model prog w) A (forIn ifs true fun c r => if r = true then do let ok ← isTrue c env (eval c env); pure (ForInStep.yield ok) else pure (ForInStep.yield r)) (fun b' s'' => b' = b ∧ Keeps s s'') NoE s
  | [], s, b, _, h => by
    revert h; apply sm_r
    exact wpAny_pure ⟨by decide, keeps_refl _⟩
  | e :: r, s, b, hs, h => by
    revert h
    refine bind_r fun b1 h1 h2 => ?_
    rw [List.forIn_cons]
    simp only [if_true]
    refine wpAny_bind (wpAny_bind (wpAny_mono (hs e (by simp) s b1 (keeps_refl _) h1) (fun b' s' x => wpAny_pure ?_) fun _ _ x => x))
    (refine e0_2 ?_ x; clear x; intro zz1 k; subst zz1)
    cases b' with
    | true =>
      exact wpAny_mono (s_tests r s' b (fun e' he s'' b'' k' => hs e' (by simp [he]) s'' b'' (ktr k k')) h2) (fun b' s'' x => ⟨x.1, ktr k x.2⟩) fun _ _ x => x
    | false =>
      revert h2; apply sm_r
      have : ∀ (r : List Expr) (s : Shared), wpAny (model prog w) A (forIn r false fun c r => if r = true then do let ok ← isTrue c env (eval c env); pure (ForInStep.yield ok) else pure (ForInStep.yield r)) (fun b' s'' => b' = false ∧ s'' = s) NoE s := by
        intro r
        induction r with
        | nil => intro s; exact wpAny_pure ⟨rfl, rfl⟩
        | cons c r ih => intro s; rw [List.forIn_cons]; simp only [Bool.false_eq_true, if_false]; exact wpAny_bind (wpAny_pure (ih s))
      exact wpAny_mono (this r s') (fun b' s'' x => ⟨x.1, x.2 ▸ k⟩) fun _ _ x => x

/-- the relation comes back to an elder store after a turn that wrote at WW alone -/
theorem RdM.back {τ : Sto} {s s' : Shared} {m' : Str → Option Value} {WW : Addr → Prop} (R : RdM base env X τ s.heap m) (c : Ch WW s s') (hW : ∀ a, WW a → X a) (hp : ∀ a, WW a → ∃ o, s'.heap.get? a = some o)
    (hb : ∀ a, WW a → base.get? a = none) (hn : s'.heap.Ns env.locals m') (hag : ∀ x, τ x ≠ none → m' x = m x) (hno : ∀ x xs, τ x ≠ some (.own xs))
    (hcell : ∀ x c, env.kindOf x = some .cell → env.cells.lookup x = some c → ¬ WW c) : RdM base env X τ s'.heap m' where
  fn := R.fn
  gl := R.gl
  bl := R.bl
  ci := R.ci
  cellAt := fun x c' k e => let ⟨u, i⟩ := R.cellAt x c' k e; ⟨u, cell_congr i fun o e' => c.at (hcell x c' k e) e'⟩
  ba := fun b o e => c.at (fun q => by rw [hb b q] at e; cases e) (R.ba b o e)
  pres := fun a xa => by
    by_cases q : WW a
    · exact hp a q
    · (refine e1_1 ?_ (R.pres a xa); intro o e); exact ⟨o, c.at q e⟩
  ns := hn
  vals := fun x d e => by
    (refine e1_2 ?_ (R.vals x d e); intro v cu r)
    refine ⟨v, ⟨cu.1, cu.2.imp (fun ⟨a, b⟩ => ⟨a, by rw [hag x (by rw [e]; simp)]; exact b⟩) fun ⟨a, c', e1, e2⟩ => ⟨a, c', e1, cell_congr e2 fun o e => c.at (hcell x c' a e1) e⟩⟩, r.to fun a o xa e => ⟨xa, c.at (fun q => xa (hW a q)) e⟩⟩
  owns := fun x xs e => absurd e (hno x xs)

theorem setAllV_other {x : Str} : ∀ (xs : List Str) (ds : List PyData) (σ : Sto), x ∉ xs → setAllV σ xs ds x = σ x := by
  intro xs
  induction xs with
  | nil => intro ds σ _; rfl
  | cons y ys ih =>
    intro ds σ hn
    cases ds with
    | nil => rfl
    | cons d ds =>
      rw [List.mem_cons, not_or] at hn
      show setAllV (setS σ y (.val d)) ys ds x = σ x
      rw [ih _ _ hn.2]; exact if_neg hn.1
theorem bindT_other {t : Expr} {d : PyData} {τ τ1 : Sto} (h : bindT t d τ = some τ1) : ∀ x, x ∉ tgtNames t → τ1 x = τ x := by
  revert h
  refine alt_r ?_ (bind_r fun ts hts => bind_r fun xs hxs => bind_r fun ds hds => ?_)
  · apply map_r; intro y hy x hx
    (refine e1_1 ?_ (nameOf_some hy); intro p zz1; subst zz1)
    exact if_neg fun q => hx (List.mem_singleton.mpr q)
  · apply ifs_r; intro hlen x hx
    (refine e2_1 ?_ (tupsOf_some hts); intro k p zz1; subst zz1)
    refine setAllV_other xs ds τ fun q => hx ?_
    show x ∈ (namesOf ts).getD []
    rw [hxs]; exact q
theorem setS_noOwn (σ : Sto) (y : Str) (d : PyData) (hσ : ∀ x xs, σ x ≠ some (.own xs)) (x : Str) (xs : List PyData) : setS σ y (.val d) x ≠ some (.own xs) := by
  by_cases q : x = y
  · rw [show setS σ y (.val d) x = some (.val d) from if_pos q]; intro h; cases h
  · rw [show setS σ y (.val d) x = σ x from if_neg q]; exact hσ x xs
theorem setAllV_noOwn : ∀ (xs : List Str) (ds : List PyData) (σ : Sto), (∀ x xs, σ x ≠ some (.own xs)) → ∀ x ys, setAllV σ xs ds x ≠ some (.own ys) := by
  intro xs
  induction xs with
  | nil => intro ds σ h; exact h
  | cons y ys ih =>
    intro ds σ h
    cases ds with
    | nil => exact h
    | cons d ds => exact ih ds _ (setS_noOwn _ _ _ h)
theorem bindT_noOwn {t : Expr} {d : PyData} {τ τ1 : Sto} (h : bindT t d τ = some τ1) (hno : ∀ x xs, τ x ≠ some (.own xs)) : ∀ x xs, τ1 x ≠ some (.own xs) := by
  revert h
  refine alt_r ?_ (bind_r fun ts _ => bind_r fun xs _ => bind_r fun ds _ => ?_)
  · apply map_r; intro y _; exact setS_noOwn _ _ _ hno
  · apply ifs_r; intro _; exact setAllV_noOwn xs ds τ hno

theorem post_any {R : Result → Shared → Prop} {c : Code} (h : ∀ R' : Result → Shared → Prop, (∀ r s', R r s' → R' r s') → codeAny (model prog w) A c R' s) : codeAny (model prog w) A c R s := h R fun _ _ x => x
/-- one loop of a comprehension -/
theorem comp_loop {O : Orc} {elt : Expr} {gens : List Comprehension} {scope : Scope} {pos : Pos} {k : Nat} {itpos : Pos} {target : Expr} {ifs : List Expr} {D I : Addr} {wr : List Addr} {items : List PyData} {St : Nat → Heap → Prop} {τ : Sto} {body : Sto → Option (List PyData)} {emit : Sem Fin}
    (inner : List Str) {acc₀ : List PyData} {vs₀ : List Value} {n₀ : Nat} {ys : List PyData}
    (hh : A.handled = none)
    (hturn : compTurn (.ListComp elt gens scope pos) k (.ref I) (.ref D) env = turnForm itpos target ifs (.ref I) env emit (.compLoop (.ListComp elt gens scope pos) k (.ref I) (.ref D) env))
    (hI : Its prog w A X target I wr items St) (hC : X env.locals) (hD : X D) (hCD : env.locals ≠ D) (hCw : env.locals ∉ wr) (hDw : D ∉ wr)
    (hcell : ∀ x c, env.kindOf x = some .cell → env.cells.lookup x = some c → c ≠ env.locals ∧ c ≠ D ∧ c ∉ wr)
    (hbase : base.get? env.locals = none ∧ base.get? D = none ∧ ∀ b ∈ wr, base.get? b = none)
    (hno : ∀ x xs, τ x ≠ some (.own xs)) (ht : tgtLoc target env.scope.names = true) (hun : ∀ x, x ∈ tgtNames target ∨ x ∈ inner → τ x = none) (hdis : ∀ x ∈ inner, x ∉ tgtNames target)
    (hf : ∀ τ1 s m b, evTs O .And ifs τ1 = some b → RdM base env X τ1 s.heap m →
      wpAny (model prog w) A (forIn ifs true fun c r => if r = true then do let ok ← isTrue c env (eval c env); pure (ForInStep.yield ok) else pure (ForInStep.yield r)) (fun b' s' => b' = b ∧ Keeps s s') NoE s)
    (hemit : ∀ τ1 s m ys acc vs n, (∀ x xs, τ1 x ≠ some (.own xs)) → (∀ x ∈ inner, τ1 x = none) → body τ1 = some ys → RdM base env X τ1 s.heap m → s.heap.get? D = some (listOf vs.toArray n) → RpA X s.heap vs acc → (acc ++ ys).length ≤ 1048576 →
      wpAny (model prog w) A emit (fun fin s' => fin = .again (.compLoop (.ListComp elt gens scope pos) k (.ref I) (.ref D) env) ∧ Ch (fun b => b = env.locals ∨ b = D) s s' ∧ (∃ m', s'.heap.Ns env.locals m' ∧ ∀ x, x ∉ inner → m' x = m x) ∧ ∃ vs' n', s'.heap.get? D = some (listOf vs'.toArray n') ∧ RpA X s'.heap vs' (acc ++ ys)) NoE s)
    (R : RdM base env X τ s.heap m) (hst : St 0 s.heap) (hDl : s.heap.get? D = some (listOf vs₀.toArray n₀)) (hacc : RpA X s.heap vs₀ acc₀) (hys : compItems target (evTs O .And ifs) body τ items = some ys) (htot : (acc₀ ++ ys).length ≤ 1048576) :
    codeAny (model prog w) A (.compLoop (.ListComp elt gens scope pos) k (.ref I) (.ref D) env) (fun r s' => r = .ok .next ∧ Ch (fun b => b = env.locals ∨ b = D ∨ b ∈ wr) s s' ∧
      (∃ m', s'.heap.Ns env.locals m' ∧ ∀ x, x ∉ inner → x ∉ tgtNames target → m' x = m x) ∧ ∃ vs' n', s'.heap.get? D = some (listOf vs'.toArray n') ∧ RpA X s'.heap vs' (acc₀ ++ ys)) s := by
  refine post_any fun R' hR => ?_
  let J : Nat → Shared → Prop := fun n s' => ∃ i m' vs nn acc rest, i ≤ items.length ∧ n = items.length + 1 - i ∧ Ch (fun b => b = env.locals ∨ b = D ∨ b ∈ wr) s s' ∧ RdM base env X τ s'.heap m' ∧ (∀ x, x ∉ inner → x ∉ tgtNames target → m' x = m x) ∧
    s'.heap.get? D = some (listOf vs.toArray nn) ∧ RpA X s'.heap vs acc ∧ St i s'.heap ∧ compItems target (evTs O .And ifs) body τ (items.drop i) = some rest ∧ acc ++ rest = acc₀ ++ ys
  refine codeAny_loop rfl J (fun n s' hJ => ?_) (items.length + 1) ⟨0, m, vs₀, n₀, acc₀, ys, Nat.zero_le _, rfl, Ch.refl _ _, R, fun _ _ _ => rfl, hDl, hacc, hst, by simpa using hys, rfl⟩
  (refine e5_1 ?_ hJ; clear hJ; intro i m₁ vs nn acc zz1; refine e1_10 ?_ zz1; clear zz1; intro rest hi zz2 c R₁ ag hDl₁ hacc₁ st hrest htt; subst zz2)
  show wpAny _ A ((compTurn (.ListComp elt gens scope pos) k (.ref I) (.ref D) env).onRaise (fun x => do noteFrame x env; theTreesLotGoes x)) _ _ s'
  refine wpAny_noted ?_
  rw [hturn]
  unfold turnForm
  refine wpAny_bind (wpAny_standAt (wpAny_bind ?_))
  by_cases hlt : i < items.length
  · have hd : items[i]? = some items[i] := by simp [hlt]
    rw [List.drop_eq_getElem_cons hlt] at hrest
    (refine e4_5 ?_ (compItems_cons hrest); intro τ1 ok here rs hb hfo hhere hrs zz1; subst zz1)
    refine wpAny_mono (hI.item i items[i] s' hd st R₁.pres) (fun r s₁ x => ?_) fun _ _ x => x.elim
    (refine e1_2 ?_ x; clear x; intro v zz1 x; subst zz1)
    dsimp only
    refine wpAny_bind (wpAny_mono x (fun _ s₂ y => ?_) fun _ _ x => x.elim)
    (refine e0_3 ?_ y; clear y; intro c₂ rv st₂)
    have R₂ : RdM base env X τ s₂.heap m₁ := R₁.back c₂ hI.wrX (hI.pres _ _ st₂) hbase.2.2 (R₁.ns.at' fun o e => c₂.at hCw e) (fun _ _ => rfl) hno fun x cc h1 h2 => (hcell x cc h1 h2).2.2
    refine wpAny_bind (wpAny_mono (s_bind_local hh R₂ hb ht hC hbase.1 rv) (fun _ s₃ y => ?_) fun _ _ x => x.elim)
    (refine e0_2 ?_ y; clear y; intro c₃ zz1; refine e1_2 ?_ zz1; clear zz1; intro m₃ R₃ ag₃)
    refine wpAny_bind (wpAny_mono (hf τ1 s₃ m₃ ok hfo R₃) (fun ok' s₄ y => ?_) fun _ _ x => x.elim)
    (refine e0_2 ?_ y; clear y; intro zz1 k₄; subst zz1)
    have R₄ := R₃.up (kle k₄)
    have hD₃ : s₃.heap.get? D = some (listOf vs.toArray nn) := c₃.at hCD.symm (c₂.at hDw hDl₁)
    have hD₄ := kle k₄ _ _ hD₃
    have f24 : ∀ a o, ¬ X a → s'.heap.get? a = some o → s₄.heap.get? a = some o := fun a o xa e => kle k₄ _ _ (c₃.at (fun q => xa (q ▸ hC)) (c₂.at (fun q => xa (hI.wrX a q)) e))
    have hacc₄ : RpA X s₄.heap vs acc := hacc₁.to fun a o xa e => ⟨xa, f24 a o xa e⟩
    have c24 : Ch (fun b => b = env.locals ∨ b ∈ wr) s' s₄ := ((c₂.tr c₃ (W'' := fun b => b = env.locals ∨ b ∈ wr) fun d o nd _ => ⟨fun q => nd (.inr q), fun q => nd (.inl q)⟩).tr (kch k₄ fun _ => False) fun d o nd _ => ⟨nd, id⟩)
    have st₄ : St (i + 1) s₄.heap := hI.frame _ _ _ st₂ fun b o hb e => kle k₄ _ _ (c₃.at (fun q => by
      subst q
      rcases hb with hb | hb
      · exact hb hC
      · exact hCw hb) e)
    have hlen : (acc ++ here).length ≤ 1048576 := by
      have := congrArg List.length htt
      simp only [List.length_append] at this htot ⊢
      lia
    have fin : ∀ s₅ m₅ vs₅ n₅, Ch (fun b => b = env.locals ∨ b = D) s₄ s₅ → s₅.heap.Ns env.locals m₅ → (∀ x, x ∉ inner → m₅ x = m₃ x) → s₅.heap.get? D = some (listOf vs₅.toArray n₅) → RpA X s₅.heap vs₅ (acc ++ here) →
        J (items.length + 1 - (i + 1)) s₅ := fun s₅ m₅ vs₅ n₅ c₅ hn₅ ag₅ hD₅ hacc₅ => by
      have c25 : Ch (fun b => b = env.locals ∨ b = D ∨ b ∈ wr) s' s₅ := c24.tr c₅ fun d o nd _ => ⟨fun q => nd (q.imp id .inr), fun q => nd (q.imp id .inl)⟩
      have st₅ : St (i + 1) s₅.heap := hI.frame _ _ _ st₄ fun b o hb e => c₅.at (fun q => by
        rcases q with rfl | rfl
        · rcases hb with hb | hb
          · exact hb hC
          · exact hCw hb
        · rcases hb with hb | hb
          · exact hb hD
          · exact hDw hb) e
      refine ⟨i + 1, m₅, vs₅, n₅, acc ++ here, rs, hlt, rfl, c.tr c25 fun d o nd _ => ⟨nd, nd⟩, ?_, fun x h1 h2 => ?_, hD₅, hacc₅, st₅, hrs, by rw [List.append_assoc]; exact htt⟩
      · refine R₁.back c25 (fun a q => ?_) (fun a q => ?_) (fun a q => ?_) hn₅ (fun x hx => ?_) hno fun x cc h1 h2 q => ?_
        · rcases q with rfl | rfl | q
          · exact hC
          · exact hD
          · exact hI.wrX a q
        · rcases q with rfl | rfl | q
          · (refine e3_2 ?_ hn₅; clear hn₅; intro o es ep h1 _); exact ⟨o, h1⟩
          · exact ⟨_, hD₅⟩
          · exact hI.pres _ _ st₅ a q
        · rcases q with rfl | rfl | q
          · exact hbase.1
          · exact hbase.2.1
          · exact hbase.2.2 a q
        · have h1 : x ∉ tgtNames target := fun q => hx (hun x (.inl q))
          have h2 : x ∉ inner := fun q => hx (hun x (.inr q))
          rw [ag₅ x h2, ag₃ x h1]
        · (refine e0_3 ?_ (hcell x cc h1 h2); intro q1 q2 q3)
          rcases q with q | q | q
          · exact q1 q
          · exact q2 q
          · exact q3 q
      · rw [ag₅ x h1, ag₃ x h2, ag x h1 h2]
    cases ok' with
    | false =>
      simp only [Bool.false_eq_true, if_false] at hhere ⊢
      cases hhere
      refine wpAny_pure ⟨rfl, _, ?_, fin s₄ m₃ vs nn (Ch.refl _ _) R₄.ns (fun _ _ => rfl) hD₄ (by simpa using hacc₄)⟩
      lia
    | true =>
      simp only [if_true] at hhere ⊢
      refine (wpAny_mono (hemit τ1 s₄ m₃ here acc vs nn (bindT_noOwn hb hno) (fun x hx => by rw [bindT_other hb x (hdis x hx)]; exact hun x (.inr hx)) hhere R₄ hD₄ hacc₄ hlen) (fun _ s₅ y => ?_) fun _ _ x => x.elim)
      (refine e0_4 ?_ y; clear y; intro zz1 c₅ zz2 zz3; subst zz1; refine e1_2 ?_ zz2; clear zz2; intro m₅ hn₅ ag₅; refine e2_2 ?_ zz3; clear zz3; intro vs₅ n₅ hD₅ hacc₅)
      refine ⟨rfl, _, ?_, fin s₅ m₅ vs₅ n₅ c₅ hn₅ ag₅ hD₅ hacc₅⟩
      lia
  · have hin : i = items.length := by lia
    subst hin
    rw [List.drop_length] at hrest
    have : rest = [] := by simp [compItems] at hrest; exact hrest
    subst this
    rw [List.append_nil] at htt
    subst htt
    refine wpAny_mono (hI.done s' st) (fun r s₁ x => ?_) fun _ _ x => x.elim
    (refine e0_2 ?_ x; clear x; intro zz1 c₁; subst zz1)
    exact wpAny_pure (hR (.ok .next) _ ⟨rfl, c.tr c₁ fun d o nd _ => ⟨nd, fun q => nd (.inr (.inr q))⟩, ⟨m₁, R₁.ns.at' fun o e => c₁.at hCw e, ag⟩, vs, nn, c₁.at hDw hDl₁, hacc₁.to fun a o xa e => ⟨xa, c₁.at (fun q => xa (hI.wrX a q)) e⟩⟩)
end
end Mine
end
noncomputable section
open PySem PySem.W PyProof.Rows PySem.Calls PySem.Spec
set_option Elab.async false
namespace Mine

/-- the list xv can be gone through; s: the state ahead of its expression -/
noncomputable def ItRO (prog : Program) (w : World) (A : Around) (X : Addr → Prop) (target : Expr) (items : List PyData) (s : Shared) (xv : Value) (s₁ : Shared) : Prop :=
  wpAny (model prog w) A (pyIter xv) (fun it s₂ => ∃ I wr, it = .ref I ∧ Keeps s s₂ ∧ (∀ b ∈ wr, s.heap.get? b = none ∧ ∃ o, s₂.heap.get? b = some o) ∧
    ∀ X' : Addr → Prop, (∀ b ∈ wr, X' b) → (∀ a o, ¬ X a → a ∉ wr → s₂.heap.get? a = some o → ¬ X' a) → ∃ St, (∀ h, HLe s₂.heap h → St 0 h) ∧ Its prog w A X' target I wr items St) NoE s₁
/-- so, and what is held of the iterator (Core) is apart from what is read through it (Rd) -/
noncomputable def ItR (prog : Program) (w : World) (A : Around) (X : Addr → Prop) (target : Expr) (items : List PyData) (s : Shared) (xv : Value) (s₁ : Shared) : Prop :=
  wpAny (model prog w) A (pyIter xv) (fun it s₂ => ∃ I wr, ∃ (Core : Nat → Heap → Prop) (Rd : (Addr → Prop) → Heap → Prop), it = .ref I ∧ Keeps s s₂ ∧ (∀ b ∈ wr, s.heap.get? b = none ∧ ∃ o, s₂.heap.get? b = some o) ∧ (∀ h, HLe s₂.heap h → Core 0 h) ∧
    ∀ X' : Addr → Prop, (∀ b ∈ wr, X' b) → (∀ a o, ¬ X a → a ∉ wr → s₂.heap.get? a = some o → ¬ X' a) → (∀ h, (∀ b o, ¬ X b → b ∉ wr → s₂.heap.get? b = some o → h.get? b = some o) → Rd X' h) ∧ Its prog w A X' target I wr items (fun i h => Core i h ∧ Rd X' h)) NoE s₁
theorem ItR.o {prog : Program} {w : World} {A : Around} {X : Addr → Prop} {target : Expr} {items : List PyData} {s : Shared} {xv : Value} {s₁ : Shared} (h : ItR prog w A X target items s xv s₁) : ItRO prog w A X target items s xv s₁ := by
  refine wpAny_mono h (fun _ _ y => ?_) fun _ _ x => x
  (refine e4_5 ?_ y; clear y; intro I wr Core Rd e k hw h0 hX)
  exact ⟨I, wr, e, k, hw, fun X' a b => ⟨_, fun h q => ⟨h0 h q, (hX X' a b).1 h fun b o _ _ e => q b o e⟩, (hX X' a b).2⟩⟩
theorem Its.congr {prog : Program} {w : World} {A : Around} {X : Addr → Prop} {target : Expr} {I : Addr} {wr : List Addr} {items : List PyData} {St St' : Nat → Heap → Prop} (h : Its prog w A X target I wr items St) (e : ∀ i h, St i h ↔ St' i h) : Its prog w A X target I wr items St' := by
  have : St = St' := by funext i h; exact propext (e i h)
  exact this ▸ h

theorem none_size (h : Heap) {k : Nat} (hk : h.objs.size ≤ k) : h.get? k = none := by
  cases e : h.get? k with
  | none => rfl
  | some o => exact absurd (Heap.lt_size e) (Nat.not_lt.mpr hk)
theorem none_old {h h' : Heap} (k : HLe h h') {a : Addr} (e : h'.get? a = none) : h.get? a = none := by
  cases q : h.get? a with
  | none => rfl
  | some o => rw [k a o q] at e; cases e

section
variable {prog : Program} {w : World} {A : Around} {X : Addr → Prop} {base : Heap} {mg mb : Str → Option Value} {env : Env} {σ : Sto} {s s₀ : Shared} {m : Str → Option Value}

theorem itr_list {target : Expr} (ht : (∃ x p, target = .Name x p) ∨ ∃ es k p, target = .Tuple es k p) (hh : A.handled = none) {xv : Value} {items : List PyData} (k₀ : Keeps s₀ s) (r : Rp X s.heap xv (.list items)) : ItR prog w A X target items s₀ xv s := by
  cases r with
  | list hx g q =>
    rename_i l vs n
    refine wpAny_pyIter_list (isList_of g) ⟨s.heap.objs.size, [s.heap.objs.size], fun i h => h.IsListIter s.heap.objs.size l i ∧ h.get? l = some (listOf vs.toArray n), fun X' h => RpA X' h vs items, rfl, ktr k₀ (keeps_push' _ _), fun b hb => ?_, fun h k => ?_, fun X' h1 h2 => ?_⟩
    · rw [List.mem_singleton.mp hb]; exact ⟨none_old (kle k₀) (none_size _ (Nat.le_refl _)), _, Heap.get?_push_size _ rfl⟩
    · exact ⟨⟨_, k _ _ (Heap.get?_push_size _ rfl), rfl, rfl⟩, k _ _ (Heap.get?_push_of_some _ g)⟩
    · have kp : HLe s.heap (s.heap.push { cls := .type "list_iterator", data := .fields #[.ref l, .int 0 0] }) := fun b o e => Heap.get?_push_of_some _ e
      have off : ∀ a o, s.heap.get? a = some o → a ∉ [s.heap.objs.size] := fun a o e hm => by rw [List.mem_singleton.mp hm] at e; exact Nat.lt_irrefl _ (Heap.lt_size e)
      have h2' : ∀ a o, ¬ X a → s.heap.get? a = some o → ¬ X' a := fun a o x e => h2 a o x (off a o e) (kp a o e)
      exact ⟨fun h k => q.to fun a o x e => ⟨h2' a o x e, k a o x (off a o e) (kp a o e)⟩, (its_list (vs := vs) (n := n) ht hh (l := l) (h1 _ (by simp)) (h2' _ _ hx g)).congr fun i h => and_assoc.symm⟩

theorem tup_at {h h' : Heap} {a : Addr} {vs : Array Value} (x : h.IsTuple a vs) (k : ∀ o, h.get? a = some o → h'.get? a = some o) : h'.IsTuple a vs := let ⟨o, e, r⟩ := x; ⟨o, k o e, r⟩
theorem tupit_at {h h' : Heap} {a t : Addr} {i : Nat} (x : h.IsTupleIter a t i) (k : ∀ o, h.get? a = some o → h'.get? a = some o) : h'.IsTupleIter a t i := let ⟨o, e, r⟩ := x; ⟨o, k o e, r⟩

theorem letGo_tuple {target : Expr} (ht : (∃ x p, target = .Name x p) ∨ ∃ es k p, target = .Tuple es k p) {I l : Addr} {i : Nat} {v : Value} {d : PyData} {s : Shared} {Q : Unit → Shared → Prop} (r : Rp X s.heap v d)
    (hit : s.heap.IsTupleIter I l i) (h : Q () s) : wpAny (model prog w) A (letOwnedTupleGo target (.ref I) v) Q NoE s := by
  rcases ht with ⟨x, p, rfl⟩ | ⟨es, k, p, rfl⟩
  · exact letGo_name h
  · have go : ∀ a, wpAny (model prog w) A (letOwnedTupleGo (.Tuple es k p) (.ref I) (.ref a)) Q NoE s := fun a => by
      (refine e1_3 ?_ hit; clear hit; intro o ho hc hd)
      unfold letOwnedTupleGo
      refine wpAny_bind (wpAny_load ho ?_)
      rw [hc, hd]
      refine wpAny_ite ?_
      have hne : (["enumerate", "zip", "dict_itemiterator", "dict_reverseitemiterator", "odict_iterator", "itertools.zip_longest", "itertools.pairwise"].contains "tuple_iterator") = false := by decide
      rw [hne, Bool.false_and, if_neg (by decide)]
      exact wpAny_pure h
    cases r <;> first | exact go _ | exact wpAny_of_eq (by rfl) h

theorem itr_tuple {target : Expr} (ht : (∃ x p, target = .Name x p) ∨ ∃ es k p, target = .Tuple es k p) (hh : A.handled = none) {xv : Value} {items : List PyData} (k₀ : Keeps s₀ s) (r : Rp X s.heap xv (.tuple items)) : ItR prog w A X target items s₀ xv s := by
  cases r with
  | tuple hx g q =>
    rename_i l vs
    (refine e1_2 ?_ (id g); intro o0 ho0 _)
    refine wpAny_pyIter_tuple g ⟨s.heap.objs.size, [s.heap.objs.size], fun i h => h.IsTupleIter s.heap.objs.size l i ∧ h.IsTuple l vs.toArray, fun X' h => RpA X' h vs items, rfl, ktr k₀ (keeps_push' _ _), fun b hb => ?_, fun h k => ?_, fun X' h1 h2 => ?_⟩
    · rw [List.mem_singleton.mp hb]; exact ⟨none_old (kle k₀) (none_size _ (Nat.le_refl _)), _, Heap.get?_push_size _ rfl⟩
    · exact ⟨⟨_, k _ _ (Heap.get?_push_size _ rfl), rfl, rfl⟩, tup_at g fun o e => k _ _ (Heap.get?_push_of_some _ e)⟩
    · have kp : HLe s.heap (s.heap.push { cls := .type "tuple_iterator", data := .fields #[.ref l, .int 0 0] }) := fun b o e => Heap.get?_push_of_some _ e
      have off : ∀ a o, s.heap.get? a = some o → a ∉ [s.heap.objs.size] := fun a o e hm => by rw [List.mem_singleton.mp hm] at e; exact Nat.lt_irrefl _ (Heap.lt_size e)
      have h2' : ∀ a o, ¬ X a → s.heap.get? a = some o → ¬ X' a := fun a o x e => h2 a o x (off a o e) (kp a o e)
      have hl : ¬ X' l := h2' _ _ hx ho0
      have hI : X' s.heap.objs.size := h1 _ (by simp)
      have hne : l ≠ s.heap.objs.size := fun e => hl (e ▸ hI)
      refine ⟨fun h k => q.to fun a o x e => ⟨h2' a o x e, k a o x (off a o e) (kp a o e)⟩, ?_⟩
      exact {
        wrX := fun b hb => by rw [List.mem_singleton.mp hb]; exact hI
        pres := fun i h st b hb => by rw [List.mem_singleton.mp hb]; (refine e0_2 ?_ st; clear st; intro zz1 _; refine e0_2 ?_ zz1; clear zz1; intro zz2 _; refine e1_2 ?_ zz2; clear zz2; intro o ho _); exact ⟨o, ho⟩
        frame := fun i h h' st k => ⟨⟨tupit_at st.1.1 fun o e => k _ o (.inr (by simp)) e, tup_at st.1.2 fun o e => k _ o (.inl hl) e⟩, st.2.to fun a o x e => ⟨x, k a o (.inl x) e⟩⟩
        item := fun i d s hd st pr => by
          (refine e1_2 ?_ (st.2.get i d hd); intro v hv rv)
          refine wpAny_pyNext_tuple_item st.1.1 st.1.2 (x := v) (by simpa using hv) fun h' hit hs => ?_
          have k : ∀ a o, ¬ X' a → s.heap.get? a = some o → h'.get? a = some o := fun a o x e => (hs.2 a (fun e' => x (e' ▸ hI))).trans e
          have rv' : Rp X' h' v d := rv.to fun a o x e => ⟨x, k a o x e⟩
          exact ⟨v, rfl, letGo_tuple (s := { s with heap := h' }) (d := d) ht rv' hit ⟨ch_heap s h' s.toks fun b o nb e => (hs.2 b (fun e' => nb (by simp [e']))).trans e, rv.to fun a o x e => ⟨x, k a o x e⟩, ⟨hit, tup_at st.1.2 fun o e => k _ o hl e⟩, st.2.to fun a o x e => ⟨x, k a o x e⟩⟩⟩
        done := fun s st => by
          have hlen := st.2.length
          exact wpAny_pyNext_tuple_end hh st.1.1 st.1.2 (by simp [hlen]) fun h' he => ⟨rfl, ch_heap s h' s.toks fun b o nb e => he b o (fun e' => nb (by simp [e'])) e⟩
        self := fun i s st => wpAny_pyIter_tupleiter st.1.1 ⟨rfl, rfl⟩ }

theorem itr_items {target : Expr} (ht : (∃ x p, target = .Name x p) ∨ ∃ es k p, target = .Tuple es k p) (hh : A.handled = none) {xv : Value} {d : PyData} {items : List PyData} (hi : itemsOf d = some items) (k₀ : Keeps s₀ s) (r : Rp X s.heap xv d) : ItR prog w A X target items s₀ xv s := by
  revert hi
  refine alt_r (fun h => ?_) fun h => ?_
  · obtain rfl := listOf_some h; exact itr_list ht hh k₀ r
  · obtain rfl := tupOf_some h; exact itr_tuple ht hh k₀ r

theorem itr_enum {es : List Expr} {kk : Nat} {p : Pos} (hh : A.handled = none) {lv : Value} {xs : List PyData} (k₀ : Keeps s₀ s) (r : Rp X s.heap lv (.list xs)) :
    wpAny (model prog w) A (call (.type "enumerate") [lv] []) (fun xv s₁ => Keeps s s₁ ∧ ItR prog w A X (.Tuple es kk p) (enumL 0 xs) s₀ xv s₁) NoE s := by
  cases r with
  | list hx g q =>
    rename_i l vs n
    refine call_enumerate_list (isList_of g) fun h' hE hI hsz hk => ⟨keeps_heap s h' s.toks hk, ?_⟩
    have kk' : Keeps s₀ { s with heap := h' } := ktr k₀ (keeps_heap s h' s.toks hk)
    refine wpAny_pyIter_enum hE ⟨s.heap.objs.size + 1, [s.heap.objs.size + 1, s.heap.objs.size], fun i h => (∃ old, IsEnum h (s.heap.objs.size + 1) s.heap.objs.size i old) ∧ h.IsListIter s.heap.objs.size l i ∧ h.get? l = some (listOf vs.toArray n), fun X' h => RpA X' h vs xs, rfl, kk', fun b hb => ?_, fun h k => ?_, fun X' h1 h2 => ?_⟩
    · have : s.heap.objs.size ≤ b ∧ ∃ o, h'.get? b = some o := by
        rcases List.mem_cons.mp hb with rfl | hb
        · exact ⟨Nat.le_succ _, _, hE⟩
        · rw [List.mem_singleton.mp hb]; (refine e1_2 ?_ hI; clear hI; intro o ho _); exact ⟨Nat.le_refl _, o, ho⟩
      exact ⟨none_old (kle k₀) (none_size _ this.1), this.2⟩
    · exact ⟨⟨.none, k _ _ hE⟩, hI.at fun o e => k _ o e, k _ _ (hk _ _ g)⟩
    · have off : ∀ a o, s.heap.get? a = some o → a ∉ [s.heap.objs.size + 1, s.heap.objs.size] := fun a o e hm => by
        have h1 := Heap.lt_size e
        rcases List.mem_cons.mp hm with q | hm
        · rw [q] at h1; exact Nat.not_succ_lt_self h1
        · rw [List.mem_singleton.mp hm] at h1; exact Nat.lt_irrefl _ h1
      have h2' : ∀ a o, ¬ X a → s.heap.get? a = some o → ¬ X' a := fun a o x e => h2 a o x (off a o e) (hk a o e)
      exact ⟨fun h k => q.to fun a o x e => ⟨h2' a o x e, k a o x (off a o e) (hk a o e)⟩, (its_enum (vs := vs) (n := n) (xs := xs) (it := s.heap.objs.size) (l := l) hh (h1 _ (by simp)) (h1 _ (by simp)) (h2' _ _ hx g) (Nat.succ_ne_self _)).congr fun i h => by simp only [and_assoc]⟩

theorem size_small {a b c : Int} (ha : smallI a = true) (hb : smallI b = true) (hc : c ≠ 0 ∧ -1000 ≤ c ∧ c ≤ 1000) : Builtin.Range.small a b c = true ∧ 0 ≤ Builtin.Range.rangeSize a b c := by
  (refine e0_2 ?_ (smallI_iff.mp ha); intro a1 a2)
  (refine e0_2 ?_ (smallI_iff.mp hb); intro b1 b2)
  (refine e0_3 ?_ hc; clear hc; intro c0 c1 c2)
  have hs : 0 ≤ Builtin.Range.rangeSize a b c ∧ Builtin.Range.rangeSize a b c < 2 ^ 63 := by
    unfold Builtin.Range.rangeSize
    split
    · split
      · have h1 : 0 ≤ (b - a - 1) / c := Int.ediv_nonneg (by lia) (by lia)
        have h2 : (b - a - 1) / c ≤ b - a - 1 := Int.ediv_le_self _ (by lia)
        lia
      · lia
    · split
      · have h1 : 0 ≤ (a - b - 1) / -c := Int.ediv_nonneg (by lia) (by lia)
        have h2 : (a - b - 1) / -c ≤ a - b - 1 := Int.ediv_le_self _ (by lia)
        lia
      · lia
  refine ⟨?_, hs.1⟩
  have fl : ∀ i : Int, -(2 ^ 63) ≤ i → i < 2 ^ 63 → Builtin.Range.rangeFitsLong i = true := fun i h1 h2 => by
    simp only [Builtin.Range.rangeFitsLong, Bool.and_eq_true, decide_eq_true_eq]; exact ⟨h1, h2⟩
  unfold Builtin.Range.small
  rw [fl a (by lia) (by lia), fl b (by lia) (by lia), fl c (by lia) (by lia), fl _ (by lia) hs.2]
  simp only [Bool.true_and, Bool.or_eq_true]
  right
  split
  · exact fl _ (by lia) (by lia)
  · exact fl _ (by lia) (by lia)

theorem itr_rangeObj {x : Str} {p : Pos} (hh : A.handled = none) {r : Addr} {a b c : Int} {t u v : Tok} (k₀ : Keeps s₀ s) (hr : IsRange s.heap r a b c t u v) (hs : Builtin.Range.small a b c = true ∧ 0 ≤ Builtin.Range.rangeSize a b c) :
    ItR prog w A X (.Name x p) (rangeL a b c) s₀ (.ref r) s := by
  refine wpAny_pyIter_range hr hs.1 ⟨s.heap.objs.size, [s.heap.objs.size], fun i h => IsRangeIter h s.heap.objs.size (a + (i : Nat) * c) (((Builtin.Range.rangeSize a b c).toNat : Int) - (i : Nat)) c, fun _ _ => True, rfl, ktr k₀ (keeps_push' _ _), fun b hb => ?_, fun h k => ?_, fun X' h1 h2 => ?_⟩
  · rw [List.mem_singleton.mp hb]; exact ⟨none_old (kle k₀) (none_size _ (Nat.le_refl _)), _, Heap.get?_push_size _ rfl⟩
  · have := k _ _ (Heap.get?_push_size s.heap (o := { cls := .type "range_iterator", data := .fields #[rawInt a, rawInt (Builtin.Range.rangeSize a b c), rawInt c] }) rfl)
    show IsRangeIter h s.heap.objs.size (a + ((0 : Nat) : Int) * c) (((Builtin.Range.rangeSize a b c).toNat : Int) - ((0 : Nat) : Int)) c
    have e1 : a + ((0 : Nat) : Int) * c = a := by simp
    have e2 : ((Builtin.Range.rangeSize a b c).toNat : Int) - ((0 : Nat) : Int) = Builtin.Range.rangeSize a b c := by have := hs.2; lia
    rw [e1, e2]; exact this
  · exact ⟨fun _ _ => trivial, (its_range (n := (Builtin.Range.rangeSize a b c).toNat) (a := a) (c := c) hh (h1 _ (by simp))).congr fun i h => by simp⟩

theorem itr_range {x : Str} {p : Pos} (hh : A.handled = none) {vals : List Value} {ds items : List PyData} (hv : rangeV ds = some items) (k₀ : Keeps s₀ s) (r : RpA X s.heap vals ds) :
    wpAny (model prog w) A (call (.type "range") vals []) (fun xv s₁ => Keeps s s₁ ∧ ItR prog w A X (.Name x p) items s₀ xv s₁) NoE s := by
  revert hv r
  cases ds with
  | nil => exact none_r
  | cons d1 ds =>
    refine bind_r fun a ha => ?_
    obtain rfl := intOf_some ha
    clear ha
    cases ds with
    | nil =>
      apply ifs_r; intro h
      apply cons_v; intro v1 vs r1; apply nil_v
      revert r1; apply int_v; intro t1
      exact call_range_1 ⟨keeps_push _ _ _, itr_rangeObj hh (ktr k₀ (keeps_push _ _ _)) (IsRange.new ..) (size_small (by decide) h (by decide))⟩
    | cons d2 ds =>
      refine bind_r fun b hb => ?_
      obtain rfl := intOf_some hb
      clear hb
      cases ds with
      | nil =>
        apply ifs_r; refine and_r fun h1 h2 => ?_
        apply cons_v; intro v1 vs r1; apply cons_v; intro v2 vs r2; apply nil_v
        revert r1; apply int_v; intro t1
        revert r2; apply int_v; intro t2
        exact call_range_2 ⟨keeps_push _ _ _, itr_rangeObj hh (ktr k₀ (keeps_push _ _ _)) (IsRange.new ..) (size_small h1 h2 (by decide))⟩
      | cons d3 ds =>
        refine bind_r fun c hc => ?_
        obtain rfl := intOf_some hc
        clear hc
        cases ds with
        | nil =>
          apply ifs_r; refine and_r fun h1 => and_r fun h2 => and_r fun h3 => and_r fun h4 h5 => ?_
          replace h3 := of_decide_eq_true h3; replace h4 := of_decide_eq_true h4; replace h5 := of_decide_eq_true h5
          apply cons_v; intro v1 vs r1; apply cons_v; intro v2 vs r2; apply cons_v; intro v3 vs r3; apply nil_v
          revert r1; apply int_v; intro t1
          revert r2; apply int_v; intro t2
          revert r3; apply int_v; intro t3
          exact call_range_3 h3 ⟨keeps_push _ _ _, itr_rangeObj hh (ktr k₀ (keeps_push _ _ _)) (IsRange.new ..) (size_small h1 h2 ⟨h3, h4, h5⟩)⟩ (.inl (PyProof.noPylong_small (by lia)))
        | cons _ _ => exact none_r
end
end Mine
end
noncomputable section
open PySem PySem.W PyProof.Rows PySem.Calls PySem.Spec
set_option Elab.async false
namespace Mine

noncomputable def clF (cells : List (Str × Addr)) : List (Str × NameKind) → List (Str × Addr) → List (Str × Addr)
  | [], acc => acc
  | (n, k) :: r, acc => clF cells r (if k == .free then (n, (cells.lookup n).getD 0) :: acc else acc)
theorem clF_sound (cells : List (Str × Addr)) : ∀ (ns : List (Str × NameKind)) (acc : List (Str × Addr)), (∀ n, (n, NameKind.free) ∈ ns → ∃ c, cells.lookup n = some c) →
    (∀ x c, acc.lookup x = some c → cells.lookup x = some c) → ∀ x c, (clF cells ns acc).lookup x = some c → cells.lookup x = some c
  | [], acc, _, h, x, c, e => h x c e
  | (n, k) :: r, acc, hf, h, x, c, e => by
    refine clF_sound cells r _ (fun n' hn' => hf n' (by simp [hn'])) (fun y d q => ?_) x c e
    split at q
    · rename_i hk
      have hk' : k = .free := by simpa using hk
      subst hk'
      rw [List.lookup_cons] at q
      split at q
      · rename_i hy
        (refine e1_1 ?_ (hf n (by simp)); intro c' hc')
        have : y = n := by simpa using hy
        subst this
        rw [hc'] at q ⊢
        simpa using q
      · exact h y d q
    · exact h y d q
theorem clF_total (cells : List (Str × Addr)) : ∀ (ns : List (Str × NameKind)) (acc : List (Str × Addr)) (x : Str), ((x, NameKind.free) ∈ ns ∨ (acc.lookup x).isSome = true) → ((clF cells ns acc).lookup x).isSome = true
  | [], acc, x, h => h.elim (fun q => by cases q) id
  | (n, k) :: r, acc, x, h => by
    refine clF_total cells r _ x ?_
    rcases h with h | h
    · rcases List.mem_cons.mp h with q | q
      · cases q; right; simp [List.lookup_cons]
      · exact .inl q
    · right
      split
      · rw [List.lookup_cons]; split
        · rfl
        · exact h
      · exact h
theorem lookup_mem {n : Str} {k : NameKind} : ∀ {ns : List (Str × NameKind)}, ns.lookup n = some k → (n, k) ∈ ns
  | [], h => by cases h
  | (a, b) :: r, h => by
    rw [List.lookup_cons] at h
    split at h
    · rename_i q
      have : n = a := by simpa using q
      subst this; cases h; exact .head _
    · exact .tail _ (lookup_mem h)

theorem relNames_lookup (K : Nms) (x : Str) : ∀ ns : List (Str × NameKind), (ns.map fun (p : Str × NameKind) => if (p.2 == .free && K.lookup p.1 == some .cell) then (p.1, NameKind.cell) else (p.1, p.2)).lookup x =
    (ns.lookup x).map fun k => if (k == .free && K.lookup x == some .cell) then NameKind.cell else k
  | [] => rfl
  | (n, k) :: r => by
    have ih := relNames_lookup K x r
    have e : ∀ (k' : NameKind) (l : List (Str × NameKind)), List.lookup x ((n, k') :: l) = if x = n then some k' else List.lookup x l := fun k' l => by
      rw [List.lookup_cons]
      by_cases h : x = n
      · subst h; simp
      · have hb : (x == n) = false := by simpa using h
        rw [hb, if_neg h]
    rw [List.map_cons, e]
    by_cases c : (k == .free && K.lookup n == some .cell) = true
    · simp only [if_pos c]
      rw [e]
      by_cases h : x = n
      · subst h; simp only [if_true, Option.map_some, if_pos c]
      · rw [if_neg h, if_neg h, ih]
    · simp only [if_neg c]
      rw [e]
      by_cases h : x = n
      · subst h; simp only [if_true, Option.map_some, if_neg c]
      · rw [if_neg h, if_neg h, ih]

structure ScopeOk (scope : Scope) (K : Nms) : Prop where
  kind : scope.kind = .function
  each : ∀ n k, (n, k) ∈ scope.names → (k = .local ∧ scope.names.lookup n = some .local) ∨ (k = .free ∧ scope.names.lookup n = some .free ∧ K.lookup n = some .cell) ∨ k = .globalImplicit
theorem scopeOk_spec {scope : Scope} {K : Nms} (h : scopeOk scope K = true) : ScopeOk scope K := by
  simp only [scopeOk, Bool.and_eq_true, beq_iff_eq] at h
  refine ⟨h.1, fun n k hm => ?_⟩
  have := List.all_eq_true.mp h.2 (n, k) hm
  simp only [Bool.or_eq_true, Bool.and_eq_true, beq_iff_eq] at this
  rcases this with (⟨a, b⟩ | ⟨⟨a, b⟩, c⟩) | a
  · exact .inl ⟨a, b⟩
  · exact .inr (.inl ⟨a, b, c⟩)
  · exact .inr (.inr a)

section
variable {prog : Program} {w : World} {A : Around} {X : Addr → Prop} {base : Heap} {mg mb : Str → Option Value} {env : Env} {σ : Sto} {s : Shared} {m : Str → Option Value}

theorem closure_ok {scope : Scope} (R : RdM base env X σ s.heap m) (S : ScopeOk scope env.scope.names) :
    ∃ cl, closureFor scope env = pure cl ∧ (∀ x c, cl.lookup x = some c → env.cells.lookup x = some c) ∧ ∀ x, scope.names.lookup x = some .free → ∃ c, cl.lookup x = some c := by
  have hf : ∀ n, (n, NameKind.free) ∈ scope.names → ∃ c, env.cells.lookup n = some c := fun n hn => by
    rcases S.each n _ hn with ⟨a, _⟩ | ⟨_, _, c⟩ | a
    · cases a
    · exact R.ci n c
    · cases a
  refine ⟨clF env.cells scope.names [], ?_, clF_sound _ _ _ hf (fun x c e => by cases e), fun x hx => ?_⟩
  · unfold closureFor
    have go : ∀ (ns : List (Str × NameKind)) (acc : List (Str × Addr)), (∀ n, (n, NameKind.free) ∈ ns → ∃ c, env.cells.lookup n = some c) →
        (forIn ns acc fun x r => (match x with | (name, kind) => if (kind == NameKind.free) = true then do let a ← cellOf env name; pure (ForInStep.yield ((name, a) :: r)) else pure (ForInStep.yield r) : Sem (ForInStep (List (Str × Addr))))) = pure (clF env.cells ns acc) := by
      intro ns
      induction ns with
      | nil => intro acc _; rfl
      | cons a r ih =>
        intro acc h
        obtain ⟨n, k⟩ := a
        rw [List.forIn_cons]
        cases hk : k == NameKind.free with
        | false =>
          simp only [hk, Bool.false_eq_true, if_false, clF]
          exact ih acc fun n' hn' => h n' (by simp [hn'])
        | true =>
          have hk' : k = .free := by simpa using hk
          subst hk'
          (refine e1_1 ?_ (h n (by simp)); intro c hc)
          have hcell : cellOf env n = pure c := by unfold cellOf; rw [hc]
          simp only [clF, hcell, hc]
          exact ih _ fun n' hn' => h n' (by simp [hn'])
    have := go scope.names [] hf
    show (forIn scope.names [] _ >>= fun r => pure r) = _
    rw [show (forIn scope.names ([] : List (Str × Addr)) _ : Sem _) = _ from this]
    rfl
  · (refine e1_1 ?_ (Option.isSome_iff_exists.mp (clF_total env.cells scope.names [] x (.inl (lookup_mem hx)))); intro c hc)
    exact ⟨c, hc⟩

theorem kind_rel {scope : Scope} {cl : List (Str × Addr)} {C : Addr} (R : RdM base env X σ s.heap m) (x : Str) :
    (compEnvC scope cl C env).kindOf x = (scope.names.lookup x).map fun k => if (k == .free && env.scope.names.lookup x == some .cell) then NameKind.cell else k := by
  have : (compEnvC scope cl C env).scope.names = scope.names.map fun (p : Str × NameKind) => if (p.2 == .free && env.scope.names.lookup p.1 == some .cell) then (p.1, NameKind.cell) else (p.1, p.2) := by
    show (relabel scope env).names = _
    unfold relabel
    simp only [R.fn, beq_self_eq_true, Bool.and_true]
    rfl
  show (compEnvC scope cl C env).scope.names.lookup x = _
  rw [this, relNames_lookup]
theorem rel_names {scope : Scope} {cl : List (Str × Addr)} {C : Addr} (R : RdM base env X σ s.heap m) : (compEnvC scope cl C env).scope.names = relNames env.scope.names scope := by
  show (relabel scope env).names = _
  unfold relabel relNames
  simp only [R.fn, beq_self_eq_true, Bool.and_true]
  rfl

theorem kind_cell {scope : Scope} {cl : List (Str × Addr)} {C : Addr} (R : RdM base env X σ s.heap m) (S : ScopeOk scope env.scope.names) {x : Str} (hx : (compEnvC scope cl C env).kindOf x = some .cell) : scope.names.lookup x = some .free ∧ env.scope.names.lookup x = some .cell := by
  rw [kind_rel R] at hx
  (refine e1_2 ?_ (Option.map_eq_some_iff.mp hx); intro k hk e)
  split at e
  · rename_i q
    simp only [Bool.and_eq_true, beq_iff_eq] at q
    rw [q.1] at hk
    exact ⟨hk, q.2⟩
  · subst e
    rcases S.each x _ (lookup_mem hk) with ⟨a, _⟩ | ⟨a, _⟩ | a <;> cases a

theorem comp_core {elt : Expr} {scope : Scope} {pos p : Pos} {t i : Expr} {ifs : List Expr} {gs : List Comprehension} {items ys : List PyData} {use : Option (Value → Sem Unit)} {Q : Value → Shared → Prop}
    (R : RdM base env X σ s.heap m) (S : ScopeOk scope env.scope.names)
    (hi : ∀ x, foldedSetIterable i env x = pure x)
    (hit : wpAny (model prog w) A (eval i env) (fun xv s₁ => Keeps s s₁ ∧ ItRO prog w A X t items s xv s₁) NoE s)
    (hloop : ∀ (cenv : Env) (D I : Addr) (wr : List Addr) (St : Nat → Heap → Prop) (X' : Addr → Prop) (s₄ : Shared) (m₄ : Str → Option Value), cenv.scope.names = relNames env.scope.names scope → RdM base cenv X' (compSto scope σ) s₄.heap m₄ →
      (∀ x xs, compSto scope σ x ≠ some (.own xs)) → X' cenv.locals → X' D → cenv.locals ≠ D → cenv.locals ∉ wr → D ∉ wr → (∀ x c, cenv.kindOf x = some .cell → cenv.cells.lookup x = some c → c ≠ cenv.locals ∧ c ≠ D ∧ c ∉ wr) →
      (base.get? cenv.locals = none ∧ base.get? D = none ∧ ∀ b ∈ wr, base.get? b = none) → Its prog w A X' t I wr items St → St 0 s₄.heap → s₄.heap.get? D = some (listOf ([] : List Value).toArray 0) →
      codeAny (model prog w) A (.compLoop (.ListComp elt (⟨t, i, ifs, 0⟩ :: gs) scope pos) 0 (.ref I) (.ref D) cenv)
        (fun r s' => r = .ok .next ∧ Ch (fun b => b = cenv.locals ∨ b = D ∨ b ∈ wr) s₄ s' ∧ (∃ m', s'.heap.Ns cenv.locals m') ∧ ∃ vs' n', s'.heap.get? D = some (listOf vs'.toArray n') ∧ RpA X' s'.heap vs' ys) s₄)
    (hQ : ∀ (D C : Addr) (vs : List Value) (n : Nat) (s' : Shared) (m' : Str → Option Value), Keeps s s' → s.heap.get? D = none → s.heap.get? C = none → D ≠ C → s'.heap.Ns C m' → s'.heap.get? D = some (listOf vs.toArray n) →
      RpA (fun a => X a ∨ a = C ∨ a = D) s'.heap vs ys → compPost (model prog w) A NoE use Q (.ref D) C (.ok .next) s') :
    wpAny (model prog w) A (comprehension (.ListComp elt (⟨t, i, ifs, 0⟩ :: gs) scope pos) scope env p (newList []) false (eval i env) use) Q NoE s := by
  (refine e1_3 ?_ (closure_ok R S); intro cl hcl hcl1 hcl2)
  refine wpAny_comprehension_free (g := ⟨t, i, ifs, 0⟩) (gs := gs) (cl := cl) rfl hi hcl S.kind (fun x hx hl => ?_) (wpAny_mono hit (fun xv s₁ h₁ => wpAny_mono h₁.2 (fun it s₂ h₂ => ?_) fun _ _ x => x) fun _ _ x => x)
  · rcases S.each x.1 x.2 hx with ⟨_, b⟩ | ⟨a, _⟩ | a
    · exact b
    · rw [hl] at a; cases a
    · rw [hl] at a; cases a
  (refine e2_4 ?_ h₂; clear h₂; intro I wr zz1 k₂ hwr hIts; subst zz1)
  refine wpAny_newObj_type (wpAny_newFunctionEnv (fun x hx => ?_) (by intro y hy; simp at hy) (fun h₁ hns₁ hsb₁ => ?_) S.kind)
  · rcases S.each x.1 x.2 hx with ⟨a, _⟩ | ⟨a, _⟩ | a <;> rw [a] <;> simp
  dsimp only at hns₁ hsb₁ ⊢
  generalize hH2 : s₂.heap.push { cls := .type "list", dict := none, data := .seq ([] : List Value).toArray } = H2 at hns₁ hsb₁ ⊢
  have hC : H2.objs.size = s₂.heap.objs.size + 1 := by rw [← hH2, Heap.size_push]
  have hDC : s₂.heap.objs.size ≠ H2.objs.size := by rw [hC]; exact Nat.ne_of_lt (Nat.lt_succ_self _)
  have below : ∀ b o, s₂.heap.get? b = some o → b ≠ H2.objs.size ∧ b ≠ s₂.heap.objs.size := fun b o e => by
    have := Heap.lt_size e
    exact ⟨by rw [hC]; exact Nat.ne_of_lt (Nat.lt_succ_of_lt this), Nat.ne_of_lt this⟩
  have old : HLe s₂.heap h₁ := fun b o e => hsb₁.extBut b o (below b o e).1 (Heap.get?_push_of_some _ (hH2 ▸ Heap.get?_push_of_some _ e))
  have hDl : h₁.get? s₂.heap.objs.size = some (listOf ([] : List Value).toArray 0) := hsb₁.extBut _ _ hDC (Heap.get?_push_of_some _ (hH2 ▸ Heap.get?_push_size _ rfl))
  have nC : s₂.heap.get? H2.objs.size = none := none_size _ (by rw [hC]; exact Nat.le_succ _)
  have nD : s₂.heap.get? s₂.heap.objs.size = none := none_size _ (Nat.le_refl _)
  have wrP : ∀ b ∈ wr, ∃ o, s₂.heap.get? b = some o := fun b hb => (hwr b hb).2
  let X' : Addr → Prop := fun a => X a ∨ a = H2.objs.size ∨ a = s₂.heap.objs.size ∨ a ∈ wr
  (refine e1_2 ?_ (hIts X' (fun b hb => .inr (.inr (.inr hb))) fun a o xa aw e q => by
    rcases q with q | q | q | q
    · exact xa q
    · rw [q, nC] at e; cases e
    · rw [q, nD] at e; cases e
    · exact aw q); intro St hSt hI)
  have base2 : HLe base s₂.heap := fun b o e => kle k₂ b o (R.ba b o e)
  have R₄ : RdM base (compEnvC scope cl H2.objs.size env) X' (compSto scope σ) h₁ (fun x => List.lookup x ([] : List (Str × Value)).reverse) := {
    fn := S.kind, gl := R.gl, bl := R.bl
    ba := fun b o e => old b o (base2 b o e)
    pres := fun a xa => by
      rcases xa with xa | xa | xa | xa
      · (refine e1_1 ?_ (R.pres a xa); intro o e); exact ⟨o, old _ _ (kle k₂ _ _ e)⟩
      · rw [xa]; (refine e3_2 ?_ hns₁; clear hns₁; intro o es ep h1 _); exact ⟨o, h1⟩
      · rw [xa]; exact ⟨_, hDl⟩
      · (refine e1_1 ?_ (wrP a xa); intro o e); exact ⟨o, old _ _ e⟩
    ns := hns₁
    ci := fun x hx => by
      exact hcl2 x (kind_cell R S hx).1
    cellAt := fun x c h1 h2 => by
      have hK := (kind_cell R S h1).2
      (refine e1_1 ?_ (R.cellAt x c hK (hcl1 x c h2)); intro u hu)
      exact ⟨u, hu.keeps fun b o e => old _ _ (kle k₂ _ _ e)⟩
    vals := fun x d e => by
      (refine e0_2 ?_ (compSto_some e); intro hf zz1; refine e1_2 ?_ zz1; clear zz1; intro d' hσ e)
      obtain rfl := Slot.val.inj e
      clear e
      (refine e1_2 ?_ (R.vals x _ hσ); intro v cu r)
      have hK : env.scope.names.lookup x = some .cell := by
        rcases S.each x _ (lookup_mem hf) with ⟨a, _⟩ | ⟨_, _, c⟩ | a
        · cases a
        · exact c
        · cases a
      refine ⟨v, ⟨cu.1, .inr ⟨?_, ?_⟩⟩, r.to fun a o xa e => ⟨fun q => ?_, old _ _ (kle k₂ _ _ e)⟩⟩
      · rw [kind_rel R, hf]; simp [hK]
      · rcases cu.2 with ⟨a, _⟩ | ⟨_, c, hc, hi⟩
        · rw [show env.kindOf x = _ from hK] at a; cases a
        · (refine e1_1 ?_ (hcl2 x hf); intro c' hc')
          have := hcl1 x c' hc'
          rw [hc] at this; cases this
          exact ⟨c, hc', hi.keeps fun b o e => old _ _ (kle k₂ _ _ e)⟩
      · have e2 := kle k₂ _ _ e
        rcases q with q | q | q | q
        · exact xa q
        · rw [q, nC] at e2; cases e2
        · rw [q, nD] at e2; cases e2
        · rw [(hwr a q).1] at e; cases e
    owns := fun x xs e => let ⟨_, _, _, e⟩ := compSto_some e; nomatch e }
  have loop : ∀ s₃ : Shared, s₃ = { s₂ with heap := h₁, toks := s₂.toks + ([] : List (Str × Value)).length } →
      codeAny (model prog w) A (.compLoop (.ListComp elt (⟨t, i, ifs, 0⟩ :: gs) scope pos) 0 (.ref I) (.ref s₂.heap.objs.size) (compEnvC scope cl H2.objs.size env)) (compPost (model prog w) A NoE use Q (.ref s₂.heap.objs.size) H2.objs.size) s₃ := by
    rintro s₃ rfl
    have k₃ : Keeps s { s₂ with heap := h₁, toks := s₂.toks + ([] : List (Str × Value)).length } := ktr k₂ (keeps_heap s₂ h₁ _ old)
    refine codeAny_mono (hloop (compEnvC scope cl H2.objs.size env) s₂.heap.objs.size I wr St X' _ _ (rel_names R) R₄ ?_ (.inr (.inl rfl)) (.inr (.inr (.inl rfl))) hDC.symm ?_ ?_ ?_ ⟨none_old base2 nC, none_old base2 nD, fun b hb => ?_⟩ hI (hSt _ old) hDl) fun r s' h => ?_
    · intro x xs e
      (refine e0_2 ?_ (compSto_some e); intro _ zz1; refine e1_2 ?_ zz1; clear zz1; intro _ _ e)
      cases e
    · intro hm; (refine e1_1 ?_ (wrP _ hm); intro o e); rw [show s₂.heap.get? (compEnvC scope cl H2.objs.size env).locals = none from nC] at e; cases e
    · intro hm; (refine e1_1 ?_ (wrP _ hm); intro o e); rw [nD] at e; cases e
    · intro x c h1 h2
      have h3 := hcl1 x c h2
      have hK := (kind_cell R S h1).2
      (refine e1_1 ?_ (R.cellAt x c hK h3); intro u hu)
      (refine e1_2 ?_ hu; clear hu; intro o ho _)
      have e2 := kle k₂ _ _ ho
      exact ⟨(below _ _ e2).1, (below _ _ e2).2, fun q => by rw [(hwr c q).1] at ho; cases ho⟩
    · exact none_old R.ba (hwr b hb).1
    · (refine e0_4 ?_ h; clear h; intro zz1 c zz2 zz3; subst zz1; refine e1_1 ?_ zz2; clear zz2; intro m' hn'; refine e2_2 ?_ zz3; clear zz3; intro vs' n' hD' ha')
      refine hQ s₂.heap.objs.size H2.objs.size vs' n' s' m' ?_ (none_old (kle k₂) nD) (none_old (kle k₂) nC) hDC hn' hD' (ha'.to fun a o xa e => ⟨fun q => xa (q.imp id fun q => q.imp id fun q => .inl q), e⟩)
      have c' : Ch (fun b => b = H2.objs.size ∨ b = s₂.heap.objs.size ∨ b ∈ wr) s s' := ((kch k₃ fun _ => False)).tr c fun d o nd _ => ⟨id, nd⟩
      refine c'.keeps fun d o e q => ?_
      have e2 := kle k₂ _ _ e
      rcases q with q | q | q
      · rw [q, nC] at e2; cases e2
      · rw [q, nD] at e2; cases e2
      · rw [(hwr d q).1] at e; cases e
  exact codeAny_compStart_list (loop _ rfl) (wpAny_mono (hI.self 0 _ (hSt _ old)) (fun it' s' x => by (refine e0_2 ?_ x; clear x; intro zz1 zz2; subst zz1; subst zz2); exact loop _ rfl) fun _ _ x => x.elim)
end
end Mine
end
noncomputable section
open PySem PySem.W PyProof.Rows PySem.Calls PySem.Spec
set_option Elab.async false
namespace Mine

section
variable (prog : Program) (w : World) (base : Heap) (O : Orc) (n : Nat)

noncomputable def PV (e : Expr) : Prop := ∀ (env : Env) (X : Addr → Prop) (σ : Sto) (A : Around) (s : Shared) (m : Str → Option Value) (d : PyData), okE e env.scope.names = true → evE O e false σ = some d → RdM base env X σ s.heap m → Room A n →
  wpAny (model prog w) A (eval e env) (fun v s' => Keeps s s' ∧ Rp X s'.heap v d) NoE s
noncomputable def PI (e : Expr) : Prop := ∀ (t : Expr) (env : Env) (X : Addr → Prop) (σ : Sto) (A : Around) (s : Shared) (m : Str → Option Value) (d : PyData) (items : List PyData), okE e env.scope.names = true → iterOk t e = true → evE O e true σ = some d → itemsOf d = some items → RdM base env X σ s.heap m → Room A n →
  wpAny (model prog w) A (eval e env) (fun xv s₁ => Keeps s s₁ ∧ ItR prog w A X t items s xv s₁) NoE s
noncomputable def PT (e : Expr) : Prop := ∀ (env : Env) (X : Addr → Prop) (σ : Sto) (A : Around) (s : Shared) (m : Str → Option Value) (b : Bool), okE e env.scope.names = true → evT O e σ = some b → RdM base env X σ s.heap m → Room A n →
  wpAny (model prog w) A (isTrue e env (eval e env)) (fun b' s' => b' = b ∧ Keeps s s') NoE s
noncomputable def PS (e : Expr) : Prop := ∀ lo hi st p, e = .Slice lo hi st p → (∀ x, lo = some x → PV prog w base O n x) ∧ (∀ x, hi = some x → PV prog w base O n x) ∧ (∀ x, st = some x → PV prog w base O n x)
structure PE (e : Expr) : Prop where
  v : PV prog w base O n e
  i : PI prog w base O n e
  t : PT prog w base O n e
  s : PS prog w base O n e
end

section
variable {prog : Program} {w : World} {A : Around} {X : Addr → Prop} {base : Heap} {mg mb : Str → Option Value} {env : Env} {σ : Sto} {s : Shared} {m : Str → Option Value} {O : Orc} {n : Nat}

theorem folded_pure {O : Orc} {it : Bool} {e : Expr} {d : PyData} (h : evE O e it σ = some d) (env : Env) : ∀ x, foldedSetIterable e env x = pure x := by
  intro x
  cases e <;> first | rfl | exact none_e h
theorem marks_none {O : Orc} {it : Bool} {op : CmpOp} {e : Expr} {d : PyData} (h : evE O e it σ = some d) : behindInMarks op e = false := by
  cases e <;> first | rfl | exact none_e h
theorem okL_mem {K : Nms} : ∀ {es : List Expr}, okL es K = true → ∀ e ∈ es, okE e K = true
  | [], _, _, h => nomatch h
  | a :: r, h, e, hm => by
    have h := Bool.and_eq_true_iff.mp h
    rcases List.mem_cons.mp hm with rfl | hm
    · exact h.1
    · exact okL_mem h.2 e hm

theorem sub_it {b i : Expr} {p : Pos} : evE O (.Subscript b i p) true σ = evE O (.Subscript b i p) false σ := by
  cases i with
  | Slice lo hi st q => cases lo <;> cases hi <;> cases st <;> rfl
  | _ => rfl
/-- not a range, not an enumerate: goes as a value does -/
theorem evE_true {e : Expr} {d : PyData} (hc : ∀ f as ks p, e ≠ .Call f as ks p) (h : evE O e true σ = some d) : evE O e false σ = some d := by
  cases e
  case Call f as ks p => exact absurd rfl (hc f as ks p)
  case Subscript b i p => rwa [sub_it] at h
  all_goals exact h
theorem iter_form {t e : Expr} (hc : ∀ f as ks p, e ≠ .Call f as ks p) (h : iterOk t e = true) : (∃ x p, t = .Name x p) ∨ ∃ es k p, t = .Tuple es k p := by
  have h' : (isNameE t || isTupE t) = true := by
    cases e <;> first | exact h | exact absurd rfl (hc _ _ _ _)
  rcases Bool.or_eq_true_iff.mp h' with h | h
  · exact .inl (isName_r (G := fun t => ∃ x p, t = .Name x p) (fun x p => ⟨x, p, rfl⟩) h)
  · exact .inr (isTup_r (G := fun t => ∃ es k p, t = .Tuple es k p) (fun es k p => ⟨es, k, p, rfl⟩) h)
theorem pi_of_pv {e : Expr} (hc : ∀ f as ks p, e ≠ .Call f as ks p) (h : PV prog w base O n e) : PI prog w base O n e := by
  intro t env X σ A s m d items ok hi he hd R r
  exact wpAny_mono (h env X σ A s m _ ok (evE_true hc he) R r) (fun xv s₁ x => ⟨x.1, itr_items (iter_form hc hi) r.h hd x.1 x.2⟩) fun _ _ x => x
theorem pt_none {e : Expr} (h : ∀ σ, evT O e σ = none) : PT prog w base O n e := by
  intro env X σ A s m b ok he; rw [h] at he; cases he
theorem ps_none {e : Expr} (h : ∀ lo hi st p, e ≠ .Slice lo hi st p) : PS prog w base O n e := fun lo hi st p q => absurd q (h lo hi st p)
theorem pe_none {e : Expr} (h : ∀ it σ, evE O e it σ = none) (h2 : ∀ σ, evT O e σ = none) (h3 : ∀ lo hi st p, e ≠ .Slice lo hi st p) : PE prog w base O n e :=
  ⟨fun env X σ A s m d ok he => (by rw [h] at he; cases he), fun t env X σ A s m d items ok hi he => (by rw [h] at he; cases he), pt_none h2, ps_none h3⟩

theorem s_list : ∀ (es : List Expr) (s : Shared) (pos : Pos) (ds : List PyData), (∀ e ∈ es, PV prog w base O n e) → okL es env.scope.names = true → evL O es σ = some ds → RdM base env X σ s.heap m → Room A n →
    wpAny (model prog w) A (spliced (backTo pos (starEach es env))) (fun vs s' => Keeps s s' ∧ RpA X s'.heap vs ds) NoE s
  | [], s, pos, ds, _, _, h, R, r => by
    revert h; apply sm_r
    exact spliced_nil ⟨keeps_refl _, .nil⟩
  | e :: es, s, pos, ds, hp, ok, h, R, r => by
    have ok := Bool.and_eq_true_iff.mp ok
    revert h
    refine bind2_r fun d ds' h1 h2 => ?_
    apply sm_r
    refine s_spl_cons (not_starred h1) (wpAny_mono (hp e (by simp) env X σ A s m d ok.1 h1 R r) (fun v s₁ x => ⟨x, ?_⟩) fun _ _ x => x)
    exact s_list es s₁ pos ds' (fun e' he => hp e' (by simp [he])) ok.2 h2 (R.up (kle x.1)) r

theorem s_callE {x : Str} {fp p : Pos} {args : List Expr} {ds : List PyData} {fv : Value} {Q : Value → Shared → Prop} (B : Bg base mg mb) (R : RdM base env X σ s.heap m) (hk : env.kindOf x = some .globalImplicit) (hd : (x == ("__debug__" : Str)) = false)
    (hf : mg x = some fv ∨ (mg x = none ∧ mb x = some fv)) (hK : KeepOk prog w base fv) (hne : args ≠ []) (hp : ∀ e ∈ args, PV prog w base O n e) (ok : okL args env.scope.names = true) (hL : evL O args σ = some ds) (r : Room A n)
    (hcall : ∀ s' vals, Keeps s s' → RpA X s'.heap vals ds → wpAny (model prog w) A (call fv vals []) Q NoE s') : wpAny (model prog w) A (eval (.Call (.Name x fp) args [] p) env) Q NoE s := by
  refine wpAny_Call_NameR (s_glob B R hk hd hf ?_)
  (refine e0_2 ?_ (starEach_plain (env := env) (pos := p) hL); intro h1 h2)
  exact s_callWith hK R.ba (h2 hne) h1 (wpAny_mono (s_list args s p ds hp ok hL R r) (fun vs s' x => ⟨x.1, hcall s' vs x.1 x.2⟩) fun _ _ x => x)

/-- a base that is looked into -/
theorem s_base {b : Expr} {d : PyData} (hp : PV prog w base O n b) (ok : okE b env.scope.names = true) (h : evB' b σ (evE O b false σ) = some d) (R : RdM base env X σ s.heap m) (r : Room A n) :
    wpAny (model prog w) A (eval b env) (fun v s' => Keeps s s' ∧ RpB X s'.heap v d) NoE s := by
  unfold evB' at h
  cases e : nameOf b with
  | some x =>
    rw [e] at h
    (refine e1_1 ?_ (nameOf_some e); intro p zz1; subst zz1)
    exact s_rdB R h
  | none =>
    rw [e] at h
    exact wpAny_mono (hp env X σ A s m d ok h R r) (fun v s' x => ⟨x.1, .inl x.2⟩) fun _ _ x => x

theorem s_len {v : Value} {xs : List PyData} (r : RpB X s.heap v (.list xs)) (h : lenOk xs.length = true) : wpAny (model prog w) A (call (.builtin "len") [v] []) (fun v s' => Keeps s s' ∧ Rp X s'.heap v (.int xs.length)) NoE s := by
  (refine e3_3 ?_ r.list; intro a vs k zz1 g q; subst zz1)
  have hl := q.length
  have := lenOk_iff.mp h
  refine len_list (isList_of g) (by simp; lia) ⟨keeps_toks _ _, ?_⟩
  have e : ((vs.toArray.size : Nat) : Int) = (xs.length : Int) := by simp [hl]
  rw [e]; exact .int _ _

theorem s_slice {lo hi st : Option Expr} {val : Expr} {p pos : Pos} {vl vu vst : Option Int} {xs ys : List PyData} (g : List Value → List Value) (hpick : ∀ vs : List Value, slicePick vs.toArray vl vu vst = (g vs).toArray) (hst : vst ≠ some 0)
    (gR : ∀ (h : Heap) (vs : List Value), RpA X h vs xs → RpA X h (g vs) ys) (hlen : lenOk xs.length = true) (hpr : Pres X s.heap)
    (hv : wpAny (model prog w) A (eval val env) (fun o s₁ => (Keeps s s₁ ∧ RpB X s₁.heap o (.list xs)) ∧ wpAny (model prog w) A (evalPart lo env) (fun v1 s₂ => wpAny (model prog w) A (evalPart hi env) (fun v2 s₃ =>
      wpAny (model prog w) A (evalPart st env) (fun v3 s₄ => Keeps s₁ s₄ ∧ IsPart v1 vl ∧ IsPart v2 vu ∧ IsPart v3 vst) NoE s₃) NoE s₂) NoE s₁) NoE s) :
    wpAny (model prog w) A (eval (.Subscript val (.Slice lo hi st p) pos) env) (fun v s' => Keeps s s' ∧ Rp X s'.heap v (.list ys)) NoE s := by
  refine s_sub (wpAny_mono hv (fun o s₁ x => wpAny_Slice (wpAny_mono x.2 (fun v1 s₂ y => wpAny_mono y (fun v2 s₃ z => wpAny_mono z (fun v3 s₄ q => ?_) fun _ _ x => x) fun _ _ x => x) fun _ _ x => x)) fun _ _ x => x)
  (refine e0_2 ?_ x.1; intro k₁ rb)
  (refine e0_4 ?_ q; clear q; intro k₄ p1 p2 p3)
  (refine e3_3 ?_ rb.list; intro a vs nn zz1 ga qa; subst zz1)
  have g₄ := kle k₄ _ _ ga
  have g₅ : (s₄.heap.push { cls := .type "slice", data := .fields #[v1, v2, v3] }).get? a = some (listOf vs.toArray nn) := Heap.get?_push_of_some _ g₄
  have hl := qa.length
  refine ⟨.inl ⟨_, g₅, rfl⟩, wpAny_getItem_list_slice (isList_of g₅) (Heap.IsSliceOf.new ..) p1 p2 p3 hst ?_ (by rw [List.size_toArray, hl]; exact lenOk_line hlen)⟩
  have kk : Keeps s { s₄ with heap := s₄.heap.push { cls := .type "slice", data := .fields #[v1, v2, v3] } } := ktr (ktr k₁ k₄) (keeps_push' _ _)
  refine ⟨ktr kk (keeps_push' _ _), ?_⟩
  rw [hpick]
  exact push_list (hpr.up (kle kk)) (gR _ _ (qa.up fun b o e => Heap.get?_push_of_some _ (kle k₄ b o e)))

theorem int_part {h : Heap} {v : Value} {i : Int} (r : Rp X h v (.int i)) : IsPart v (some i) := by revert r; apply int_v; intro t; exact .int _ _

/-- not a slice -/
theorem ix_of {b i : Expr} {p : Pos} (h : ∀ lo hi st q, i ≠ .Slice lo hi st q) : evE O (.Subscript b i p) false σ = bind2 idxV (evB' b σ (evE O b false σ)) (evE O i false σ) := by
  cases i <;> first | rfl | exact absurd rfl (h _ _ _ _)
theorem lt_of {h : Heap} {v : Value} {d : PyData} (r : RpB X h v d) {k a : PyData} (he : idxV d k = some a) : LT X h v d := by
  rcases r with r | ⟨a, vs, nn, xs, e1, e2, g, q⟩
  · revert he
    refine alt_r (bind2_r fun xs k h1 _ _ => ?_) (bind2_r fun xs k h1 _ _ => ?_)
    · obtain rfl := listOf_some h1
      cases r with | list _ g q => exact .inl ⟨_, _, _, _, rfl, rfl, g, q⟩
    · obtain rfl := tupOf_some h1
      cases r with | tuple _ g q => exact .inr ⟨_, _, _, rfl, rfl, g, q⟩
  · exact .inl ⟨a, vs, nn, xs, e1, e2, g, q⟩
theorem p_idx {b i : Expr} {p : Pos} (hb : PE prog w base O n b) (hi : PE prog w base O n i) (hs : ∀ lo hi st q, i ≠ .Slice lo hi st q) : PV prog w base O n (.Subscript b i p) := by
  intro env X σ A s m d ok he R r
  have ok := Bool.and_eq_true_iff.mp ok
  rw [ix_of hs] at he
  revert he
  refine bind2_r fun db dk h1 h2 he => ?_
  refine s_sub (wpAny_mono (s_base hb.v ok.1 h1 R r) (fun o s₁ x => wpAny_mono (hi.v env X σ A s₁ m _ ok.2 h2 (R.up (kle x.1)) r) (fun v s₂ y => ?_) fun _ _ x => x) fun _ _ x => x)
  have alt := lt_of (x.2.up (kle y.1)) he
  refine ⟨?_, wpAny_mono (s_idx he alt y.2) (fun v s₃ z => ⟨ktr (ktr x.1 y.1) z.1, z.2⟩) fun _ _ x => x⟩
  rcases alt with ⟨l, vs, nn, xs, e, _, g, _⟩ | ⟨l, vs, xs, e, _, ⟨o', g, c, _⟩, _⟩
  · exact .inl (e ▸ ⟨_, g, rfl⟩)
  · exact .inr (e ▸ ⟨_, g, c⟩)
theorem p_slice {b : Expr} {lo hi st : Option Expr} {p sp : Pos} (hb : PE prog w base O n b) (hi' : PE prog w base O n (.Slice lo hi st sp)) : PV prog w base O n (.Subscript b (.Slice lo hi st sp) p) := by
  intro env X σ A s m d ok he R r
  (refine e0_2 ?_ (Bool.and_eq_true_iff.mp ok); intro ok1 ok2)
  (refine e0_3 ?_ (hi'.s _ _ _ _ rfl); intro plo phi pst)
  have ok3 := (Bool.and_eq_true_iff.mp ok2).2
  have ok4 := (Bool.and_eq_true_iff.mp (Bool.and_eq_true_iff.mp ok2).1).2
  have ok5 := (Bool.and_eq_true_iff.mp (Bool.and_eq_true_iff.mp ok2).1).1
  clear ok ok2 hi'
  revert he
  cases lo with
  | some lo =>
    cases hi with
    | some _ => exact none_r
    | none =>
      cases st with
      | some _ => exact none_r
      | none =>
        refine bind2_r fun db dk h1 h2 => bind2_r fun xs k h3 h4 => ?_
        obtain rfl := listOf_some h3
        obtain rfl := intOf_some h4
        clear h3 h4
        apply ifs_r; intro hc
        refine s_slice (vl := some k) (vu := none) (vst := none) (fun vs => vs.drop k.toNat) (fun vs => slice_fr hc.1) (by simp) (fun h vs q => q.drop _) hc.2.2 R.pres (wpAny_mono (s_base hb.v ok1 h1 R r) (fun o s₁ x => ⟨x, ?_⟩) fun _ _ x => x)
        exact wpAny_evalPart_some (wpAny_mono (plo _ rfl env X σ A s₁ m _ ok5 h2 (R.up (kle x.1)) r) (fun v2 s₃ y => wpAny_evalPart_none (wpAny_evalPart_none ⟨y.1, int_part y.2, .none, .none⟩)) fun _ _ x => x)
  | none =>
    cases hi with
    | some hi =>
      cases st with
      | some _ => exact none_r
      | none =>
        refine bind2_r fun db dk h1 h2 => bind2_r fun xs k h3 h4 => ?_
        obtain rfl := listOf_some h3
        obtain rfl := intOf_some h4
        clear h3 h4
        apply ifs_r; intro hc
        refine s_slice (vl := none) (vu := some k) (vst := none) (fun vs => vs.take k.toNat) (fun vs => slice_up hc.1) (by simp) (fun h vs q => q.take _) hc.2.2 R.pres (wpAny_mono (s_base hb.v ok1 h1 R r) (fun o s₁ x => ⟨x, ?_⟩) fun _ _ x => x)
        exact wpAny_evalPart_none (wpAny_evalPart_some (wpAny_mono (phi _ rfl env X σ A s₁ m _ ok4 h2 (R.up (kle x.1)) r) (fun v2 s₃ y => wpAny_evalPart_none ⟨y.1, .none, int_part y.2, .none⟩) fun _ _ x => x))
    | none =>
      cases st with
      | none => exact none_r
      | some st =>
        refine bind2_r fun db dk h1 h2 => bind2_r fun xs k h3 h4 => ?_
        obtain rfl := listOf_some h3
        obtain rfl := intOf_some h4
        clear h3 h4
        apply ifs_r; intro hc
        (refine e0_2 ?_ hc; clear hc; intro zz1 hl; subst zz1)
        refine s_slice (vl := none) (vu := none) (vst := some (-1)) (fun vs => vs.reverse) (fun vs => by simpa using krv_pick vs.toArray) (by simp) (fun h vs q => q.reverse) hl R.pres (wpAny_mono (s_base hb.v ok1 h1 R r) (fun o s₁ x => ⟨x, ?_⟩) fun _ _ x => x)
        exact wpAny_evalPart_none (wpAny_evalPart_none (wpAny_evalPart_some (wpAny_mono (pst _ rfl env X σ A s₁ m _ ok3 h2 (R.up (kle x.1)) r) (fun v2 s₃ y => ⟨y.1, .none, .none, int_part y.2⟩) fun _ _ x => x)))
theorem p_sub {b i : Expr} {p : Pos} (hb : PE prog w base O n b) (hi : PE prog w base O n i) : PV prog w base O n (.Subscript b i p) := by
  by_cases hs : ∃ lo hi st q, i = .Slice lo hi st q
  · (refine e4_1 ?_ hs; clear hs; intro lo hi' st q zz1; subst zz1)
    exact p_slice hb hi
  · exact p_idx hb hi fun lo hi st q e => hs ⟨lo, hi, st, q, e⟩
end
end Mine
end
noncomputable section
open PySem PySem.W PyProof.Rows PySem.Calls PySem.Spec
set_option Elab.async false
namespace Mine

section
variable {prog : Program} {w : World} {A : Around} {X : Addr → Prop} {base : Heap} {mg mb : Str → Option Value} {env : Env} {σ : Sto} {s : Shared} {m : Str → Option Value} {O : Orc} {n : Nat}

theorem p_bin {l r : Expr} {op : Operator} {p : Pos} (hl : PV prog w base O n l) (hr : PV prog w base O n r) : PV prog w base O n (.BinOp l op r p) := by
  intro env X σ A s m d ok he R rm
  revert ok he
  refine and_r fun okl okr => bind2_r fun a b h1 h2 h3 => ?_
  refine wpAny_BinOp (wpAny_mono (hl env X σ A s m a okl h1 R rm) (fun va s₁ x => wpAny_mono (hr env X σ A s₁ m b okr h2 (R.up (kle x.1)) rm) (fun vb s₂ y => ?_) fun _ _ x => x) fun _ _ x => x)
  have k := ktr x.1 y.1
  exact wpAny_mono (s_bin h3 (R.pres.up (kle k)) (x.2.up (kle y.1)) y.2) (fun v s₃ z => ⟨ktr k z.1, z.2⟩) fun _ _ x => x

theorem p_un {x : Expr} {op : UnaryOp} {p : Pos} (hx : PV prog w base O n x) : PV prog w base O n (.UnaryOp op x p) := by
  intro env X σ A s m d ok he R rm
  revert he
  cases op with
  | USub =>
    refine bind_r fun a h1 => ?_
    apply map_r; intro i h2
    obtain rfl := intOf_some h2
    exact wpAny_UnaryOp (wpAny_mono (hx env X σ A s m _ ok h1 R rm) (fun va s₁ x => wpAny_mono (s_neg x.2) (fun v s₂ y => ⟨ktr x.1 y.1, y.2⟩) fun _ _ x => x) fun _ _ x => x)
  | _ => exact none_r

theorem p_not {x : Expr} {op : UnaryOp} {p : Pos} (hx : PT prog w base O n x) : PT prog w base O n (.UnaryOp op x p) := by
  intro env X σ A s m b ok he R rm
  revert he
  cases op with
  | Not =>
    apply map_r; intro b' h1
    exact wpAny_isTrue_Not (wpAny_mono (hx env X σ A s m b' ok h1 R rm) (fun v s₁ x => ⟨by rw [x.1], x.2⟩) fun _ _ x => x)
  | _ => exact none_r

theorem p_ite {t b o : Expr} {p : Pos} (ht : PT prog w base O n t) (hb : PV prog w base O n b) (ho : PV prog w base O n o) : PV prog w base O n (.IfExp t b o p) := by
  intro env X σ A s m d ok he R rm
  revert ok he
  refine and_r fun ok ok3 => bind_r fun c h1 h2 => ?_
  (refine e0_2 ?_ (Bool.and_eq_true_iff.mp ok); intro ok1 ok2)
  clear ok
  refine wpAny_IfExp (wpAny_mono (ht env X σ A s m c ok1 h1 R rm) (fun c' s₁ x => ?_) fun _ _ x => x)
  (refine e0_2 ?_ x; clear x; intro zz1 k; subst zz1)
  cases c' with
  | true => exact wpAny_mono (hb env X σ A s₁ m d ok2 h2 (R.up (kle k)) rm) (fun v s₂ y => ⟨ktr k y.1, y.2⟩) fun _ _ x => x
  | false => exact wpAny_mono (ho env X σ A s₁ m d ok3 h2 (R.up (kle k)) rm) (fun v s₂ y => ⟨ktr k y.1, y.2⟩) fun _ _ x => x

theorem s_cmp2 {l r : Expr} {op : CmpOp} {a b : PyData} {c : Bool} (hl : PV prog w base O n l) (hr : PV prog w base O n r) (okl : okE l env.scope.names = true) (okr : okE r env.scope.names = true)
    (h1 : evE O l false σ = some a) (h2 : evE O r false σ = some b) (h3 : cmpV op a b = some c) (R : RdM base env X σ s.heap m) (rm : Room A n) {Q : Value → Shared → Prop} (hQ : ∀ s', Keeps s s' → Q (.bool c) s') :
    wpAny (model prog w) A (eval l env) (fun va s₁ => wpAny (model prog w) A (eval r env) (fun vb s₂ => wpAny (model prog w) A (compareOp op va vb) Q NoE s₂) NoE s₁) NoE s := by
  refine wpAny_mono (hl env X σ A s m a okl h1 R rm) (fun va s₁ x => wpAny_mono (hr env X σ A s₁ m b okr h2 (R.up (kle x.1)) rm) (fun vb s₂ y => ?_) fun _ _ x => x) fun _ _ x => x
  have hu : A.units + 64 < cLine := by have := rm.u; lia
  refine wpAny_mono (s_cmp h3 hu (x.2.up (kle y.1)) y.2) (fun v s₃ z => ?_) fun _ _ x => x
  (refine e0_2 ?_ z; clear z; intro zz1 k; subst zz1)
  exact hQ s₃ (ktr (ktr x.1 y.1) k)

theorem one_some {α : Type} {l : List α} {a : α} (h : oneOf l = some a) : l = [a] := by
  cases l with
  | nil => cases h
  | cons b r => cases r with
    | nil => cases h; rfl
    | cons _ _ => cases h
theorem rs_one {rs : List Expr} {b : PyData} (h : (evL O rs σ).bind oneOf = some b) : ∃ r, rs = [r] ∧ evE O r false σ = some b := by
  cases rs with
  | nil => cases h
  | cons r q =>
    revert h
    refine bind_r fun ds => bind2_r fun d ds' h1 h2 h3 h4 => ?_
    obtain rfl := Option.some.inj h3
    have h5 := one_some h4
    (refine e0_2 ?_ (List.cons.inj h5); intro zz1 h6; subst zz1)
    subst h6
    cases q with
    | nil => exact ⟨r, rfl, h1⟩
    | cons e q =>
      revert h2
      exact bind2_r fun _ _ _ _ h => nomatch h
theorem p_cmp {l : Expr} {ops : List CmpOp} {rs : List Expr} {p : Pos} (hl : PV prog w base O n l) (hr : ∀ e ∈ rs, PV prog w base O n e) : PV prog w base O n (.Compare l ops rs p) := by
  intro env X σ A s m d ok he R rm
  revert ok he
  refine and_r fun okl okr => bind_r fun op ho => bind2_r fun a b h1 h2 => ?_
  apply map_r; intro c h3
  obtain rfl := one_some ho
  (refine e1_2 ?_ (rs_one h2); intro r zz1 h4; subst zz1)
  clear h2
  exact wpAny_Compare1 (s_cmp2 hl (hr r (.head _)) okl (okL_mem okr r (.head _)) h1 h4 h3 R rm fun s' k => ⟨k, .bool _⟩) (marks_none h4)
theorem p_cmpT {l : Expr} {ops : List CmpOp} {rs : List Expr} {p : Pos} (hl : PV prog w base O n l) (hr : ∀ e ∈ rs, PV prog w base O n e) : PT prog w base O n (.Compare l ops rs p) := by
  intro env X σ A s m c ok he R rm
  revert ok he
  refine and_r fun okl okr => bind_r fun op ho => bind2_r fun a b h1 h2 h3 => ?_
  obtain rfl := one_some ho
  (refine e1_2 ?_ (rs_one h2); intro r zz1 h4; subst zz1)
  clear h2
  exact wpAny_isTrue_Compare1 (s_cmp2 hl (hr r (.head _)) okl (okL_mem okr r (.head _)) h1 h4 h3 R rm fun s' k => wpAny_truthy_bool ⟨rfl, k⟩) (marks_none h4)

theorem s_boolOp {pos : Pos} {op : BoolOp} : ∀ (vs : List Expr) (s : Shared) (b : Bool), (∀ e ∈ vs, PV prog w base O n e) → okL vs env.scope.names = true → evBs O op vs σ = some b → RdM base env X σ s.heap m → Room A n →
    wpAny (model prog w) A (boolOp pos op (evalEach vs env)) (fun v s' => v = .bool b ∧ Keeps s s') NoE s
  | [], _, _, _, _, h, _, _ => none_e h
  | x :: r, s, b, hp, ok, h, R, rm => by
    (refine e0_2 ?_ (Bool.and_eq_true_iff.mp ok); intro ok1 ok2)
    clear ok
    revert h
    refine bind_r fun b1 h h3 => ?_
    revert h
    refine bind_r fun d h1 h2 => ?_
    obtain rfl := boolOf_some h2
    clear h2
    have hx := hp x (.head _) env X σ A s m _ ok1 h1 R rm
    cases r with
    | nil =>
      revert h3; apply sm_r
      show wpAny (model prog w) A (eval x env) _ NoE s
      refine wpAny_mono hx (fun v s₁ y => ?_) fun _ _ x => x
      (refine e0_2 ?_ y; clear y; intro k rv)
      revert rv; apply bool_v
      exact ⟨rfl, k⟩
    | cons y ys =>
      show wpAny (model prog w) A (do let v ← eval x env; standAt pos; let t ← holding [v] (truthy v); match op, t with | .And, false | .Or, true => pure v | _, _ => boolOp pos op (evalEach (y :: ys) env)) _ NoE s
      refine wpAny_bind (wpAny_mono hx (fun v s₁ z => wpAny_bind (wpAny_standAt (wpAny_bind (wpAny_holding ?_)))) fun _ _ x => x)
      (refine e0_2 ?_ z; clear z; intro k rv)
      revert rv; apply bool_v
      refine wpAny_truthy_bool ?_
      have tl : evBs O op (y :: ys) σ = some b → wpAny (model prog w) A (boolOp pos op (evalEach (y :: ys) env)) (fun v s' => v = .bool b ∧ Keeps s s') NoE s₁ := fun q =>
        wpAny_mono (s_boolOp (pos := pos) (op := op) (y :: ys) s₁ b (fun e he => hp e (.tail _ he)) ok2 q (R.up (kle k)) rm) (fun v s' z => ⟨z.1, ktr k z.2⟩) fun _ _ x => x
      cases op <;> cases b1
      · revert h3; apply sm_r; exact wpAny_pure ⟨rfl, k⟩
      · exact tl h3
      · exact tl h3
      · revert h3; apply sm_r; exact wpAny_pure ⟨rfl, k⟩
theorem p_bool {op : BoolOp} {vs : List Expr} {p : Pos} (hp : ∀ e ∈ vs, PV prog w base O n e) : PV prog w base O n (.BoolOp op vs p) := by
  intro env X σ A s m d ok he R rm
  revert he; apply map_r; intro b h1
  show wpAny (model prog w) A (boolOp p op (evalEach vs env)) _ NoE s
  refine wpAny_mono (s_boolOp vs s b hp ok h1 R rm) (fun v s₁ y => ?_) fun _ _ x => x
  rw [y.1]
  exact ⟨y.2, .bool _⟩

theorem s_allTrue {op : BoolOp} : ∀ (vs : List Expr) (s : Shared) (b : Bool), (∀ e ∈ vs, PT prog w base O n e) → okL vs env.scope.names = true → evTs O op vs σ = some b → RdM base env X σ s.heap m → Room A n →
    wpAny (model prog w) A (allTrue op vs env) (fun b' s' => b' = b ∧ Keeps s s') NoE s
  | [], s, b, _, _, h, _, _ => by
    revert h; apply sm_r
    cases op <;> exact wpAny_pure ⟨rfl, keeps_refl _⟩
  | x :: r, s, b, hp, ok, h, R, rm => by
    (refine e0_2 ?_ (Bool.and_eq_true_iff.mp ok); intro ok1 ok2)
    clear ok
    revert h
    refine bind_r fun b1 h1 h3 => ?_
    have hx := hp x (.head _) env X σ A s m _ ok1 h1 R rm
    have tl : ∀ s₁, Keeps s s₁ → evTs O op r σ = some b → wpAny (model prog w) A (allTrue op r env) (fun b' s' => b' = b ∧ Keeps s s') NoE s₁ := fun s₁ k q =>
      wpAny_mono (s_allTrue r s₁ b (fun e he => hp e (.tail _ he)) ok2 q (R.up (kle k)) rm) (fun v s' z => ⟨z.1, ktr k z.2⟩) fun _ _ x => x
    cases op with
    | And =>
      refine wpAny_allTrue_And_cons (wpAny_mono hx (fun v s₁ z => ?_) fun _ _ x => x)
      (refine e0_2 ?_ z; clear z; intro zz1 k; subst zz1)
      cases v with
      | true => exact tl s₁ k h3
      | false => exact ⟨Option.some.inj h3, k⟩
    | Or =>
      refine wpAny_allTrue_Or_cons (wpAny_mono hx (fun v s₁ z => ?_) fun _ _ x => x)
      (refine e0_2 ?_ z; clear z; intro zz1 k; subst zz1)
      cases v with
      | false => exact tl s₁ k h3
      | true => exact ⟨Option.some.inj h3, k⟩
theorem p_boolT {op : BoolOp} {vs : List Expr} {p : Pos} (hp : ∀ e ∈ vs, PT prog w base O n e) : PT prog w base O n (.BoolOp op vs p) := by
  intro env X σ A s m b ok he R rm
  exact wpAny_isTrue_BoolOp (s_allTrue vs s b hp ok he R rm)

theorem evL_len : ∀ {es : List Expr} {ds : List PyData}, evL O es σ = some ds → ds.length = es.length
  | [], ds, h => by revert h; apply sm_r; rfl
  | e :: r, ds, h => by
    revert h
    refine bind2_r fun d ds' _ h2 => ?_
    apply sm_r
    exact congrArg Nat.succ (evL_len h2)
theorem s_listNew {es : List Expr} {p : Pos} {ds : List PyData} (hp : ∀ e ∈ es, PV prog w base O n e) (ok : okL es env.scope.names = true) (hlen : es.length ≤ 1000) (h : evL O es σ = some ds) (R : RdM base env X σ s.heap m) (rm : Room A n) :
    wpAny (model prog w) A (eval (.List es p) env) (fun v s' => ∃ s₁ vs, Keeps s s₁ ∧ v = .ref s₁.heap.objs.size ∧ s' = { s₁ with heap := s₁.heap.push (listOf vs.toArray 0) } ∧ RpA X s₁.heap vs ds) NoE s := by
  refine wpAny_List_spliced (wpAny_mono (s_list es s p ds hp ok h R rm) (fun vs s₁ x => ⟨?_, s₁, vs, x.1, rfl, rfl, x.2⟩) fun _ _ x => x)
  rw [x.2.length, evL_len h, sizeLine_eq]; lia
theorem p_list {es : List Expr} {p : Pos} (hp : ∀ e ∈ es, PV prog w base O n e) : PV prog w base O n (.List es p) := by
  intro env X σ A s m d ok he R rm
  (refine e0_2 ?_ (Bool.and_eq_true_iff.mp ok); intro ok hlen)
  revert he; apply map_r; intro ds h1
  refine wpAny_mono (s_listNew hp ok (of_decide_eq_true hlen) h1 R rm) (fun v s' x => ?_) fun _ _ x => x
  (refine e2_4 ?_ x; clear x; intro s₁ vs k zz1 zz2 r; subst zz1; subst zz2)
  exact ⟨ktr k (keeps_push' _ _), push_list (R.pres.up (kle k)) r⟩
theorem p_tup {es : List Expr} {kk : Nat} {p : Pos} (hp : ∀ e ∈ es, PV prog w base O n e) : PV prog w base O n (.Tuple es kk p) := by
  intro env X σ A s m d ok he R rm
  (refine e0_2 ?_ (Bool.and_eq_true_iff.mp ok); intro ok hlen)
  have hlen := of_decide_eq_true hlen
  revert he; apply map_r; intro ds h1
  refine wpAny_Tuple_spliced (wpAny_mono (s_list es s p ds hp ok h1 R rm) (fun vs s₁ x => ⟨?_, ktr x.1 (keeps_push' _ _), push_tup (R.pres.up (kle x.1)) x.2⟩) fun _ _ x => x)
  rw [x.2.length, evL_len h1, sizeLine_eq]; lia

/-- what the check of a call asks of its name -/
noncomputable def calOk (K : Nms) (o : Option Str) : Bool := match o with
  | some x => K.lookup x == some .globalImplicit && !(x == ("__debug__" : Str))
  | none => false
theorem call_parts {f : Expr} {as : List Expr} {K : Nms} {kws : List Keyword} {p : Pos} (ok : okE (.Call f as kws p) K = true) : ∃ x fp, f = .Name x fp ∧ K.lookup x = some .globalImplicit ∧ (x == ("__debug__" : Str)) = false ∧ okL as K = true ∧ as ≠ [] := by
  (refine e0_2 ?_ (Bool.and_eq_true_iff.mp ok); intro h h3)
  (refine e0_2 ?_ (Bool.and_eq_true_iff.mp h); intro h1 h2)
  have h1 : calOk K (nameOf f) = true := h1
  cases e : nameOf f with
  | none => rw [e] at h1; cases h1
  | some x =>
    rw [e] at h1
    (refine e1_1 ?_ (nameOf_some e); intro fp zz1; subst zz1)
    (refine e0_2 ?_ (Bool.and_eq_true_iff.mp h1); intro h4 h5)
    exact ⟨x, fp, rfl, beq_iff_eq.mp h4, by simpa using h5, h2, by intro q; subst q; cases h3⟩

/-- the value of a call, by its name -/
theorem call_r {it : Bool} {x : Str} {ds : Option (List PyData)} {l : Option PyData} {d : PyData} {G : Prop} (h1 : x = "len" → l = some d → G) (h2 : it = true → x = "range" → (ds.bind rangeV).map .list = some d → G) (h3 : it = true → x = "enumerate" → ds.bind enumV = some d → G)
    (h4 : x ≠ "len" ∧ x ≠ "range" ∧ x ≠ "enumerate" → ds.bind (O x) = some d → G) : callV O it x ds l = some d → G := by
  intro h
  unfold callV at h
  by_cases e1 : x = "len"
  · rw [if_pos e1] at h; exact h1 e1 h
  · rw [if_neg e1] at h
    by_cases e2 : x = "range"
    · rw [if_pos e2] at h
      cases it with
      | true => exact h2 rfl e2 h
      | false => exact none_e h
    · rw [if_neg e2] at h
      by_cases e3 : x = "enumerate"
      · rw [if_pos e3] at h
        cases it with
        | true => exact h3 rfl e3 h
        | false => exact none_e h
      · rw [if_neg e3] at h
        exact h4 ⟨e1, e2, e3⟩ h
theorem s_lenCall {x : Str} {fp p : Pos} {as : List Expr} {d : PyData} (B : Bg base mg mb) (hp : ∀ e ∈ as, PV prog w base O n e) (hk : env.scope.names.lookup x = some .globalImplicit) (hd : (x == ("__debug__" : Str)) = false) (ok2 : okL as env.scope.names = true)
    (hx : x = "len") (he : evLen O as σ = some d) (R : RdM base env X σ s.heap m) (rm : Room A n) : wpAny (model prog w) A (eval (.Call (.Name x fp) as [] p) env) (fun v s' => Keeps s s' ∧ Rp X s'.heap v d) NoE s := by
  subst hx
  cases as with
  | nil => exact none_e he
  | cons a q =>
    cases q with
    | cons _ _ => exact none_e he
    | nil =>
      revert he
      refine bind_r fun da h1 => bind_r fun xs h2 => ?_
      apply ifs_r; intro hl
      obtain rfl := listOf_some h2
      refine wpAny_Call_NameR (s_glob B R hk hd (.inr B.len) ?_)
      have hs : ∀ v p, a ≠ .Starred v p := by
        intro v p q; subst q
        exact none_e h1
      have hb := s_base (s := s) (hp a (.head _)) (Bool.and_eq_true_iff.mp ok2).1 h1 R rm
      refine s_callWith keep_builtin R.ba ?_ ?_ ?_
      · rw [starEach_cons hs]; simp [backTo]
      · rw [starEach_cons hs]; rfl
      · rw [starEach_cons hs]
        show wpAny (model prog w) A (spliced ((false, eval a env) :: [])) _ NoE s
        refine spliced_cons (wpAny_mono hb (fun v s₁ y => spliced_nil ⟨y.1, ?_⟩) fun _ _ x => x)
        exact wpAny_mono (s_len y.2 hl) (fun v s₂ z => ⟨ktr y.1 z.1, z.2⟩) fun _ _ x => x

theorem p_call {f : Expr} {as : List Expr} {kws : List Keyword} {p : Pos} (B : Bg base mg mb) (HO : OSound prog w base mg mb n O) (hp : ∀ e ∈ as, PV prog w base O n e) : PV prog w base O n (.Call f as kws p) := by
  intro env X σ A s m d ok he R rm
  (refine e2_5 ?_ (call_parts ok); intro x fp zz1 hk hd ok2 hne; subst zz1)
  clear ok
  cases kws with
  | cons _ _ => exact none_e he
  | nil =>
    have he : callV O false x (evL O as σ) (evLen O as σ) = some d := he
    revert he
    refine call_r (fun hx h => s_lenCall B hp hk hd ok2 hx h R rm) (fun q => nomatch q) (fun q => nomatch q) fun _ => bind_r fun ds h1 h2 => ?_
    (refine e1_3 ?_ (HO _ _ _ h2); intro fv hf hK hc)
    refine s_callE B R hk hd hf hK hne hp ok2 h1 rm fun s' vals k r => ?_
    exact wpAny_mono (hc A s' X vals rm (R.pres.up (kle k)) (fun b o e => kle k b o (R.ba b o e)) r) (fun v s₂ y => ⟨ktr k y.1, y.2⟩) fun _ _ x => x

theorem p_callT {f : Expr} {as : List Expr} {kws : List Keyword} {p : Pos} (B : Bg base mg mb) (HO : OSound prog w base mg mb n O) (hp : ∀ e ∈ as, PV prog w base O n e) : PT prog w base O n (.Call f as kws p) := by
  intro env X σ A s m b ok he R rm
  (refine e2_5 ?_ (call_parts ok); intro x fp zz1 hk hd ok2 hne; subst zz1)
  clear ok
  cases kws with
  | cons _ _ => exact none_e he
  | nil =>
    have he : (if x = "len" ∨ x = "range" ∨ x = "enumerate" then none else ((evL O as σ).bind (O x)).bind boolOf) = some b := he
    by_cases hx : x = "len" ∨ x = "range" ∨ x = "enumerate"
    · rw [if_pos hx] at he; exact none_e he
    · rw [if_neg hx] at he
      revert he
      refine bind_r fun r h h3 => ?_
      obtain rfl := boolOf_some h3
      revert h
      refine bind_r fun ds h1 h2 => ?_
      (refine e1_3 ?_ (HO _ _ _ h2); intro fv hf hK hc)
      refine wpAny_isTrue_value (s_callE B R hk hd hf hK hne hp ok2 h1 rm fun s' vals k r => ?_) (by rfl)
      refine wpAny_mono (hc A s' X vals rm (R.pres.up (kle k)) (fun b o e => kle k b o (R.ba b o e)) r) (fun v s₂ y => ?_) fun _ _ x => x
      (refine e0_2 ?_ y; clear y; intro k2 rv)
      revert rv; apply bool_v
      exact wpAny_truthy_bool ⟨rfl, ktr k k2⟩

theorem p_callI {f : Expr} {as : List Expr} {kws : List Keyword} {p : Pos} (B : Bg base mg mb) (HO : OSound prog w base mg mb n O) (hp : ∀ e ∈ as, PV prog w base O n e) : PI prog w base O n (.Call f as kws p) := by
  intro t env X σ A s m dv items ok hi he hdv R rm
  (refine e2_5 ?_ (call_parts ok); intro x fp zz1 hk hd ok2 hne; subst zz1)
  cases kws with
  | cons _ _ => exact none_e he
  | nil =>
    have hi : (if x = "range" then isNameE t else if x = "enumerate" then isTupE t else isNameE t || isTupE t) = true := hi
    have he : callV O true x (evL O as σ) (evLen O as σ) = some dv := he
    revert he
    refine call_r (fun hx h => ?_) (fun _ hx h => ?_) (fun _ hx h => ?_) fun hx h => ?_
    · cases as with
      | nil => exact none_e h
      | cons a q =>
        cases q with
        | cons _ _ => exact none_e h
        | nil =>
          revert h
          refine bind_r fun da _ => bind_r fun xs _ => if_r fun _ h => ?_
          rw [← Option.some.inj h] at hdv
          cases hdv
    · rw [if_pos hx] at hi
      revert h
      refine (Option.map_eq_some_iff.mp · |> fun ⟨ds, h, e⟩ => ?_)
      rw [← e] at hdv
      obtain rfl := Option.some.inj hdv
      subst hx
      revert h
      refine bind_r fun ds h3 h4 => ?_
      revert hi; apply isName_r; intro y q
      exact s_callE B R hk hd (.inr B.range) keep_type hne hp ok2 h3 rm fun s' vals k r => wpAny_mono (itr_range rm.h h4 k r) (fun xv s₁ y => ⟨ktr k y.1, y.2⟩) fun _ _ x => x
    · subst hx
      rw [if_neg (by decide), if_pos rfl] at hi
      revert h
      refine bind_r fun ds h3 h => ?_
      (refine e1_2 ?_ (Option.map_eq_some_iff.mp h); intro xs h4 e)
      rw [← e] at hdv
      obtain rfl := Option.some.inj hdv
      revert h4
      refine bind_r fun d h4 h5 => ?_
      obtain rfl := listOf_some h5
      obtain rfl := one_some h4
      revert hi; apply isTup_r; intro es kk q
      refine s_callE B R hk hd (.inr B.enum) keep_type hne hp ok2 h3 rm fun s' vals k r => ?_
      revert r; apply cons_v; intro v vs r1; apply nil_v
      exact wpAny_mono (itr_enum rm.h k r1) (fun xv s₁ y => ⟨ktr k y.1, y.2⟩) fun _ _ x => x
    · rw [if_neg hx.2.1, if_neg hx.2.2] at hi
      have hv : evE O (.Call (.Name x fp) as [] p) false σ = some dv := by
        show callV O false x (evL O as σ) (evLen O as σ) = some dv
        unfold callV
        rw [if_neg hx.1, if_neg hx.2.1, if_neg hx.2.2]; exact h
      have hform : (∃ y q, t = .Name y q) ∨ ∃ es k q, t = .Tuple es k q := by
        rcases Bool.or_eq_true_iff.mp hi with h | h
        · exact .inl (isName_r (G := fun t => ∃ x p, t = .Name x p) (fun x p => ⟨x, p, rfl⟩) h)
        · exact .inr (isTup_r (G := fun t => ∃ es k p, t = .Tuple es k p) (fun es k p => ⟨es, k, p, rfl⟩) h)
      exact wpAny_mono (p_call B HO hp env X σ A s m _ ok hv R rm) (fun xv s₁ y => ⟨y.1, itr_items hform rm.h hdv y.1 y.2⟩) fun _ _ x => x
end
end Mine
end
noncomputable section
open PySem PySem.W PyProof.Rows PySem.Calls PySem.Spec
set_option Elab.async false
namespace Mine

section
variable {prog : Program} {w : World} {A : Around} {X : Addr → Prop} {base : Heap} {mg mb : Str → Option Value} {env : Env} {σ : Sto} {s : Shared} {m : Str → Option Value} {O : Orc} {n : Nat}

theorem compStart_two {R : Result → Shared → Prop} {elt target iter target2 iter2 : Expr} {ifs ifs2 : List Expr} {scope : Scope} {pos : Pos} {it acc : Value}
    (h0 : codeAny (model prog w) A (.compLoop (LC2 elt target iter target2 iter2 ifs ifs2 scope pos) 1 it acc env) R s)
    (h : wpAny (model prog w) A (pyIter it) (fun it' s' => codeAny (model prog w) A (.compLoop (LC2 elt target iter target2 iter2 ifs ifs2 scope pos) 1 it' acc env) R s')
      (notedBy (model prog w) A env fun x s' => R (.error x) s') s) :
    codeAny (model prog w) A (.compStart (LC2 elt target iter target2 iter2 ifs ifs2 scope pos) 1 it acc env) R s := by
  refine codeAny_of_tree ?_
  show wpAny _ _ ((compStart (LC2 elt target iter target2 iter2 ifs ifs2 scope pos) 1 it acc env).onRaise (fun x => do noteFrame x env; standAt theWindowsPlace)) _ _ s
  refine wpAny_notedAt ?_
  unfold compStart
  show wpAny _ _ (ask >>= _) _ _ s
  refine wpAny_bind (wpAny_askSetting (wpAny_ite ?_))
  split
  · first
      | exact wpAny_bind (wpAny_pure (wpAny_pure (And.intro rfl h0)))
      | exact wpAny_pure (And.intro rfl h0)
  · first
      | exact wpAny_bind (wpAny_rule (wpAny_bind (wpAny_standAt (wpAny_bind (wpAny_mono h (fun it' s' h' => wpAny_pure (And.intro rfl h')) fun _ _ x => x)))))
      | (refine wpAny_bind (wpAny_rule ?_); show wpAny _ _ (standAt iter2.pos >>= _) _ _ s; exact wpAny_bind (wpAny_standAt (wpAny_bind (wpAny_mono h (fun it' s' h' => wpAny_pure (And.intro rfl h')) fun _ _ x => x))))

theorem RdM.wide {s' : Shared} {wr : List Addr} (R : RdM base env X σ s.heap m) (k : Keeps s s') (hw : ∀ b ∈ wr, s.heap.get? b = none ∧ ∃ o, s'.heap.get? b = some o) : RdM base env (fun a => X a ∨ a ∈ wr) σ s'.heap m :=
  let R' := R.up (kle k)
  have t : ∀ a o, ¬ X a → s.heap.get? a = some o → ¬ (X a ∨ a ∈ wr) ∧ s'.heap.get? a = some o := fun a o xa e => ⟨fun q => q.elim xa fun q => (by rw [(hw a q).1] at e; cases e), kle k a o e⟩
  { fn := R'.fn, gl := R'.gl, bl := R'.bl, ba := R'.ba, ns := R'.ns, ci := R'.ci, cellAt := R'.cellAt
    pres := fun a xa => xa.elim (R'.pres a) fun q => (hw a q).2
    vals := fun x d e => let ⟨v, c, r⟩ := R.vals x d e; ⟨v, c.up (kle k), r.to t⟩
    owns := fun x xs e => let ⟨a, vs, nn, c, g, r⟩ := R.owns x xs e; ⟨a, vs, nn, c.up (kle k), kle k _ _ g, r.to t⟩ }

theorem s_emit {elt : Expr} {c : Code} {D : Addr} {d : PyData} {acc : List PyData} {vs : List Value} {nn : Nat} {inner : List Str} (hD : X D) (hCD : env.locals ≠ D)
    (helt : wpAny (model prog w) A (eval elt env) (fun v s' => Keeps s s' ∧ Rp X s'.heap v d) NoE s) (R : RdM base env X σ s.heap m) (g : s.heap.get? D = some (listOf vs.toArray nn)) (r : RpA X s.heap vs acc) (hl : (acc ++ [d]).length ≤ 1048576) :
    wpAny (model prog w) A ((do let _ ← call (.builtin "list.append") [.ref D, ← eval elt env] : Sem Unit) >>= fun _ => again c) (fun fin s' => fin = .again c ∧ Ch (fun b => b = env.locals ∨ b = D) s s' ∧ (∃ m', s'.heap.Ns env.locals m' ∧ ∀ x, x ∉ inner → m' x = m x) ∧
      ∃ vs' n', s'.heap.get? D = some (listOf vs'.toArray n') ∧ RpA X s'.heap vs' (acc ++ [d])) NoE s := by
  refine wpAny_bind (wpAny_bind (wpAny_mono helt (fun v s₁ x => wpAny_bind ?_) fun _ _ x => x))
  (refine e0_2 ?_ x; clear x; intro k rv)
  have g₁ := kle k _ _ g
  have r₁ := r.up (kle k)
  have hlen := r.length
  refine wpAny_list_append_plain ⟨nn, g₁⟩ (fun h' hp hs => ?_) (by rw [List.size_toArray, hlen, sizeLine_eq]; simp at hl; lia)
  (refine e1_1 ?_ hp; clear hp; intro n' g')
  refine wpAny_pure (wpAny_pure ⟨rfl, ?_, ⟨m, ?_, fun _ _ => rfl⟩, vs ++ [v], n', ?_, ?_⟩)
  · exact (kch k fun _ => False).tr (ch_heap (W := fun b => b = D) s₁ h' s₁.toks fun b o nb e => (hs.2 b nb).trans e) fun d o nd _ => ⟨id, fun q => nd (.inr q)⟩
  · exact ((R.ns.keeps (kle k)).at' fun o e => (hs.2 _ hCD).trans e)
  · have : vs.toArray.push v = (vs ++ [v]).toArray := by simp
    rw [← this]; exact g'
  · exact (r₁.append (.cons rv .nil)).to fun a o xa e => ⟨xa, (hs.2 a fun q => xa (q ▸ hD)).trans e⟩

structure GenOk (prog : Program) (w : World) (base : Heap) (O : Orc) (n : Nat) (g : Comprehension) : Prop where
  it : PE prog w base O n g.iter
  ifs : ∀ c ∈ g.ifs, PE prog w base O n c

theorem noOwn_map {τ : Sto} {ys : List PyData} {elt : Expr} (h : (evE O elt false τ).map (fun d => [d]) = some ys) : ∃ d, evE O elt false τ = some d ∧ ys = [d] := by
  (refine e1_2 ?_ (Option.map_eq_some_iff.mp h); intro d h1 h2)
  exact ⟨d, h1, h2.symm⟩

theorem loc_none {K : Nms} {scope : Scope} {t : Expr} (q : tgtLoc t (relNames K scope) = true) {x : Str} (hx : x ∈ tgtNames t) : compSto scope σ x = none := by
  cases e : compSto scope σ x with
  | none => rfl
  | some sl =>
    exfalso
    (refine e0_2 ?_ (compSto_some e); intro hf _)
    (refine e0_2 ?_ (Bool.and_eq_true_iff.mp q); intro q _)
    have := List.all_eq_true.mp (Bool.and_eq_true_iff.mp q).2 x hx
    have h1 := beq_iff_eq.mp (Bool.and_eq_true_iff.mp this).1
    have e' : (relNames K scope).lookup x = _ := relNames_lookup K x scope.names
    rw [hf, h1] at e'
    have e' : NameKind.local = if (NameKind.free == NameKind.free && K.lookup x == some NameKind.cell) = true then NameKind.cell else .free := Option.some.inj e'
    by_cases c : (NameKind.free == NameKind.free && K.lookup x == some NameKind.cell) = true
    · rw [if_pos c] at e'; cases e'
    · rw [if_neg c] at e'; cases e'
theorem s_comp {elt : Expr} {gens : List Comprehension} {scope : Scope} {pos p : Pos} {ys : List PyData} {use : Option (Value → Sem Unit)} {Q : Value → Shared → Prop}
    (hE : PE prog w base O n elt) (hG : ∀ g ∈ gens, GenOk prog w base O n g) (ok : okE (.ListComp elt gens scope pos) env.scope.names = true)
    (he : evC O gens (evE O elt false) scope σ = some ys) (hlen : lenOk ys.length = true) (R : RdM base env X σ s.heap m) (rm : Room A n)
    (hQ : ∀ (D C : Addr) (vs : List Value) (n : Nat) (s' : Shared) (m' : Str → Option Value), Keeps s s' → s.heap.get? D = none → s.heap.get? C = none → D ≠ C → s'.heap.Ns C m' → s'.heap.get? D = some (listOf vs.toArray n) →
      RpA (fun a => X a ∨ a = C ∨ a = D) s'.heap vs ys → compPost (model prog w) A NoE use Q (.ref D) C (.ok .next) s') :
    wpAny (model prog w) A (comprehension (.ListComp elt gens scope pos) scope env p (newList []) (firstAsync gens) (firstIter gens env) use) Q NoE s := by
  (refine e0_2 ?_ (Bool.and_eq_true_iff.mp ok); intro ok o4)
  have o4 := of_decide_eq_true o4
  (refine e0_2 ?_ (Bool.and_eq_true_iff.mp ok); intro ok o3)
  (refine e0_2 ?_ (Bool.and_eq_true_iff.mp ok); intro o1 o2)
  have S := scopeOk_spec o1
  have hlen' := lenOk_iff.mp hlen
  cases gens with
  | nil => exact none_e he
  | cons g gs =>
    obtain ⟨t, i, ifs, a⟩ := g
    (refine e0_2 ?_ (Bool.and_eq_true_iff.mp o3); intro o3 q5)
    (refine e0_2 ?_ (Bool.and_eq_true_iff.mp o3); intro o3 q4)
    (refine e0_2 ?_ (Bool.and_eq_true_iff.mp o3); intro o3 q3)
    (refine e0_2 ?_ (Bool.and_eq_true_iff.mp o3); intro o3 q2)
    (refine e0_2 ?_ (Bool.and_eq_true_iff.mp o3); intro o3 q1)
    obtain rfl := beq_iff_eq.mp o3
    clear ok
    revert he
    refine bind_r fun items he h3 => ?_
    revert he
    refine bind_r fun dd h1 h2 => ?_
    have G1 := hG _ (List.mem_cons_self ..)
    have hit := wpAny_mono (G1.it.i t env X σ A s m dd items q3 q2 h1 h2 R rm) (fun _ _ x => And.intro x.1 x.2.o) fun _ _ x => x
    show wpAny (model prog w) A (comprehension (.ListComp elt (⟨t, i, ifs, 0⟩ :: gs) scope pos) scope env p (newList []) false (eval i env) use) Q NoE s
    refine comp_core R S (folded_pure h1 env) hit (ys := ys) ?_ hQ
    intro cenv D I wr St X' s₄ m₄ hnm R₄ hno hC hD hCD hCw hDw hcell hbase hI hst hDl
    have hf : ∀ (Y : Addr → Prop) (ifs : List Expr) τ1 s m b, (∀ c ∈ ifs, PE prog w base O n c) → okL ifs cenv.scope.names = true → evTs O .And ifs τ1 = some b → RdM base cenv Y τ1 s.heap m →
        wpAny (model prog w) A (forIn ifs true fun c r => if r = true then do let ok ← isTrue c cenv (eval c cenv); pure (ForInStep.yield ok) else pure (ForInStep.yield r)) (fun b' s' => b' = b ∧ Keeps s s') NoE s :=
      fun Y ifs τ1 s m b hc okl hb R => s_tests ifs s b (fun e he s' b' k' hb' => (hc e he).t cenv Y τ1 A s' m b' (okL_mem okl e he) hb' (R.up (kle k')) rm) hb
    have hun : ∀ x, x ∈ tgtNames t → compSto scope σ x = none := fun x hx => loc_none q1 hx
    cases gs with
    | nil =>
      have := comp_loop (elt := elt) (gens := [⟨t, i, ifs, 0⟩]) (scope := scope) (pos := pos) (k := 0) (O := O) (body := evG O [] (evE O elt false)) (inner := []) (acc₀ := []) (vs₀ := []) (n₀ := 0) rm.h
        (turn_one elt t i ifs scope pos (.ref I) (.ref D) cenv) hI hC hD hCD hCw hDw hcell hbase hno (hnm ▸ q1) (fun x hx => hx.elim (hun x) fun q => by cases q) (fun x hx => by cases hx)
        (fun τ1 s m b hb R => hf X' ifs τ1 s m b G1.ifs (hnm ▸ q4) hb R) (fun τ1 s m ys acc vs nn _ _ hy R g r hl => ?_) R₄ hst hDl .nil h3 (by simpa using hlen')
      · exact codeAny_mono this fun r s' x => ⟨x.1, x.2.1, ⟨_, x.2.2.1.choose_spec.1⟩, by simpa using x.2.2.2⟩
      · have hy : (evE O elt false τ1).map (fun d => [d]) = some ys := hy
        (refine e1_2 ?_ (noOwn_map hy); intro d h5 zz1; subst zz1)
        exact s_emit hD hCD (hE.v cenv X' τ1 A s m d (hnm ▸ o2) h5 R rm) R g r hl
    | cons g2 gs =>
      obtain ⟨t2, i2, ifs2, a2⟩ := g2
      (refine e0_2 ?_ (Bool.and_eq_true_iff.mp q5); intro q5 z5)
      (refine e0_2 ?_ (Bool.and_eq_true_iff.mp q5); intro q5 z4)
      (refine e0_2 ?_ (Bool.and_eq_true_iff.mp q5); intro q5 z3)
      (refine e0_2 ?_ (Bool.and_eq_true_iff.mp q5); intro q5 z2)
      (refine e0_2 ?_ (Bool.and_eq_true_iff.mp q5); intro q5 z1)
      obtain rfl := beq_iff_eq.mp q5
      cases gs with
      | cons _ _ => cases z5
      | nil =>
      have G2 := hG ⟨t2, i2, ifs2, 0⟩ (by simp)
      have hun2 : ∀ x, x ∈ tgtNames t2 → compSto scope σ x = none := fun x hx => loc_none z1 hx
      have hdis : ∀ x ∈ tgtNames t2, x ∉ tgtNames t := by
        simp only [List.flatMap_cons, List.flatMap_nil, List.append_nil] at o4
        intro x h1 h2
        exact (List.nodup_append.mp o4).2.2 x h2 x h1 rfl
      have := comp_loop (elt := elt) (gens := [⟨t, i, ifs, 0⟩, ⟨t2, i2, ifs2, 0⟩]) (scope := scope) (pos := pos) (k := 0) (O := O) (body := evG O [⟨t2, i2, ifs2, 0⟩] (evE O elt false)) (inner := tgtNames t2) (acc₀ := []) (vs₀ := []) (n₀ := 0) rm.h
        (turn_two0 elt t i t2 i2 ifs ifs2 scope pos (.ref I) (.ref D) cenv) hI hC hD hCD hCw hDw hcell hbase hno (hnm ▸ q1) (fun x hx => hx.elim (hun x) (hun2 x)) hdis
        (fun τ1 s m b hb R => hf X' ifs τ1 s m b G1.ifs (hnm ▸ q4) hb R) (fun τ1 s₅ m₅ ys₅ acc vs nn hno1 hun1 hy R₅ g r hl => ?_) R₄ hst hDl .nil h3 (by simpa using hlen')
      · exact codeAny_mono this fun r s' x => ⟨x.1, x.2.1, ⟨_, x.2.2.1.choose_spec.1⟩, by simpa using x.2.2.2⟩
      · revert hy
        refine bind_r fun items2 hy h7 => ?_
        revert hy
        refine bind_r fun d2 h5 h6 => ?_
        refine wpAny_bind (wpAny_mono (G2.it.i t2 cenv X' τ1 A s₅ m₅ d2 items2 (hnm ▸ z3) z2 h5 h6 R₅ rm) (fun xv s₆ x => wpAny_bind (wpAny_standAt (wpAny_bind (wpAny_of_eq (folded_pure h5 cenv xv) (wpAny_bind (wpAny_holding (wpAny_mono x.2.o (fun it s₇ y => ?_) fun _ _ x => x.elim))))))) fun _ _ x => x.elim)
        (refine e2_4 ?_ y; clear y; intro I2 wr2 zz1 k₇ hwr2 hIts; subst zz1)
        have R₇ := R₅.wide k₇ hwr2
        (refine e1_2 ?_ (hIts (fun a => X' a ∨ a ∈ wr2) (fun b hb => .inr hb) fun a o xa aw e q => q.elim xa aw); intro St2 hSt2 hI2)
        have offw : ∀ a o, s₅.heap.get? a = some o → a ∉ wr2 := fun a o e q => by rw [(hwr2 a q).1] at e; cases e
        have hC2 : cenv.locals ∉ wr2 := by (refine e3_2 ?_ R₅.ns; intro o es ep e _); exact offw _ o e
        have hD2 : D ∉ wr2 := offw _ _ g
        have r₇ : RpA (fun a => X' a ∨ a ∈ wr2) s₇.heap vs acc := r.to fun a o xa e => ⟨fun q => q.elim xa (offw a o e), kle k₇ a o e⟩
        have loop := comp_loop (elt := elt) (gens := [⟨t, i, ifs, 0⟩, ⟨t2, i2, ifs2, 0⟩]) (scope := scope) (pos := pos) (k := 1) (O := O) (body := evG O [] (evE O elt false)) (inner := []) (acc₀ := acc) (vs₀ := vs) (n₀ := nn) rm.h
          (turn_two1 elt t i t2 i2 ifs ifs2 scope pos (.ref I2) (.ref D) cenv) hI2 (.inl hC) (.inl hD) hCD hC2 hD2 (fun x c a b => ⟨(hcell x c a b).1, (hcell x c a b).2.1, by
            (refine e2_2 ?_ (R₅.cellAt x c a b); intro u o e _); exact offw _ o e⟩) ⟨hbase.1, hbase.2.1, fun b hb => none_old R₅.ba (hwr2 b hb).1⟩ hno1 (hnm ▸ z1) (fun x hx => hx.elim (hun1 x) fun q => by cases q) (fun x hx => by cases hx)
          (fun τ2 s m b hb R => hf _ ifs2 τ2 s m b G2.ifs (hnm ▸ z4) hb R) (fun τ2 s m ys acc vs nn _ _ hy R g r hl => (by
            have hy : (evE O elt false τ2).map (fun d => [d]) = some ys := hy
            (refine e1_2 ?_ (noOwn_map hy); intro d h5 zz1; subst zz1)
            exact s_emit (.inl hD) hCD (hE.v cenv _ τ2 A s m d (hnm ▸ o2) h5 R rm) R g r hl)) R₇ (hSt2 _ fun _ _ e => e) (kle k₇ _ _ g) r₇ h7 hl
        have post : ∀ (rr : Result) (s' : Shared), (rr = .ok .next ∧ Ch (fun b => b = cenv.locals ∨ b = D ∨ b ∈ wr2) s₇ s' ∧ (∃ m', s'.heap.Ns cenv.locals m' ∧ ∀ x, x ∉ ([] : List Str) → x ∉ tgtNames t2 → m' x = m₅ x) ∧ ∃ vs' n', s'.heap.get? D = some (listOf vs'.toArray n') ∧ RpA (fun a => X' a ∨ a ∈ wr2) s'.heap vs' (acc ++ ys₅)) →
            (match rr with
              | .ok f => wpAny (model prog w) A (again (.compLoop (LC2 elt t i t2 i2 ifs ifs2 scope pos) 0 (.ref I) (.ref D) cenv)) (fun fin s' => fin = .again (.compLoop (LC2 elt t i t2 i2 ifs ifs2 scope pos) 0 (.ref I) (.ref D) cenv) ∧ Ch (fun b => b = cenv.locals ∨ b = D) s₅ s' ∧ (∃ m', s'.heap.Ns cenv.locals m' ∧ ∀ x, x ∉ tgtNames t2 → m' x = m₅ x) ∧ ∃ vs' n', s'.heap.get? D = some (listOf vs'.toArray n') ∧ RpA X' s'.heap vs' (acc ++ ys₅)) NoE s'
              | .error e => cameBackBy (model prog w) A cenv NoE e s') := by
          (intro rr s' zz1; refine e0_4 ?_ zz1; clear zz1; intro zz2 c zz3 zz4; subst zz2; refine e1_2 ?_ zz3; clear zz3; intro m' n1 n2; refine e2_2 ?_ zz4; clear zz4; intro vs' n' g' r')
          refine wpAny_pure ⟨rfl, ?_, ⟨m', n1, fun x hx => n2 x (by simp) hx⟩, vs', n', g', r'.to fun a o xa e => ⟨fun q => xa (.inl q), e⟩⟩
          exact (kch k₇ fun _ => False).tr c fun d o nd e => ⟨id, fun q => by
            rcases q with q | q | q
            · exact nd (.inl q)
            · exact nd (.inr q)
            · exact offw d o e q⟩
        refine wpAny_bind (wpAny_runOwn ?_)
        show codeAny (model prog w) A _ _ s₇
        refine codeAny_mono (compStart_two loop (wpAny_mono (hI2.self 0 s₇ (hSt2 _ fun _ _ e => e)) (fun it' s' x => by (refine e0_2 ?_ x; clear x; intro zz1 zz2; subst zz1; subst zz2); exact loop) fun _ _ x => x.elim)) post

theorem p_comp {elt : Expr} {gens : List Comprehension} {scope : Scope} {pos : Pos} (hE : PE prog w base O n elt) (hG : ∀ g ∈ gens, GenOk prog w base O n g) : PV prog w base O n (.ListComp elt gens scope pos) := by
  intro env X σ A s m d ok he R rm
  revert he
  refine bind_r fun ys h1 => ?_
  apply ifs_r; intro hl
  rw [eval_ListComp]
  refine s_comp hE hG ok h1 hl R rm fun D C vs nn s' m' k hD hC hDC hn g r => ⟨m', hn, fun h' hs' => ?_⟩
  have off : ∀ a o, s.heap.get? a = some o → a ≠ C := fun a o e q => by rw [q, hC] at e; cases e
  have kk : Keeps s { s' with heap := h' } := by
    (refine e2_2 ?_ k; clear k; intro h1 t1 zz1 k1; subst zz1)
    exact ⟨h', t1, rfl, fun b o e => (hs'.2 b (off b o e)).trans (k1 b o e)⟩
  refine ⟨kk, .list (fun q => ?_) ((hs'.2 D hDC).trans g) (r.to fun a o xa e => ⟨fun q => xa (.inl q), (hs'.2 a fun q => xa (.inr (.inl q))).trans e⟩)⟩
  (refine e1_1 ?_ (R.pres D q); intro o e)
  rw [hD] at e; cases e
end
end Mine
end
noncomputable section
open PySem PySem.W PyProof.Rows PySem.Calls PySem.Spec
set_option Elab.async false
namespace Mine

section
variable {prog : Program} {w : World} {base : Heap} {mg mb : Str → Option Value} {O : Orc} {n : Nat}

theorem pe_of {e : Expr} (hc : ∀ f as ks p, e ≠ .Call f as ks p) (hs : ∀ lo hi st p, e ≠ .Slice lo hi st p) (v : PV prog w base O n e) (t : PT prog w base O n e) : PE prog w base O n e := ⟨v, pi_of_pv hc v, t, ps_none hs⟩

theorem p_const {c : Const} {k : Nat} {p : Pos} : PV prog w base O n (.Constant c k p) := by
  intro env X σ A s m d ok he R rm
  revert he
  cases c with
  | int i => apply sm_r; exact wpAny_Constant_int ⟨keeps_toks _ _, .int _ _⟩
  | bool b => apply sm_r; exact wpAny_Constant_bool ⟨keeps_refl _, .bool _⟩
  | none => apply sm_r; exact wpAny_Constant_none ⟨keeps_refl _, .none⟩
  | _ => exact none_r
theorem p_name {x : Str} {p : Pos} : PV prog w base O n (.Name x p) := by
  intro env X σ A s m d ok he R rm
  exact s_rdV R he

mutual
theorem main (B : Bg base mg mb) (HO : OSound prog w base mg mb n O) : ∀ e : Expr, PE prog w base O n e
  | .Constant c k p => pe_of (fun _ _ _ _ q => nomatch q) (fun _ _ _ _ q => nomatch q) p_const (pt_none fun _ => rfl)
  | .Name x p => pe_of (fun _ _ _ _ q => nomatch q) (fun _ _ _ _ q => nomatch q) p_name (pt_none fun _ => rfl)
  | .BinOp l op r p => pe_of (fun _ _ _ _ q => nomatch q) (fun _ _ _ _ q => nomatch q) (p_bin (main B HO l).v (main B HO r).v) (pt_none fun _ => rfl)
  | .UnaryOp op x p => pe_of (fun _ _ _ _ q => nomatch q) (fun _ _ _ _ q => nomatch q) (p_un (main B HO x).v) (p_not (main B HO x).t)
  | .IfExp t b o p => pe_of (fun _ _ _ _ q => nomatch q) (fun _ _ _ _ q => nomatch q) (p_ite (main B HO t).t (main B HO b).v (main B HO o).v) (pt_none fun _ => rfl)
  | .Compare l ops rs p => pe_of (fun _ _ _ _ q => nomatch q) (fun _ _ _ _ q => nomatch q) (p_cmp (main B HO l).v fun e he => (mainL B HO rs e he).v) (p_cmpT (main B HO l).v fun e he => (mainL B HO rs e he).v)
  | .BoolOp op vs p => pe_of (fun _ _ _ _ q => nomatch q) (fun _ _ _ _ q => nomatch q) (p_bool fun e he => (mainL B HO vs e he).v) (p_boolT fun e he => (mainL B HO vs e he).t)
  | .List es p => pe_of (fun _ _ _ _ q => nomatch q) (fun _ _ _ _ q => nomatch q) (p_list fun e he => (mainL B HO es e he).v) (pt_none fun _ => rfl)
  | .Tuple es k p => pe_of (fun _ _ _ _ q => nomatch q) (fun _ _ _ _ q => nomatch q) (p_tup fun e he => (mainL B HO es e he).v) (pt_none fun _ => rfl)
  | .Subscript b i p => pe_of (fun _ _ _ _ q => nomatch q) (fun _ _ _ _ q => nomatch q) (p_sub (main B HO b) (main B HO i)) (pt_none fun _ => rfl)
  | .Slice lo hi st p => ⟨fun env X σ A s m d ok he => none_e he, fun t env X σ A s m d items ok hi he => none_e he, pt_none (fun _ => rfl),
      fun lo' hi' st' p' q => by cases q; exact ⟨fun x e => (mainO B HO lo x e).v, fun x e => (mainO B HO hi x e).v, fun x e => (mainO B HO st x e).v⟩⟩
  | .Call f as ks p => ⟨p_call B HO fun e he => (mainL B HO as e he).v, p_callI B HO fun e he => (mainL B HO as e he).v, p_callT B HO fun e he => (mainL B HO as e he).v, ps_none (fun _ _ _ _ q => nomatch q)⟩
  | .ListComp elt gens scope p => pe_of (fun _ _ _ _ q => nomatch q) (fun _ _ _ _ q => nomatch q) (p_comp (main B HO elt) (mainG B HO gens)) (pt_none fun _ => rfl)
  | .NamedExpr .. => pe_none (fun _ _ => rfl) (fun _ => rfl) (fun _ _ _ _ q => nomatch q)
  | .Lambda .. => pe_none (fun _ _ => rfl) (fun _ => rfl) (fun _ _ _ _ q => nomatch q)
  | .Dict .. => pe_none (fun _ _ => rfl) (fun _ => rfl) (fun _ _ _ _ q => nomatch q)
  | .Set .. => pe_none (fun _ _ => rfl) (fun _ => rfl) (fun _ _ _ _ q => nomatch q)
  | .SetComp .. => pe_none (fun _ _ => rfl) (fun _ => rfl) (fun _ _ _ _ q => nomatch q)
  | .DictComp .. => pe_none (fun _ _ => rfl) (fun _ => rfl) (fun _ _ _ _ q => nomatch q)
  | .GeneratorExp .. => pe_none (fun _ _ => rfl) (fun _ => rfl) (fun _ _ _ _ q => nomatch q)
  | .Await .. => pe_none (fun _ _ => rfl) (fun _ => rfl) (fun _ _ _ _ q => nomatch q)
  | .Yield .. => pe_none (fun _ _ => rfl) (fun _ => rfl) (fun _ _ _ _ q => nomatch q)
  | .YieldFrom .. => pe_none (fun _ _ => rfl) (fun _ => rfl) (fun _ _ _ _ q => nomatch q)
  | .FormattedValue .. => pe_none (fun _ _ => rfl) (fun _ => rfl) (fun _ _ _ _ q => nomatch q)
  | .JoinedStr .. => pe_none (fun _ _ => rfl) (fun _ => rfl) (fun _ _ _ _ q => nomatch q)
  | .Attribute .. => pe_none (fun _ _ => rfl) (fun _ => rfl) (fun _ _ _ _ q => nomatch q)
  | .Starred .. => pe_none (fun _ _ => rfl) (fun _ => rfl) (fun _ _ _ _ q => nomatch q)
theorem mainL (B : Bg base mg mb) (HO : OSound prog w base mg mb n O) : ∀ es : List Expr, ∀ e ∈ es, PE prog w base O n e
  | [], _, h => nomatch h
  | a :: r, e, h => by
    rcases List.mem_cons.mp h with q | q
    · rw [q]; exact main B HO a
    · exact mainL B HO r e q
theorem mainO (B : Bg base mg mb) (HO : OSound prog w base mg mb n O) : ∀ o : Option Expr, ∀ e, o = some e → PE prog w base O n e
  | none, _, h => nomatch h
  | some a, e, h => by cases h; exact main B HO a
theorem mainG (B : Bg base mg mb) (HO : OSound prog w base mg mb n O) : ∀ gs : List Comprehension, ∀ g ∈ gs, GenOk prog w base O n g
  | [], _, h => nomatch h
  | ⟨t, i, ifs, a⟩ :: r, g, h => by
    rcases List.mem_cons.mp h with q | q
    · rw [q]; exact ⟨main B HO i, mainL B HO ifs⟩
    · exact mainG B HO r g q
end
end
end Mine
end
noncomputable section
open PySem PySem.W PyProof.Rows PySem.Calls PySem.Spec
set_option Elab.async false
namespace Mine

inductive Fl where
  | next
  | ret (d : PyData)

noncomputable def setAllS (σ : Sto) : List Str → List Slot → Sto
  | [], _ => σ
  | x :: xs, ss => match ss with
    | [] => σ
    | s :: ss => setAllS (setS σ x s) xs ss
noncomputable def listsOf : Expr → Option (List Expr)
  | .List es _ => some es
  | _ => none
theorem listsOf_some {e : Expr} {es : List Expr} (h : listsOf e = some es) : ∃ p, e = .List es p := by
  cases e with
  | List es' p => cases h; exact ⟨p, rfl⟩
  | _ => exact none_e h
noncomputable def okL2 (xs : List PyData) : Option (List PyData) := if lenOk xs.length then some xs else none
noncomputable def repV (xs : List PyData) (d : PyData) : Option (List PyData) := (intOf d).bind fun k => if smallI k = true ∧ lenOk (xs.length * k.toNat) = true then some (List.replicate k.toNat xs).flatten else none
noncomputable def copyV (x : Str) (d : Option PyData) : Option (List PyData) := if x = "list" then (d.bind listOfD).bind okL2 else none
/-- a list of its own, just made -/
noncomputable def freshV (O : Orc) (e : Expr) (σ : Sto) : Option (List PyData) := match e with
  | .List es _ => evL O es σ
  | .BinOp l op k _ => match op with
    | .Mult => (listsOf l).bind fun es => bind2 repV (evL O es σ) (evE O k false σ)
    | _ => none
  | .Call f as kws _ => match kws with
    | [] => (nameOf f).bind fun x => copyV x ((evL O as σ).bind oneOf)
    | _ :: _ => none
  | _ => none
noncomputable def slotV (O : Orc) (own : Bool) (e : Expr) (σ : Sto) : Option Slot := match own with
  | true => (freshV O e σ).map .own
  | false => (evE O e false σ).map .val
noncomputable def slotsV (O : Orc) (M : List Str) : List Str → List Expr → Sto → Option (List Slot)
  | [], es, _ => match es with
    | [] => some []
    | _ :: _ => none
  | x :: xs, es, σ => match es with
    | [] => none
    | e :: es => bind2 consO (slotV O (M.contains x) e σ) (slotsV O M xs es σ)
noncomputable def relS (σ : Sto) : Sto := fun y => (σ y).map fun s => .val s.data
noncomputable def contF (k : Sto → Option (Fl × Sto)) (r : Fl × Sto) : Option (Fl × Sto) := match r.1 with
  | .next => k r.2
  | .ret d => some (.ret d, r.2)
noncomputable def whileF (t : Sto → Option Bool) (b : Sto → Option (Fl × Sto)) : Nat → Sto → Option (Fl × Sto)
  | 0, _ => none
  | n + 1, σ => (t σ).bind fun c => match c with
    | true => (b σ).bind (contF (whileF t b n))
    | false => some (.next, σ)
noncomputable def forF (t : Expr) (b : Sto → Option (Fl × Sto)) : List PyData → Sto → Option (Fl × Sto)
  | [], σ => some (.next, σ)
  | d :: ds, σ => (bindT t d σ).bind fun σ1 => (b σ1).bind (contF (forF t b ds))

noncomputable def forItems (O : Orc) (i : Expr) (σ : Sto) : Option (List PyData) := (evE O i true σ).bind itemsOf

noncomputable def ownS : Slot → Option (List PyData)
  | .own xs => some xs
  | .val _ => none
theorem ownS_some {s : Slot} {xs : List PyData} (h : ownS s = some xs) : s = .own xs := by
  cases s with
  | own ys => cases h; rfl
  | val _ => exact none_e h
noncomputable def stoS (σ : Sto) (x : Str) (o : Option Slot) : Option (Fl × Sto) := o.map fun s => (.next, setS σ x s)
noncomputable def asgT (O : Orc) (M : List Str) (v : Expr) (σ : Sto) (xs : List Str) : Option (Fl × Sto) := match tupsOf v with
  | some vs => (slotsV O M xs vs σ).map fun ss => (.next, setAllS σ xs ss)
  | none => ((evE O v false σ).bind tupOfD).bind fun ds => if xs.length = ds.length then some (.next, setAllS σ xs (ds.map .val)) else none
noncomputable def setO (σ : Sto) (x : Str) (d k : PyData) : Option (Fl × Sto) := bind2 (fun xs k => if 0 ≤ k ∧ k < xs.length ∧ lenOk xs.length = true then some (.next, setS σ x (.own (xs.set k.toNat d))) else none) ((σ x).bind ownS) (intOf k)
noncomputable def asgV (O : Orc) (M : List Str) (t v : Expr) (σ : Sto) : Option (Fl × Sto) := match t with
  | .Name x _ => stoS σ x (slotV O (M.contains x) v σ)
  | .Tuple ts' _ _ => (namesOf ts').bind (asgT O M v σ)
  | .Subscript b i _ => (nameOf b).bind fun x => bind2 (setO σ x) (evE O v false σ) (evE O i false σ)
  | _ => none
noncomputable def attrOf : Expr → Option (Expr × Str)
  | .Attribute o mm _ => some (o, mm)
  | _ => none
theorem attrOf_some {e : Expr} {q : Expr × Str} (h : attrOf e = some q) : ∃ p, e = .Attribute q.1 q.2 p := by
  cases e with
  | Attribute o mm p => cases h; exact ⟨p, rfl⟩
  | _ => exact none_e h
noncomputable def mthO (σ : Sto) (x mm : Str) (xs : List PyData) (d : PyData) : Option (Fl × Sto) :=
  if mm = "append" then (if lenOk (xs.length + 1) then some (.next, setS σ x (.own (xs ++ [d]))) else none)
  else if mm = "extend" then (listOfD d).bind fun ys => (if lenOk (xs.length + ys.length) then some (.next, setS σ x (.own (xs ++ ys))) else none)
  else none
noncomputable def mthV (O : Orc) (f : Expr) (as : List Expr) (σ : Sto) : Option (Fl × Sto) := (attrOf f).bind fun q => (nameOf q.1).bind fun x => bind2 (mthO σ x q.2) ((σ x).bind ownS) ((evL O as σ).bind oneOf)
noncomputable def exprV (O : Orc) (e : Expr) (σ : Sto) : Option (Fl × Sto) := match e with
  | .Call f as kws _ => match kws with
    | [] => mthV O f as σ
    | _ :: _ => none
  | _ => none

mutual
noncomputable def exS (O : Orc) (M : List Str) (fuel : Nat) : Stmt → Sto → Option (Fl × Sto)
  | .Return v _, σ => match v with
    | some e => (evE O e false (relS σ)).map fun d => (.ret d, σ)
    | none => none
  | .Assign ts v _, σ => (oneOf ts).bind fun t => asgV O M t v σ
  | .Expr e _, σ => exprV O e σ
  | .If t b o _, σ => (evT O t σ).bind fun c => match c with
    | true => exSs O M fuel b σ
    | false => exSs O M fuel o σ
  | .While t b o _, σ => match o with
    | [] => whileF (evT O t) (exSs O M fuel b) fuel σ
    | _ :: _ => none
  | .For t i b o _, σ => match o with
    | [] => (forItems O i σ).bind fun items => forF t (exSs O M fuel b) items σ
    | _ :: _ => none
  | _, _ => none
noncomputable def exSs (O : Orc) (M : List Str) (fuel : Nat) : List Stmt → Sto → Option (Fl × Sto)
  | [], σ => some (.next, σ)
  | s :: r, σ => (exS O M fuel s σ).bind (contF (exSs O M fuel r))
end

noncomputable def nmOk (K : Nms) (x : Str) : Bool := (K.lookup x == some .local || K.lookup x == some .cell) && !(x == ("__debug__" : Str))
noncomputable def isCompE : Expr → Bool
  | .ListComp .. => true
  | .SetComp .. => true
  | .DictComp .. => true
  | _ => false
/-- a comprehension that is stored as it ends -/
noncomputable def swapOkE (x : Str) (px : Pos) (v : Expr) (K : Nms) : Bool := match v with
  | .ListComp _ _ scope p => K.lookup x == some .local && px.line == p.line && !(scope.names.any fun (n, k) => n == x && (k == .local || k == .cell))
  | _ => false
noncomputable def tgtS (t : Expr) (K : Nms) : Bool := match nameOf t with
  | some x => nmOk K x
  | none => match (tupsOf t).bind namesOf with
    | some xs => xs.all (nmOk K) && decide xs.Nodup
    | none => false
noncomputable def starE : Expr → Bool
  | .Starred .. => true
  | _ => false
noncomputable def okTs (o : Option (List Expr)) : Bool := match o with
  | some vs => !(vs.all (constantsAlone 8)) && (!vs.any starE && (vs.length == 2 || vs.length == 3))
  | none => true
noncomputable def okA (t v : Expr) (K : Nms) : Bool := match t with
  | .Name x px => nmOk K x && (!isCompE v || swapOkE x px v K)
  | .Tuple ts' k p => tgtS (.Tuple ts' k p) K && (!isCompE v && okTs (tupsOf v))
  | .Subscript b i _ => okE b K && (okE i K && !isCompE v)
  | _ => false
noncomputable def okAs (o : Option Expr) (v : Expr) (K : Nms) : Bool := match o with
  | some t => okA t v K
  | none => false
noncomputable def okM (f : Expr) (cp : Pos) : Bool := match f with
  | .Attribute o _ ap => isNameE o && ap.endLine == cp.line
  | _ => false
mutual
noncomputable def okS : Stmt → Nms → Bool
  | .Return v _, K => match v with
    | some e => okE e K
    | none => false
  | .Assign ts v _, K => okE v K && okAs (oneOf ts) v K
  | .Expr e _, K => match e with
    | .Call f as _ cp => okM f cp && okL as K
    | _ => false
  | .If t b o _, K => okE t K && (okSs b K && okSs o K)
  | .While t b _ _, K => okE t K && okSs b K
  | .For t i b _ _, K => okE i K && (tgtS t K && (iterOk t i && okSs b K))
  | _, _ => false
noncomputable def okSs : List Stmt → Nms → Bool
  | [], _ => true
  | s :: r, K => okS s K && okSs r K
end

/-! what stands between two statements -/
noncomputable def Wr (env : Env) (ad : Str → Addr) (σ : Sto) (a : Addr) : Prop := a = env.locals ∨ (∃ x, env.kindOf x = some .cell ∧ env.cells.lookup x = some a) ∨ ∃ x xs, σ x = some (.own xs) ∧ a = ad x
noncomputable def XX (X₀ : Addr → Prop) (env : Env) (ad : Str → Addr) (σ : Sto) (a : Addr) : Prop := X₀ a ∨ Wr env ad σ a
structure SI (base : Heap) (X₀ : Addr → Prop) (env : Env) (ad : Str → Addr) (σ : Sto) (s : Shared) (m : Str → Option Value) : Prop where
  R : RdM base env (XX X₀ env ad σ) σ s.heap m
  cur : ∀ x xs, σ x = some (.own xs) → CurM env s.heap m x (.ref (ad x))
  inj : ∀ x y xs ys, σ x = some (.own xs) → σ y = some (.own ys) → ad x = ad y → x = y
  ap : ∀ x y c, env.cells.lookup x = some c → env.cells.lookup y = some c → x = y
  dis : ∀ a, X₀ a → ¬ Wr env ad σ a
  bn : ∀ a, Wr env ad σ a → base.get? a = none

theorem CurM.det {env : Env} {h : Heap} {m : Str → Option Value} {x : Str} {v u : Value} (a : CurM env h m x v) (b : CurM env h m x u) : v = u := by
  rcases a.2 with ⟨k, e⟩ | ⟨k, c, e, i⟩ <;> rcases b.2 with ⟨k', e'⟩ | ⟨k', c', e', i'⟩
  · rw [e] at e'; exact Option.some.inj e'
  · rw [k] at k'; cases k'
  · rw [k] at k'; cases k'
  · rw [e] at e'; cases e'
    (refine e1_2 ?_ i; clear i; intro o h1 h2); (refine e1_2 ?_ i'; clear i'; intro o' h3 h4)
    rw [h1] at h3; cases h3
    rw [h2] at h4; cases h4; rfl

section
variable {prog : Program} {w : World} {A : Around} {X X₀ : Addr → Prop} {base : Heap} {env : Env} {σ : Sto} {s : Shared} {m : Str → Option Value} {ad : Str → Addr}

theorem SI.list (I : SI base X₀ env ad σ s m) {x : Str} {xs : List PyData} (h : σ x = some (.own xs)) : ∃ vs n, s.heap.get? (ad x) = some (listOf vs.toArray n) ∧ RpA (XX X₀ env ad σ) s.heap vs xs := by
  (refine e3_3 ?_ (I.R.owns x xs h); intro a vs n c g r)
  have := (I.cur x xs h).det c
  cases this
  exact ⟨vs, n, g, r⟩

theorem RdM.narrow {X' : Addr → Prop} {h : Heap} (R : RdM base env X σ h m) (k : ∀ a, X' a → X a) : RdM base env X' σ h m :=
  { R with
    pres := fun a xa => R.pres a (k a xa)
    vals := fun x d e => let ⟨v, c, r⟩ := R.vals x d e; ⟨v, c, r.to fun a o xa e => ⟨fun q => xa (k a q), e⟩⟩
    owns := fun x xs e => let ⟨a, vs, n, c, g, r⟩ := R.owns x xs e; ⟨a, vs, n, c, g, r.to fun a o xa e => ⟨fun q => xa (k a q), e⟩⟩ }

theorem nmOk_spec {K : Nms} {x : Str} (h : nmOk K x = true) : (K.lookup x = some .local ∨ K.lookup x = some .cell) ∧ (x == ("__debug__" : Str)) = false := by
  simp only [nmOk, Bool.and_eq_true, Bool.or_eq_true, beq_iff_eq, Bool.not_eq_true'] at h
  exact ⟨h.1, by simpa using h.2⟩

/-- a store of a shared value into a name of the frame: everything about the other names stays -/
theorem s_store0 {x : Str} {v : Value} {d : PyData} (R : RdM base env X σ s.heap m) (ap : ∀ x y c, env.cells.lookup x = some c → env.cells.lookup y = some c → x = y) (hx : nmOk env.scope.names x = true)
    (hL : X env.locals ∧ base.get? env.locals = none) (hC : ∀ c, env.kindOf x = some .cell → env.cells.lookup x = some c → X c ∧ base.get? c = none) (r : Rp X s.heap v d) :
    wpAny (model prog w) A (storeName env x v) (fun _ s' => ∃ p m', (p = env.locals ∨ (env.kindOf x = some .cell ∧ env.cells.lookup x = some p)) ∧ Ch (· = p) s s' ∧ RdM base env X (setS σ x (.val d)) s'.heap m' ∧ CurM env s'.heap m' x v ∧
      (∀ y u, y ≠ x → CurM env s.heap m y u → CurM env s'.heap m' y u) ∧ (∀ vs k, s.heap.get? p ≠ some (listOf vs k))) NoE s := by
  (refine e0_2 ?_ (nmOk_spec hx); intro hk hd)
  rcases hk with hk | hk
  · refine wpAny_mono (s_store_local R hk hd hL.1 hL.2 r) (fun _ s' y => ⟨env.locals, _, .inl rfl, y.1, y.2, ⟨hd, .inl ⟨hk, by simp⟩⟩, fun z u ne c => ?_, fun vs k e => ns_not_list R.ns e⟩) fun _ _ x => x
    refine ⟨c.1, c.2.imp (fun ⟨a, b⟩ => ⟨a, by show (if z = x then some v else m z) = some u; rw [if_neg ne]; exact b⟩) fun ⟨a, c', e1, e2⟩ => ⟨a, c', e1, cell_congr e2 fun o e => y.1.at (fun q => ?_) e⟩⟩
    subst q
    exact ns_not_cell R.ns e2
  · (refine e1_1 ?_ (R.ci x hk); intro c hc)
    have hcell := R.cellAt x c hk hc
    (refine e0_2 ?_ (hC c hk hc); intro h1 h2)
    refine wpAny_mono (s_store_cell R hk hc hcell ap hd h1 h2 r) (fun _ s' y => ⟨c, _, .inr ⟨hk, hc⟩, y.1, y.2.1, ⟨hd, .inr ⟨hk, c, hc, y.2.2⟩⟩, fun z u ne cu => ?_, fun vs k e => ?_⟩) fun _ _ x => x
    · refine ⟨cu.1, cu.2.imp id fun ⟨a, c', e1, e2⟩ => ⟨a, c', e1, cell_congr e2 fun o e => y.1.at (fun q => ?_) e⟩⟩
      subst q
      exact ne (ap _ _ _ e1 hc)
    · (refine e1_1 ?_ hcell; clear hcell; intro u hu); exact cell_not_list hu e
end
end Mine
end
noncomputable section
open PySem PySem.W PyProof.Rows PySem.Calls PySem.Spec
set_option Elab.async false
namespace Mine

section
variable {prog : Program} {w : World} {A : Around} {X X₀ : Addr → Prop} {base : Heap} {env : Env} {σ : Sto} {s : Shared} {m : Str → Option Value} {ad : Str → Addr}

theorem Wr.fixed {σ' : Sto} {ad' : Str → Addr} {p : Addr} {x : Str} (h : p = env.locals ∨ (env.kindOf x = some .cell ∧ env.cells.lookup x = some p)) : Wr env ad' σ' p :=
  h.imp id fun h => .inl ⟨x, h.1, h.2⟩

theorem s_storeV {x : Str} {v : Value} {d : PyData} (I : SI base X₀ env ad σ s m) (hx : nmOk env.scope.names x = true) (r : Rp (XX X₀ env ad σ) s.heap v d) :
    wpAny (model prog w) A (storeName env x v) (fun _ s' => ∃ p m', (p = env.locals ∨ (env.kindOf x = some .cell ∧ env.cells.lookup x = some p)) ∧ (∀ vs k, s.heap.get? p ≠ some (listOf vs k)) ∧ Ch (· = p) s s' ∧ SI base X₀ env ad (setS σ x (.val d)) s' m' ∧ ∀ a, Wr env ad (setS σ x (.val d)) a → Wr env ad σ a) NoE s := by
  refine wpAny_mono (s_store0 I.R I.ap hx ⟨.inr (.inl rfl), I.bn _ (.inl rfl)⟩ (fun c h1 h2 => ⟨.inr (.inr (.inl ⟨x, h1, h2⟩)), I.bn _ (.inr (.inl ⟨x, h1, h2⟩))⟩) r) (fun _ s' y => ?_) fun _ _ x => x
  (refine e2_6 ?_ y; clear y; intro p m' hp c R' cx co nl)
  have ow : ∀ y ys, setS σ x (.val d) y = some (.own ys) → y ≠ x ∧ σ y = some (.own ys) := fun y ys e => by
    by_cases q : y = x
    · rw [setS_at q] at e; cases e
    · rw [setS_off q] at e; exact ⟨q, e⟩
  have sub : ∀ a, Wr env ad (setS σ x (.val d)) a → Wr env ad σ a := fun a h => h.imp id fun h => h.imp id fun ⟨y, ys, e, q⟩ => ⟨y, ys, (ow y ys e).2, q⟩
  exact ⟨p, m', hp, nl, c, {
    R := R'.narrow fun a h => h.imp id (sub a)
    cur := fun y ys e => co y _ (ow y ys e).1 (I.cur y ys (ow y ys e).2)
    inj := fun y z ys zs e1 e2 q => I.inj y z ys zs (ow y ys e1).2 (ow z zs e2).2 q
    ap := I.ap
    dis := fun a h q => I.dis a h (sub a q)
    bn := fun a q => I.bn a (sub a q) }, sub⟩

theorem s_storeO {x : Str} {a : Addr} {xs : List PyData} {vs : List Value} {n : Nat} (I : SI base X₀ env ad σ s m) (hx : nmOk env.scope.names x = true) (ha : X₀ a) (hb : base.get? a = none) (g : s.heap.get? a = some (listOf vs.toArray n)) (r : RpA (XX X₀ env ad σ) s.heap vs xs) :
    wpAny (model prog w) A (storeName env x (.ref a)) (fun _ s' => ∃ p m', (p = env.locals ∨ (env.kindOf x = some .cell ∧ env.cells.lookup x = some p)) ∧ (∀ vs k, s.heap.get? p ≠ some (listOf vs k)) ∧ Ch (· = p) s s' ∧ SI base (fun b => X₀ b ∧ b ≠ a) env (fun y => if y = x then a else ad y) (setS σ x (.own xs)) s' m' ∧
      ∀ b, Wr env (fun y => if y = x then a else ad y) (setS σ x (.own xs)) b → Wr env ad σ b ∨ b = a) NoE s := by
  have hnW := I.dis a ha
  have naL : env.locals ≠ a := fun q => hnW (.inl q.symm)
  have R₁ : RdM base env (fun b => XX X₀ env ad σ b ∧ b ≠ a) σ s.heap m := I.R.narrow fun b h => h.1
  have r₁ : Rp (fun b => XX X₀ env ad σ b ∧ b ≠ a) s.heap (.ref a) (.list xs) := .list (fun q => q.2 rfl) g (r.to fun b o xb e => ⟨fun q => xb q.1, e⟩)
  refine wpAny_mono (s_store0 R₁ I.ap hx ⟨⟨.inr (.inl rfl), naL⟩, I.bn _ (.inl rfl)⟩ (fun c h1 h2 => ⟨⟨.inr (.inr (.inl ⟨x, h1, h2⟩)), fun q => hnW (q ▸ .inr (.inl ⟨x, h1, h2⟩))⟩, I.bn _ (.inr (.inl ⟨x, h1, h2⟩))⟩) r₁) (fun _ s' y => ?_) fun _ _ x => x
  (refine e2_6 ?_ y; clear y; intro p m' hp c R' cx co nl)
  have ow : ∀ y ys, setS σ x (.own xs) y = some (.own ys) → (y = x ∧ ys = xs) ∨ (y ≠ x ∧ σ y = some (.own ys)) := fun y ys e => by
    by_cases q : y = x
    · rw [setS_at q] at e; cases e; exact .inl ⟨q, rfl⟩
    · rw [setS_off q] at e; exact .inr ⟨q, e⟩
  have sub : ∀ b, Wr env (fun y => if y = x then a else ad y) (setS σ x (.own xs)) b → Wr env ad σ b ∨ b = a := fun b h => by
    rcases h with h | h | ⟨y, ys, e, q⟩
    · exact .inl (.inl h)
    · exact .inl (.inr (.inl h))
    · rcases ow y ys e with ⟨e1, _⟩ | ⟨e1, e2⟩
      · right; rw [q]; exact if_pos e1
      · left; have q : b = (if y = x then a else ad y) := q; rw [if_neg e1] at q; exact .inr (.inr ⟨y, ys, e2, q⟩)
  have subX : ∀ b, XX (fun b => X₀ b ∧ b ≠ a) env (fun y => if y = x then a else ad y) (setS σ x (.own xs)) b → XX X₀ env ad σ b := fun b h => by
    rcases h with h | h
    · exact .inl h.1
    · rcases sub b h with h | h
      · exact .inr h
      · exact .inl (h ▸ ha)
  have hpX : XX X₀ env ad σ p := .inr (Wr.fixed hp)
  have t : ∀ b o, ¬ XX X₀ env ad σ b → s.heap.get? b = some o → ¬ XX (fun b => X₀ b ∧ b ≠ a) env (fun y => if y = x then a else ad y) (setS σ x (.own xs)) b ∧ s'.heap.get? b = some o := fun b o xb e => ⟨fun q => xb (subX b q), c.at (fun q => xb (q ▸ hpX)) e⟩
  have g' : ∀ b vs k, s.heap.get? b = some (listOf vs k) → s'.heap.get? b = some (listOf vs k) := fun b vs k e => c.at (fun q => nl vs k (q ▸ e)) e
  refine ⟨p, m', hp, nl, c, {
    R := { R' with
      pres := fun b xb => by
        by_cases q : b = p
        · subst q
          rcases hp with hp | ⟨h1, h2⟩
          · subst hp; (refine e3_2 ?_ R'.ns; intro o es ep e _); exact ⟨o, e⟩
          · (refine e2_2 ?_ (R'.cellAt x b h1 h2); intro u o e _); exact ⟨o, e⟩
        · (refine e1_1 ?_ (I.R.pres b (subX b xb)); intro o e); exact ⟨o, c.at q e⟩
      vals := fun y d e => by
        by_cases q : y = x
        · rw [setS_at q] at e; cases e
        · rw [setS_off q] at e
          (refine e1_2 ?_ (I.R.vals y d e); intro u cu ru)
          exact ⟨u, co y u q cu, ru.to t⟩
      owns := fun y ys e => by
        rcases ow y ys e with ⟨e1, e2⟩ | ⟨e1, e2⟩
        · subst e1; subst e2
          exact ⟨a, vs, n, cx, g' _ _ _ g, r.to t⟩
        · (refine e2_2 ?_ (I.list e2); intro vs' n' g2 r2)
          exact ⟨ad y, vs', n', co y _ e1 (I.cur y ys e2), g' _ _ _ g2, r2.to t⟩ }
    cur := fun y ys e => by
      rcases ow y ys e with ⟨e1, _⟩ | ⟨e1, e2⟩
      · subst e1; show CurM env s'.heap m' y (.ref (if y = y then a else ad y)); rw [if_pos rfl]; exact cx
      · show CurM env s'.heap m' y (.ref (if y = x then a else ad y)); rw [if_neg e1]; exact co y _ e1 (I.cur y ys e2)
    inj := fun y z ys zs e1 e2 q => by
      have q : (if y = x then a else ad y) = (if z = x then a else ad z) := q
      rcases ow y ys e1 with ⟨a1, _⟩ | ⟨a1, b1⟩ <;> rcases ow z zs e2 with ⟨a2, _⟩ | ⟨a2, b2⟩
      · rw [a1, a2]
      · rw [if_pos a1, if_neg a2] at q
        exact absurd (.inr (.inr ⟨z, zs, b2, q⟩)) hnW
      · rw [if_neg a1, if_pos a2] at q
        exact absurd (.inr (.inr ⟨y, ys, b1, q.symm⟩)) hnW
      · rw [if_neg a1, if_neg a2] at q
        exact I.inj y z ys zs b1 b2 q
    ap := I.ap
    dis := fun b h q => by
      rcases sub b q with q | q
      · exact I.dis b h.1 q
      · exact h.2 q
    bn := fun b q => by
      rcases sub b q with q | q
      · exact I.bn b q
      · rw [q]; exact hb }, sub⟩

/-- values laid for names: shared ones, and lists of their own at as -/
inductive SlA (X : Addr → Prop) (h : Heap) : List Value → List Slot → List Addr → Prop
  | nil : SlA X h [] [] []
  | val {v : Value} {d : PyData} {vs : List Value} {ss : List Slot} {as : List Addr} : Rp X h v d → SlA X h vs ss as → SlA X h (v :: vs) (.val d :: ss) as
  | own {a : Addr} {ws : List Value} {n : Nat} {xs : List PyData} {vs : List Value} {ss : List Slot} {as : List Addr} : X a → h.get? a = some (listOf ws.toArray n) → RpA X h ws xs → a ∉ as → SlA X h vs ss as → SlA X h (.ref a :: vs) (.own xs :: ss) (a :: as)
theorem SlA.to {X X' : Addr → Prop} {h h' : Heap} (k : ∀ a o, ¬ X a → h.get? a = some o → ¬ X' a ∧ h'.get? a = some o) (l : ∀ a vs n, X a → h.get? a = some (listOf vs n) → X' a ∧ h'.get? a = some (listOf vs n)) {vs : List Value} {ss : List Slot} {as : List Addr} (q : SlA X h vs ss as) : SlA X' h' vs ss as := by
  induction q with
  | nil => exact .nil
  | val r _ ih => exact .val (r.to k) ih
  | own xa g r hn _ ih => exact .own (l _ _ _ xa g).1 (l _ _ _ xa g).2 (r.to k) hn ih
theorem SlA.length {X : Addr → Prop} {h : Heap} {vs : List Value} {ss : List Slot} {as : List Addr} (q : SlA X h vs ss as) : vs.length = ss.length := by
  induction q with
  | nil => rfl
  | val _ _ ih => exact congrArg Nat.succ ih
  | own _ _ _ _ _ ih => exact congrArg Nat.succ ih
theorem SlA.ofVals {X : Addr → Prop} {h : Heap} : ∀ {ds : List PyData} {vs : List Value}, RpA X h vs ds → SlA X h vs (ds.map .val) [] := by
  intro ds
  induction ds with
  | nil => intro vs; apply nil_v; exact .nil
  | cons d ds ih => intro vs; apply cons_v; intro v vs r q; exact .val r (ih q)
theorem SlA.mem {X : Addr → Prop} {h : Heap} {vs : List Value} {ss : List Slot} {as : List Addr} (q : SlA X h vs ss as) : ∀ a ∈ as, X a := by
  induction q with
  | nil => exact fun _ h => nomatch h
  | val _ _ ih => exact ih
  | own xa _ _ _ _ ih => exact fun a h => (List.mem_cons.mp h).elim (fun e => e ▸ xa) (ih a)

theorem s_storeAll (put : Str × Pos → Value → Sem Unit) (hput : ∀ x v (s : Shared) (Q : Unit → Shared → Prop), wpAny (model prog w) A (storeName env x.1 v) Q NoE s → wpAny (model prog w) A (put x v) Q NoE s) :
    ∀ (xs : List (Str × Pos)) (vs : List Value) (ss : List Slot) (as : List Addr) (X₀ : Addr → Prop) (ad : Str → Addr) (σ : Sto) (s : Shared) (m : Str → Option Value), SI base X₀ env ad σ s m → xs.length = ss.length → (∀ x ∈ xs, nmOk env.scope.names x.1 = true) →
      (∀ a ∈ as, X₀ a ∧ base.get? a = none) → SlA (XX X₀ env ad σ) s.heap vs ss as →
      wpAny (model prog w) A (assignInOrder (xs.map put) vs) (fun _ s' => Ch (fun b => b = env.locals ∨ ∃ x, env.kindOf x = some .cell ∧ env.cells.lookup x = some b) s s' ∧ ∃ ad' m', SI base (fun b => X₀ b ∧ b ∉ as) env ad' (setAllS σ (xs.map (·.1)) ss) s' m' ∧
        ∀ b, Wr env ad' (setAllS σ (xs.map (·.1)) ss) b → Wr env ad σ b ∨ b ∈ as) NoE s := by
  intro xs
  induction xs with
  | nil =>
    intro vs ss as X₀ ad σ s m I hl hn hb q
    have : as = [] ∧ ss = [] := by
      cases ss with
      | nil => cases q; exact ⟨rfl, rfl⟩
      | cons _ _ => simp at hl
    (refine e0_2 ?_ this; clear this; intro zz1 zz2; subst zz1; subst zz2)
    refine wpAny_pure ⟨Ch.refl _ _, ad, m, ?_, fun b h => .inl h⟩
    have e : (fun b => X₀ b ∧ b ∉ ([] : List Addr)) = X₀ := by funext b; simp
    rw [e]; exact I
  | cons x xs ih =>
    intro vs₀ ss₀ as X₀ ad σ s m I hl hn hb q₀
    cases q₀ with
    | nil => simp at hl
    | val r q =>
      rename_i v d vs ss
      show wpAny (model prog w) A (do holding vs (put x v); assignInOrder (xs.map put) vs) _ NoE s
      refine wpAny_bind (wpAny_holding (hput x v s _ (wpAny_mono (s_storeV I (hn x (by simp)) r) (fun _ s₁ y => ?_) fun _ _ x => x)))
      (refine e2_5 ?_ y; clear y; intro p m₁ hp nl c I₁ sub)
      have hpX : XX X₀ env ad σ p := .inr (Wr.fixed hp)
      have subX : ∀ b, XX X₀ env ad (setS σ x.1 (.val d)) b → XX X₀ env ad σ b := fun b h => h.imp id (sub b)
      have q₁ : SlA (XX X₀ env ad σ) s₁.heap vs ss as := q.to (fun b o xb e => ⟨xb, c.at (fun q => xb (q ▸ hpX)) e⟩) fun b ws k xb e => ⟨xb, c.at (fun q => nl ws k (q ▸ e)) e⟩
      have q₂ : SlA (XX X₀ env ad (setS σ x.1 (.val d))) s₁.heap vs ss as := by
        have aux : ∀ {vs : List Value} {ss : List Slot} {as' : List Addr}, (∀ a ∈ as', X₀ a) → SlA (XX X₀ env ad σ) s₁.heap vs ss as' → SlA (XX X₀ env ad (setS σ x.1 (.val d))) s₁.heap vs ss as' := by
          intro vs ss as' hm q
          induction q with
          | nil => exact .nil
          | val r q ih => exact .val (r.to fun b o xb e => ⟨fun q => xb (subX b q), e⟩) (ih hm)
          | own xa g r hnn q ih => exact .own (.inl (hm _ (by simp))) g (r.to fun b o xb e => ⟨fun q => xb (subX b q), e⟩) hnn (ih fun a h => hm a (by simp [h]))
        exact aux (fun a h => (hb a h).1) q₁
      refine wpAny_mono (ih vs ss as X₀ ad _ s₁ m₁ I₁ (by simpa using hl) (fun y hy => hn y (by simp [hy])) hb q₂) (fun _ s₂ z => ?_) fun _ _ x => x
      (refine e0_2 ?_ z; clear z; intro c₂ zz1; refine e2_2 ?_ zz1; clear zz1; intro ad' m' I₂ sub₂)
      refine ⟨c.tr c₂ fun b o nb e => ⟨fun q => nb (hp.elim (fun h => .inl (q.trans h)) fun h => .inr ⟨x.1, h.1, q ▸ h.2⟩), nb⟩, ad', m', I₂, fun b h => (sub₂ b h).imp (sub b) id⟩
    | own xa g r hnn q =>
      rename_i a ws k ys vs ss as
      show wpAny (model prog w) A (do holding vs (put x (.ref a)); assignInOrder (xs.map put) vs) _ NoE s
      (refine e0_2 ?_ (hb a (by simp)); intro hXa hba)
      refine wpAny_bind (wpAny_holding (hput x _ s _ (wpAny_mono (s_storeO I (hn x (by simp)) hXa hba g r) (fun _ s₁ y => ?_) fun _ _ x => x)))
      (refine e2_5 ?_ y; clear y; intro p m₁ hp nl c I₁ sub)
      have hpX : XX X₀ env ad σ p := .inr (Wr.fixed hp)
      have subX : ∀ b, XX (fun b => X₀ b ∧ b ≠ a) env (fun y => if y = x.1 then a else ad y) (setS σ x.1 (.own ys)) b → XX X₀ env ad σ b := fun b h => by
        rcases h with h | h
        · exact .inl h.1
        · rcases sub b h with h | h
          · exact .inr h
          · exact .inl (h ▸ hXa)
      have q₂ : SlA (XX (fun b => X₀ b ∧ b ≠ a) env (fun y => if y = x.1 then a else ad y) (setS σ x.1 (.own ys))) s₁.heap vs ss as := by
        have aux : ∀ {vs : List Value} {ss : List Slot} {as' : List Addr}, (∀ b ∈ as', X₀ b ∧ b ≠ a) → SlA (XX X₀ env ad σ) s.heap vs ss as' → SlA (XX (fun b => X₀ b ∧ b ≠ a) env (fun y => if y = x.1 then a else ad y) (setS σ x.1 (.own ys))) s₁.heap vs ss as' := by
          intro vs ss as' hm q
          induction q with
          | nil => exact .nil
          | val r q ih => exact .val (r.to fun b o xb e => ⟨fun q => xb (subX b q), c.at (fun q => xb (q ▸ hpX)) e⟩) (ih hm)
          | own xa g r hnn q ih => exact .own (.inl (hm _ (by simp))) (c.at (fun q => nl _ _ (q ▸ g)) g) (r.to fun b o xb e => ⟨fun q => xb (subX b q), c.at (fun q => xb (q ▸ hpX)) e⟩) hnn (ih fun a h => hm a (by simp [h]))
        exact aux (fun b h => ⟨(hb b (by simp [h])).1, fun q => hnn (q ▸ h)⟩) q
      refine wpAny_mono (ih vs ss as _ _ _ s₁ m₁ I₁ (by simpa using hl) (fun y hy => hn y (by simp [hy])) (fun b h => ⟨⟨(hb b (by simp [h])).1, fun q => hnn (q ▸ h)⟩, (hb b (by simp [h])).2⟩) q₂) (fun _ s₂ z => ?_) fun _ _ x => x
      (refine e0_2 ?_ z; clear z; intro c₂ zz1; refine e2_2 ?_ zz1; clear zz1; intro ad' m' I₂ sub₂)
      refine ⟨c.tr c₂ fun b o nb e => ⟨fun q => nb (hp.elim (fun h => .inl (q.trans h)) fun h => .inr ⟨x.1, h.1, q ▸ h.2⟩), nb⟩, ad', m', ?_, fun b h => ?_⟩
      · have e : (fun b => X₀ b ∧ b ∉ a :: as) = (fun b => (X₀ b ∧ b ≠ a) ∧ b ∉ as) := by funext b; simp [and_assoc]
        rw [e]; exact I₂
      · rcases sub₂ b h with h | h
        · rcases sub b h with h | h
          · exact .inl h
          · exact .inr (by simp [h])
        · exact .inr (by simp [h])
end
end Mine
end
noncomputable section
open PySem PySem.W PyProof.Rows PySem.Calls PySem.Spec
set_option Elab.async false
namespace Mine

section
variable {prog : Program} {w : World} {A : Around} {X X₀ : Addr → Prop} {base : Heap} {mg mb : Str → Option Value} {env : Env} {σ : Sto} {s s' : Shared} {m : Str → Option Value} {ad : Str → Addr} {O : Orc} {n : Nat}

theorem SI.narrow {X₁ : Addr → Prop} (I : SI base X₀ env ad σ s m) (k : ∀ a, X₁ a → X₀ a) : SI base X₁ env ad σ s m where
  R := I.R.narrow fun a h => h.imp (k a) id
  cur := I.cur
  inj := I.inj
  ap := I.ap
  dis := fun a h => I.dis a (k a h)
  bn := I.bn
theorem SI.wr_pres (I : SI base X₀ env ad σ s m) {a : Addr} (h : Wr env ad σ a) : ∃ o, s.heap.get? a = some o := I.R.pres a (.inr h)
theorem SI.wide {wr : List Addr} (I : SI base X₀ env ad σ s m) (k : Keeps s s') (hw : ∀ b ∈ wr, s.heap.get? b = none ∧ ∃ o, s'.heap.get? b = some o) : SI base (fun a => X₀ a ∨ a ∈ wr) env ad σ s' m where
  R := (I.R.wide k hw).narrow fun a h => by
    rcases h with (h | h) | h
    · exact .inl (.inl h)
    · exact .inr h
    · exact .inl (.inr h)
  cur := fun x xs e => (I.cur x xs e).up (kle k)
  inj := I.inj
  ap := I.ap
  dis := fun a h q => h.elim (fun h => I.dis a h q) fun h => by
    (refine e1_1 ?_ (I.wr_pres q); intro o e)
    rw [(hw a h).1] at e; cases e
  bn := I.bn
theorem SI.up (I : SI base X₀ env ad σ s m) (k : Keeps s s') : SI base X₀ env ad σ s' m := (I.wide (wr := []) k (by simp)).narrow fun a h => .inl h

/-- v is a list made since s -/
noncomputable def FrR (X : Addr → Prop) (s : Shared) (xs : List PyData) (v : Value) (s' : Shared) : Prop := Keeps s s' ∧ ∃ a vs n, v = .ref a ∧ s.heap.get? a = none ∧ s'.heap.get? a = some (listOf vs.toArray n) ∧ RpA (fun b => X b ∨ b = a) s'.heap vs xs

theorem fr_push {s₁ : Shared} {vs : List Value} {xs : List PyData} {t : Nat} (k : Keeps s s₁) (r : RpA X s₁.heap vs xs) : FrR X s xs (.ref s₁.heap.objs.size) { s₁ with heap := s₁.heap.push (listOf vs.toArray 0), toks := t } :=
  ⟨ktr k (keeps_push _ _ _), s₁.heap.objs.size, vs, 0, rfl, none_old (kle k) (none_size _ (Nat.le_refl _)), Heap.get?_push_size _ rfl, r.to fun a o xa e => ⟨fun q => q.elim xa fun q => (by rw [q, none_size _ (Nat.le_refl _)] at e; cases e), Heap.get?_push_of_some _ e⟩⟩

theorem s_fresh (B : Bg base mg mb) (HO : OSound prog w base mg mb n O) {e : Expr} {xs : List PyData} (ok : okE e env.scope.names = true) (he : freshV O e σ = some xs) (R : RdM base env X σ s.heap m) (rm : Room A n) :
    wpAny (model prog w) A (eval e env) (fun v s' => FrR X s xs v s') NoE s := by
  have HP := main B HO
  cases e with
  | List es p =>
    (refine e0_2 ?_ (Bool.and_eq_true_iff.mp ok); intro ok hlen)
    refine wpAny_mono (s_listNew (p := p) (fun e _ => (HP e).v) ok (of_decide_eq_true hlen) he R rm) (fun v s' x => ?_) fun _ _ x => x
    (refine e2_4 ?_ x; clear x; intro s₁ vs k zz1 zz2 r; subst zz1; subst zz2)
    exact fr_push k r
  | BinOp l op k pos =>
    cases op with
    | Mult =>
      (refine e0_2 ?_ (Bool.and_eq_true_iff.mp ok); intro ok ok2)
      revert he
      refine bind_r fun es hl => bind2_r fun ys d h1 h2 => bind_r fun ki hk => ?_
      apply ifs_r; intro hc
      obtain rfl := intOf_some hk
      (refine e1_1 ?_ (listsOf_some hl); intro lp zz1; subst zz1)
      clear hl hk
      (refine e0_2 ?_ (Bool.and_eq_true_iff.mp ok); intro ok hlen)
      refine wpAny_BinOp (wpAny_mono (s_listNew (p := lp) (fun e _ => (HP e).v) ok (of_decide_eq_true hlen) h1 R rm) (fun v s' x => ?_) fun _ _ x => x)
      (refine e2_4 ?_ x; clear x; intro s₁ vs k₁ zz1 zz2 r; subst zz1; subst zz2)
      have k₂ := ktr k₁ (keeps_push' s₁ (listOf vs.toArray 0))
      have r₂ : RpA X (s₁.heap.push (listOf vs.toArray 0)) vs ys := r.up fun b o e => Heap.get?_push_of_some _ e
      refine wpAny_mono ((HP k).v env X σ A _ m _ ok2 h2 (R.up (kle k₂)) rm) (fun v s₃ y => ?_) fun _ _ x => x
      (refine e0_2 ?_ y; clear y; intro k₃ rv)
      revert rv; apply int_v; intro t
      have g : s₃.heap.get? s₁.heap.objs.size = some (listOf vs.toArray 0) := kle k₃ _ _ (Heap.get?_push_size _ rfl)
      refine wpAny_mono (s_mulList g (r₂.up (kle k₃)) hc.1 hc.2) (fun v s₄ z => ?_) fun _ _ x => x
      rw [z.1, z.2]
      exact fr_push (ktr k₂ k₃) ((r₂.up (kle k₃)).rep _)
    | _ => exact none_e he
  | Call f as kws p =>
    (refine e2_5 ?_ (call_parts ok); intro x fp zz1 hk hdb ok2 hne; subst zz1)
    clear ok
    cases kws with
    | cons _ _ => exact none_e he
    | nil =>
      have he : copyV x ((evL O as σ).bind oneOf) = some xs := he
      revert he
      refine if_r fun hx => bind_r fun ys h3 => ?_
      apply ifs_r; intro hlen
      revert h3
      refine bind_r fun d h1 h2 => ?_
      obtain rfl := listOf_some h2
      (refine e1_2 ?_ (rs_one h1); intro a zz1 h4; subst zz1)
      subst hx
      clear h1 h2
      refine s_callE B R hk hdb (.inr B.list) keep_type hne (fun e _ => (HP e).v) ok2 (ds := [.list ys]) (by show bind2 consO (evE O a false σ) (some []) = _; rw [h4]; rfl) rm fun s₁ vals k r => ?_
      revert r; apply cons_v; intro v vs r1; apply nil_v
      revert r1; apply lst_v; intro l vs nn hX g q
      refine call_list_seq l (.inl rfl) g rfl rfl (fun h' c' hk' hg => ?_) (by rw [List.size_toArray, q.length]; exact lenOk_line hlen)
      refine ⟨ktr k (keeps_heap s₁ h' s₁.toks hk'), s₁.heap.objs.size, vs, c', rfl, none_old (kle k) (none_size _ (Nat.le_refl _)), hg, q.to fun a o xa e => ⟨fun q => q.elim xa fun q => (by rw [q, none_size _ (Nat.le_refl _)] at e; cases e), hk' a o e⟩⟩
  | _ => exact none_e he

/-- the values of a tuple that is laid for names -/
theorem s_slots (B : Bg base mg mb) (HO : OSound prog w base mg mb n O) (M : List Str) (pos : Pos) (rm : Room A n) : ∀ (xs : List Str) (es : List Expr) (ss : List Slot) (X : Addr → Prop) (s : Shared) (m : Str → Option Value),
    okL es env.scope.names = true → slotsV O M xs es σ = some ss → RdM base env X σ s.heap m →
    wpAny (model prog w) A (spliced (backTo pos (starEach es env))) (fun vs s' => Keeps s s' ∧ ∃ as, (M = [] → as = []) ∧ (∀ b ∈ as, s.heap.get? b = none ∧ ∃ o, s'.heap.get? b = some o) ∧ SlA (fun b => X b ∨ b ∈ as) s'.heap vs ss as) NoE s
  | [], [], ss, X, s, m, ok, h, R => by
    revert h; apply sm_r
    exact spliced_nil ⟨keeps_refl _, [], fun _ => rfl, by simp, .nil⟩
  | x :: xs, e :: es, ss, X, s, m, ok, h, R => by
    (refine e0_2 ?_ (Bool.and_eq_true_iff.mp ok); intro ok1 ok2)
    clear ok
    revert h
    refine bind2_r fun sl ss' h1 h2 => ?_
    apply sm_r
    have hstar : ∀ v p, e ≠ .Starred v p := by
      intro v p q; subst q
      cases h : M.contains x <;> rw [h] at h1 <;> exact none_e h1
    rw [starEach_cons hstar]
    show wpAny (model prog w) A (spliced ((false, eval e env) :: backTo pos (starEach es env))) _ NoE s
    cases hM : M.contains x with
    | true =>
      rw [hM] at h1
      revert h1; apply map_r; intro ys h4
      refine spliced_cons (wpAny_mono (s_fresh B HO ok1 h4 R rm) (fun v s₁ x => ?_) fun _ _ x => x)
      (refine e0_2 ?_ x; clear x; intro k zz1; refine e3_4 ?_ zz1; clear zz1; intro a vs nn zz2 hn g r; subst zz2)
      have R₁ := R.wide (wr := [a]) k fun b hb => by rw [List.mem_singleton.mp hb]; exact ⟨hn, _, g⟩
      refine wpAny_mono (s_slots B HO M pos rm xs es ss' _ s₁ m ok2 h2 R₁) (fun vs' s₂ y => ?_) fun _ _ x => x
      (refine e0_2 ?_ y; clear y; intro k₂ zz1; refine e1_3 ?_ zz1; clear zz1; intro as hne has q)
      have ha : a ∉ as := fun q => by rw [(has a q).1] at g; cases g
      have eX : (fun b => (X b ∨ b ∈ [a]) ∨ b ∈ as) = fun b => X b ∨ b ∈ a :: as := by funext b; simp [or_assoc]
      rw [eX] at q
      refine ⟨ktr k k₂, a :: as, fun e => (by rw [e] at hM; cases hM), fun b hb => ?_, .own (.inr (by simp)) (kle k₂ _ _ g) (r.to fun b o xb e => ⟨fun q => ?_, kle k₂ b o e⟩) ha q⟩
      · rcases List.mem_cons.mp hb with rfl | hb
        · exact ⟨hn, _, kle k₂ _ _ g⟩
        · exact ⟨none_old (kle k) (has b hb).1, (has b hb).2⟩
      · rcases q with q | q
        · exact xb (.inl q)
        · rcases List.mem_cons.mp q with q | q
          · exact xb (.inr q)
          · rw [(has b q).1] at e; cases e
    | false =>
      rw [hM] at h1
      revert h1; apply map_r; intro d h4
      refine spliced_cons (wpAny_mono ((main B HO e).v env X σ A s m d ok1 h4 R rm) (fun v s₁ x => ?_) fun _ _ x => x)
      refine wpAny_mono (s_slots B HO M pos rm xs es ss' X s₁ m ok2 h2 (R.up (kle x.1))) (fun vs' s₂ y => ?_) fun _ _ x => x
      (refine e0_2 ?_ y; clear y; intro k₂ zz1; refine e1_3 ?_ zz1; clear zz1; intro as hne has q)
      refine ⟨ktr x.1 k₂, as, hne, fun b hb => ⟨none_old (kle x.1) (has b hb).1, (has b hb).2⟩, .val (x.2.to fun b o xb e => ⟨fun q => q.elim xb fun q => (by rw [(has b q).1] at e; cases e), kle k₂ b o e⟩) q⟩
  | [], _ :: _, ss, X, s, m, ok, h, R => none_e h
  | _ :: _, [], ss, X, s, m, ok, h, R => none_e h

/-- what stands when a statement has ended -/
noncomputable def PO (mk : Bool) (base : Heap) (X₀ : Addr → Prop) (env : Env) (ad : Str → Addr) (σ : Sto) (s : Shared) (fl : Fl) (σ' : Sto) (f : Flow) (s' : Shared) : Prop := Ch (Wr env ad σ) s s' ∧ match fl with
  | .next => f = .next ∧ ∃ ad' m', SI base X₀ env ad' σ' s' m' ∧ ∀ a, Wr env ad' σ' a → Wr env ad σ a ∨ (mk = true ∧ s.heap.get? a = none)
  | .ret d => ∃ v, f = .ret v ∧ Rp X₀ s'.heap v d
theorem PO.tr {mk : Bool} {σ₁ σ' : Sto} {ad₁ : Str → Addr} {s₁ s₂ : Shared} {fl : Fl} {f : Flow} (c : Ch (Wr env ad σ) s s₁) (h : ∀ a, Wr env ad₁ σ₁ a → Wr env ad σ a ∨ (mk = true ∧ s.heap.get? a = none)) (p : PO mk base X₀ env ad₁ σ₁ s₁ fl σ' f s₂) : PO mk base X₀ env ad σ s fl σ' f s₂ := by
  (refine e0_2 ?_ p; clear p; intro c₂ p)
  refine ⟨c.tr c₂ fun d o nd e => ⟨nd, fun q => (h d q).elim nd fun q => by rw [q.2] at e; cases e⟩, ?_⟩
  cases fl with
  | ret d => exact p
  | next =>
    (refine e0_2 ?_ p; clear p; intro hf zz1; refine e2_2 ?_ zz1; clear zz1; intro ad' m' I hw)
    refine ⟨hf, ad', m', I, fun a q => (hw a q).elim (h a) fun q => ?_⟩
    by_cases hA : Wr env ad σ a
    · exact .inl hA
    · right
      refine ⟨q.1, ?_⟩
      cases e : s.heap.get? a with
      | none => rfl
      | some o => rw [c.at hA e] at q; cases q.2
end
end Mine
end
noncomputable section
open PySem PySem.W PyProof.Rows PySem.Calls PySem.Spec
set_option Elab.async false
namespace Mine

theorem setAllS_append : ∀ (xs : List Str) (ss : List Slot) (σ : Sto) (ys : List Str) (ts : List Slot), xs.length = ss.length → setAllS σ (xs ++ ys) (ss ++ ts) = setAllS (setAllS σ xs ss) ys ts
  | [], [], _, _, _, _ => rfl
  | x :: xs, s :: ss, σ, ys, ts, h => setAllS_append xs ss _ ys ts (by simpa using h)
  | [], _ :: _, _, _, _, h => by simp at h
  | _ :: _, [], _, _, _, h => by simp at h
theorem setS_comm {σ : Sto} {x y : Str} {s t : Slot} (h : x ≠ y) : setS (setS σ x s) y t = setS (setS σ y t) x s := by
  funext z
  simp only [setS]
  by_cases h1 : z = y <;> by_cases h2 : z = x <;> simp_all
theorem setAllS_comm : ∀ (xs : List Str) (ss : List Slot) (σ : Sto) (x : Str) (s : Slot), x ∉ xs → setAllS (setS σ x s) xs ss = setS (setAllS σ xs ss) x s
  | [], _, _, _, _, _ => by simp [setAllS]
  | _ :: _, [], _, _, _, _ => by simp [setAllS]
  | y :: xs, t :: ss, σ, x, s, h => by
    simp only [List.mem_cons, not_or] at h
    show setAllS (setS (setS σ x s) y t) xs ss = _
    rw [setS_comm h.1, setAllS_comm xs ss _ x s h.2]; rfl
theorem setAllS_reverse : ∀ (xs : List Str) (ss : List Slot) (σ : Sto), xs.Nodup → xs.length = ss.length → setAllS σ xs.reverse ss.reverse = setAllS σ xs ss
  | [], [], _, _, _ => rfl
  | x :: xs, s :: ss, σ, hn, h => by
    have hn' := List.nodup_cons.mp hn
    have h' : xs.length = ss.length := by simpa using h
    rw [List.reverse_cons, List.reverse_cons, setAllS_append _ _ _ _ _ (by simpa using h'), setAllS_reverse xs ss σ hn'.2 h']
    show setS (setAllS σ xs ss) x s = setAllS (setS σ x s) xs ss
    rw [setAllS_comm _ _ _ _ _ hn'.1]
  | [], _ :: _, _, _, h => by simp at h
  | _ :: _, [], _, _, h => by simp at h

theorem SlA.app {X : Addr → Prop} {h : Heap} {vs : List Value} {ss : List Slot} {as : List Addr} {vs' : List Value} {ss' : List Slot} {as' : List Addr} (p : SlA X h vs ss as) (q : SlA X h vs' ss' as') (hd : ∀ a ∈ as, a ∉ as') : SlA X h (vs ++ vs') (ss ++ ss') (as ++ as') := by
  induction p with
  | nil => exact q
  | val r _ ih => exact .val r (ih hd)
  | own xa g r hn _ ih => exact .own xa g r (fun q => (List.mem_append.mp q).elim hn (hd _ (.head _))) (ih fun a ha => hd a (.tail _ ha))
theorem SlA.rev {X : Addr → Prop} {h : Heap} {vs : List Value} {ss : List Slot} {as : List Addr} (p : SlA X h vs ss as) : SlA X h vs.reverse ss.reverse as.reverse := by
  induction p with
  | nil => exact .nil
  | val r p ih =>
    rw [List.reverse_cons, List.reverse_cons]
    have := SlA.app ih (SlA.val r .nil) fun _ _ h => nomatch h
    rwa [List.append_nil] at this
  | own xa g r hn p ih =>
    rw [List.reverse_cons, List.reverse_cons, List.reverse_cons]
    exact SlA.app ih (SlA.own xa g r (fun h => nomatch h) .nil) fun a ha q => by
      rw [List.mem_singleton] at q; subst q; exact hn (List.mem_reverse.mp ha)

theorem names_filter (f : Expr → Option Str) (hf : ∀ x p y, f (.Name x p) = some y → y = x) : ∀ {ts : List Expr} {xs : List Str}, namesOf ts = some xs → (ts.filterMap f).Sublist xs
  | [], xs, h => by revert h; apply sm_r; exact .slnil
  | t :: r, xs, h => by
    revert h
    refine bind_r fun id hn => ?_
    apply map_r; intro ys h1
    (refine e1_1 ?_ (nameOf_some hn); intro pos zz1; subst zz1)
    have ih := names_filter f hf h1
    cases hy : f (.Name id pos) with
    | none => rw [List.filterMap_cons_none hy]; exact ih.cons _
    | some y =>
      rw [List.filterMap_cons_some hy, hf _ _ _ hy]
      exact ih.cons_cons _
theorem namesOf_length : ∀ {ts : List Expr} {xs : List Str}, namesOf ts = some xs → ts.length = xs.length := fun h => by
  (refine e1_2 ?_ (namesOf_form h); intro ps h1 zz1; subst zz1)
  simp [h1]

theorem ite_ex {α : Type} {c : Prop} {inst : Decidable c} {a b : Sem α} {P : α → Prop} (h1 : c → ∃ r, a = pure r ∧ P r) (h2 : ¬ c → ∃ r, b = pure r ∧ P r) : ∃ r, (if c then a else b) = pure r ∧ P r := by
  by_cases h : c
  · rw [if_pos h]; exact h1 h
  · rw [if_neg h]; exact h2 h
theorem swapped_or {ts vs : List Expr} {xs : List Str} {k k2 : Nat} {p p2 : Pos} {env : Env} (hn : namesOf ts = some xs) (hc : vs.all (constantsAlone 8) = false) :
    ∃ r, swappedStores [.Tuple ts k p] (.Tuple vs k2 p2) env = pure r ∧ (r = none ∨ r = some xs) := by
  refine ite_ex (fun _ => ⟨_, rfl, .inl rfl⟩) fun _ => ite_ex (fun _ => ⟨_, rfl, .inl rfl⟩) fun _ => ite_ex (fun _ => ⟨_, rfl, .inl rfl⟩) fun h2 => ite_ex (fun _ => ⟨_, rfl, .inl rfl⟩) fun _ => ?_
  refine ite_ex (fun h => absurd (hc.symm.trans h) Bool.false_ne_true) fun _ => ⟨_, rfl, .inr ?_⟩
  have h2 := (Bool.or_eq_false_iff.mp (Bool.eq_false_iff.mpr h2)).1
  refine congrArg some ((names_filter _ ?_ hn).eq_of_length ?_)
  · intro x p y h
    revert h
    exact if_r fun _ h => (Option.some.inj h).symm
  · rw [← namesOf_length hn]; simpa using h2
theorem sole_false {v : Expr} {l : Nat} {env : Env} {t : Expr} (h : isCompE v = false) : swapsWithSole [t] v l env = pure false := by
  show swapsWith v (some t) l env = pure false
  cases v <;> first | rfl | exact Bool.noConfusion (show true = false from h)
end Mine
end
noncomputable section
open PySem PySem.W PyProof.Rows PySem.Calls PySem.Spec
set_option Elab.async false
namespace Mine

section
variable {prog : Program} {w : World} {A : Around} {X X₀ : Addr → Prop} {base : Heap} {mg mb : Str → Option Value} {env : Env} {σ : Sto} {s s' : Shared} {m : Str → Option Value} {ad : Str → Addr} {O : Orc} {n : Nat}

theorem CurM.ch {h h' : Heap} {x : Str} {v : Value} (c : CurM env h m x v) (k : ∀ c o, env.kindOf x = some .cell → env.cells.lookup x = some c → h.get? c = some o → h'.get? c = some o) : CurM env h' m x v :=
  ⟨c.1, c.2.imp id fun ⟨a, c', e1, e2⟩ => ⟨a, c', e1, cell_congr e2 fun o e => k c' o a e1 e⟩⟩

theorem SI.ch {X₁ X₂ : Addr → Prop} {wr : Addr → Prop} (I : SI base X₁ env ad σ s m) (h12 : ∀ a, X₂ a → X₁ a) (hw : ∀ a, wr a → X₁ a) (c : Ch wr s s') (hp : ∀ a, X₂ a → wr a → ∃ o, s'.heap.get? a = some o) (hb : ∀ a, wr a → base.get? a = none) : SI base X₂ env ad σ s' m := by
  have off : ∀ a, Wr env ad σ a → ¬ wr a := fun a h q => I.dis a (hw a q) h
  have t : ∀ a o, ¬ XX X₁ env ad σ a → s.heap.get? a = some o → ¬ XX X₂ env ad σ a ∧ s'.heap.get? a = some o := fun a o xa e => ⟨fun q => xa (q.imp (h12 a) id), c.at (fun q => xa (.inl (hw a q))) e⟩
  have cc : ∀ x v, CurM env s.heap m x v → CurM env s'.heap m x v := fun x v cu => cu.ch fun a o k e g => c.at (off a (.inr (.inl ⟨x, k, e⟩))) g
  exact {
    R := {
      fn := I.R.fn, gl := I.R.gl, bl := I.R.bl, ci := I.R.ci
      ba := fun b o e => c.at (fun q => by rw [hb b q] at e; cases e) (I.R.ba b o e)
      pres := fun a xa => by
        by_cases q : wr a
        · rcases xa with xa | xa
          · exact hp a xa q
          · exact absurd q (off a xa)
        · (refine e1_1 ?_ (I.R.pres a (xa.imp (h12 a) id)); intro o e); exact ⟨o, c.at q e⟩
      ns := by
        (refine e3_2 ?_ I.R.ns; intro o es ep h1 h2)
        exact ⟨o, es, ep, c.at (off _ (.inl rfl)) h1, h2⟩
      cellAt := fun x a k e => by
        (refine e1_1 ?_ (I.R.cellAt x a k e); intro u i)
        exact ⟨u, cell_congr i fun o g => c.at (off a (.inr (.inl ⟨x, k, e⟩))) g⟩
      vals := fun x d e => let ⟨v, cu, r⟩ := I.R.vals x d e; ⟨v, cc x v cu, r.to t⟩
      owns := fun x xs e => by
        (refine e2_2 ?_ (I.list e); intro vs nn g r)
        exact ⟨ad x, vs, nn, cc x _ (I.cur x xs e), c.at (off _ (.inr (.inr ⟨x, xs, e, rfl⟩))) g, r.to t⟩ }
    cur := fun x xs e => cc x _ (I.cur x xs e)
    inj := I.inj
    ap := I.ap
    dis := fun a h => I.dis a (h12 a h)
    bn := I.bn }

theorem s_tupFin {xs : List Str} {ss : List Slot} {as : List Addr} (put : Str × Pos → Value → Sem Unit) (h' : Heap) (xps : List (Str × Pos)) (vals' : List Value) (ss' : List Slot) (as' : List Addr) (hk : ∀ x ∈ xs, nmOk env.scope.names x = true)
    (I : SI base (fun b => X₀ b ∨ b ∈ as) env ad σ s m) (ha : ∀ b ∈ as, ¬ X₀ b ∧ base.get? b = none) (hput : ∀ x v (s : Shared) (Q : Unit → Shared → Prop), wpAny (model prog w) A (storeName env x.1 v) Q NoE s → wpAny (model prog w) A (put x v) Q NoE s)
    (k' : HLe s.heap h') (hx : ∀ x ∈ xps, x.1 ∈ xs) (hl : xps.length = ss'.length) (ha' : ∀ b, b ∈ as' ↔ b ∈ as) (hset : setAllS σ (xps.map (·.1)) ss' = setAllS σ xs ss) (q' : SlA (XX (fun b => X₀ b ∨ b ∈ as) env ad σ) s.heap vals' ss' as') :
    wpAny (model prog w) A (assignInOrder (xps.map put) vals') (fun _ s' => Ch (Wr env ad σ) s s' ∧ ∃ ad' m', SI base X₀ env ad' (setAllS σ xs ss) s' m' ∧ ∀ b, Wr env ad' (setAllS σ xs ss) b → Wr env ad σ b ∨ b ∈ as) NoE { s with heap := h' } := by
  have I' : SI base (fun b => X₀ b ∨ b ∈ as) env ad σ { s with heap := h' } m := I.up (keeps_heap s h' s.toks k')
  have q₂ : SlA (XX (fun b => X₀ b ∨ b ∈ as) env ad σ) h' vals' ss' as' := q'.to (fun b o xb e => ⟨xb, k' b o e⟩) fun b vs nn xb e => ⟨xb, k' b _ e⟩
  have st := s_storeAll (prog := prog) (w := w) (A := A) put hput xps vals' ss' as' (fun b => X₀ b ∨ b ∈ as) ad σ { s with heap := h' } m I' hl (fun x hm => hk _ (hx x hm)) (fun b hb => ⟨.inr ((ha' b).mp hb), (ha b ((ha' b).mp hb)).2⟩) q₂
  rw [hset] at st
  generalize hs : ({ s with heap := h' } : Shared) = s₁ at st ⊢
  refine wpAny_mono st (fun _ s₂ z => ?_) fun _ _ x => x
  subst hs
  (refine e0_2 ?_ z; clear z; intro c zz1; refine e2_2 ?_ zz1; clear zz1; intro ad' m' I' sub)
  refine ⟨(kch (keeps_heap s h' s.toks k') (fun _ => False)).tr c fun d o nd e => ⟨id, fun q => nd (q.imp id .inl)⟩, ad', m', I'.narrow fun b hb => ⟨.inl hb, fun q => (ha b ((ha' b).mp q)).1 hb⟩, fun b hb => (sub b hb).imp id (ha' b).mp⟩

theorem stores_none (ts : List Expr) (k : Nat) (p : Pos) (env : Env) (v : Value) : assignStores env v none ((assignEach [.Tuple ts k p] env).map (·.2)) = (do assign (.Tuple ts k p) env v; pure Flow.next) := rfl
theorem stores_some (st : List (Value → Sem Unit)) (xs : List Str) (env : Env) (v : Value) : assignStores env v (some xs) st = (do
      rule "assign.swapped-stores"
      let items ← unpackItems v xs.length none
      assignInOrder (xs.reverse.map fun n => bindName env n) items.reverse
      pure Flow.next) := rfl
/-- a tuple's values stored -/
theorem s_tupStore {ts : List Expr} {k : Nat} {p : Pos} {xs : List Str} {r : Option (List Str)} {t : Addr} {vals : List Value} {ss : List Slot} {as : List Addr} (hh : A.handled = none) (hn : namesOf ts = some xs) (hk : ∀ x ∈ xs, nmOk env.scope.names x = true) (hnd : xs.Nodup)
    (hlen : xs.length = ss.length) (hr : r = none ∨ r = some xs) (I : SI base (fun b => X₀ b ∨ b ∈ as) env ad σ s m) (ht : s.heap.IsTuple t vals.toArray) (ha : ∀ b ∈ as, ¬ X₀ b ∧ base.get? b = none) (q : SlA (XX (fun b => X₀ b ∨ b ∈ as) env ad σ) s.heap vals ss as) :
    wpAny (model prog w) A (assignStores env (.ref t) r ((assignEach [.Tuple ts k p] env).map (·.2))) (fun f s' => f = .next ∧ Ch (Wr env ad σ) s s' ∧ ∃ ad' m', SI base X₀ env ad' (setAllS σ xs ss) s' m' ∧ ∀ b, Wr env ad' (setAllS σ xs ss) b → Wr env ad σ b ∨ b ∈ as) NoE s := by
  (refine e1_2 ?_ (namesOf_form hn); intro ps hps zz1; subst zz1)
  have hvl := q.length
  have nx : (xs.zip ps).map (·.1) = xs := by rw [List.map_fst_zip]; lia
  have fin := fun (put : Str × Pos → Value → Sem Unit) h' xps vals' ss' as' => s_tupFin (A := A) (prog := prog) (w := w) (xs := xs) (ss := ss) (as := as) put h' xps vals' ss' as' hk I ha
  rcases hr with rfl | rfl
  · rw [stores_none]
    refine wpAny_bind (wpAny_assign_Tuple hh ht ?_ ?_ fun h' hk' => ?_)
    · rw [assignEach_names]; simp [hps] at hlen ⊢; lia
    · rw [assignEach_names, List.findIdx?_eq_none_iff]
      intro x hx
      (refine e1_2 ?_ (List.mem_map.mp hx); intro y _ zz1; subst zz1)
      rfl
    · have kk : HLe s.heap h' := fun b o e => hk' b o (Nat.ne_of_lt (Heap.lt_size e)) e
      rw [assignEach_names, List.map_map]
      refine wpAny_mono (fin (fun xp => assign (.Name xp.1 xp.2) env) h' (xs.zip ps) vals ss as (fun x v s Q h => wpAny_assign_Name h) kk (fun x hx => (List.of_mem_zip (a := x.1) (b := x.2) hx).1) (by rw [List.length_zip]; lia) (fun b => Iff.rfl) (by rw [nx]) q) (fun _ s₂ z => wpAny_pure ⟨rfl, z⟩) fun _ _ x => x
  · rw [stores_some]
    have e1 : xs.length = vals.toArray.size := by rw [List.size_toArray]; lia
    rw [e1]
    refine wpAny_bind (wpAny_rule (wpAny_bind (wpAny_unpackItems_tuple hh ht fun h' hk' => ?_)))
    have kk : HLe s.heap h' := fun b o e => hk' b o (Nat.ne_of_lt (Heap.lt_size e)) e
    have e2 : (xs.reverse.map fun n => bindName env n) = (xs.zip ps).reverse.map fun xp => bindName env xp.1 := by
      rw [List.map_reverse, List.map_reverse]; congr 1
      conv => lhs; rw [← nx]
      rw [List.map_map]; rfl
    rw [e2]
    refine wpAny_bind (wpAny_mono (fin (fun xp => bindName env xp.1) h' (xs.zip ps).reverse vals.reverse ss.reverse as.reverse (fun x v s Q h => wpAny_bindName h) kk (fun x hx => (List.of_mem_zip (a := x.1) (b := x.2) (List.mem_reverse.mp hx)).1) (by simp; lia) (fun b => List.mem_reverse) (by rw [List.map_reverse, nx, setAllS_reverse _ _ _ hnd hlen]) q.rev) (fun _ s₂ z => wpAny_pure ⟨rfl, z⟩) fun _ _ x => x)

noncomputable def SP (prog : Program) (w : World) (base : Heap) (n : Nat) (mk : Bool) (st : Stmt) (f : Sto → Option (Fl × Sto)) : Prop := ∀ (env : Env) (X₀ : Addr → Prop) (ad : Str → Addr) (σ : Sto) (A : Around) (s : Shared) (m : Str → Option Value) (fl : Fl) (σ' : Sto),
  okS st env.scope.names = true → f σ = some (fl, σ') → SI base X₀ env ad σ s m → Room A n → wpAny (model prog w) A (exec st env) (PO mk base X₀ env ad σ s fl σ') NoE s

theorem s_asN {mk : Bool} (B : Bg base mg mb) (HO : OSound prog w base mg mb n O) {x : Str} {px pos : Pos} {v : Expr} {own : Bool} {sl : Slot} (hm : own = true → mk = true) (ok : okE v env.scope.names = true) (hx : nmOk env.scope.names x = true) (hsw : (!isCompE v || swapOkE x px v env.scope.names) = true)
    (he : slotV O own v σ = some sl) (I : SI base X₀ env ad σ s m) (rm : Room A n) : wpAny (model prog w) A (exec (.Assign [.Name x px] v pos) env) (PO mk base X₀ env ad σ s .next (setS σ x sl)) NoE s := by
  have HP := main B HO
  have plain : isCompE v = false → wpAny (model prog w) A (exec (.Assign [.Name x px] v pos) env) (PO mk base X₀ env ad σ s .next (setS σ x sl)) NoE s := by
    intro hc
    rw [exec_Assign_arm, sole_false hc]
    refine wpAny_bind (wpAny_standAt (wpAny_bind (wpAny_pure ?_)))
    rw [if_neg (by decide)]
    cases own with
    | true =>
      revert he; apply map_r; intro ys h4
      refine wpAny_bind (wpAny_mono (s_fresh B HO ok h4 I.R rm) (fun u s₁ y => ?_) fun _ _ x => x)
      (refine e0_2 ?_ y; clear y; intro k zz1; refine e3_4 ?_ zz1; clear zz1; intro a vs nn zz2 hn g r; subst zz2)
      have I₁ := I.wide (wr := [a]) k fun b hb => by rw [List.mem_singleton.mp hb]; exact ⟨hn, _, g⟩
      show wpAny (model prog w) A (do assign (.Name x px) env (.ref a); pure Flow.next) _ NoE s₁
      refine wpAny_bind (wpAny_assign_Name (wpAny_mono (s_storeO (xs := ys) I₁ hx (.inr (by simp)) (none_old I.R.ba hn) g (r.to fun b o xb e => ⟨fun q => ?_, e⟩)) (fun _ s₂ z => wpAny_pure ?_) fun _ _ x => x))
      · rcases q with (q | q) | q
        · exact xb (.inl (.inl q))
        · exact xb (.inr (by simpa using q))
        · exact xb (.inl (.inr q))
      · (refine e2_5 ?_ z; clear z; intro p m' hp nl c I₂ sub)
        refine ⟨(kch k fun _ => False).tr c fun d o nd e => ⟨id, fun q => nd (q ▸ Wr.fixed hp)⟩, rfl, _, m', I₂.narrow fun b hb => ⟨.inl hb, fun q => ?_⟩, fun b hb => (sub b hb).imp id fun (q : b = a) => ⟨hm rfl, by rw [q]; exact hn⟩⟩
        subst q
        (refine e1_1 ?_ (I.R.pres b (.inl hb)); intro o e); rw [hn] at e; cases e
    | false =>
      revert he; apply map_r; intro d h4
      refine wpAny_bind (wpAny_mono ((HP v).v env _ σ A s m d ok h4 I.R rm) (fun u s₁ y => ?_) fun _ _ x => x)
      (refine e0_2 ?_ y; clear y; intro k r)
      show wpAny (model prog w) A (do assign (.Name x px) env u; pure Flow.next) _ NoE s₁
      refine wpAny_bind (wpAny_assign_Name (wpAny_mono (s_storeV (I.up k) hx r) (fun _ s₂ z => wpAny_pure ?_) fun _ _ x => x))
      (refine e2_5 ?_ z; clear z; intro p m' hp nl c I₂ sub)
      exact ⟨(kch k fun _ => False).tr c fun d o nd e => ⟨id, fun q => nd (q ▸ Wr.fixed hp)⟩, rfl, ad, m', I₂, fun b hb => .inl (sub b hb)⟩
  cases hcv : isCompE v with
  | false => exact plain hcv
  | true =>
    rw [hcv] at hsw
    replace hsw : swapOkE x px v env.scope.names = true := hsw
    cases v <;> first | (cases hsw; done) | skip
    case ListComp elt gens scope cp =>
      have hst : swapsWithSole [.Name x px] (.ListComp elt gens scope cp) pos.line env = pure true := by
        show (pure (env.blockKind == .function && env.kindOf x == some .local && px.line == cp.line && !(scope.names.any fun (n, k) => n == x && (k == .local || k == .cell))) : Sem Bool) = pure true
        have hb : env.blockKind = .function := by simp [Env.blockKind, I.R.fn]
        rw [hb]
        show (pure (true && env.scope.names.lookup x == some .local && px.line == cp.line && !(scope.names.any fun (n, k) => n == x && (k == .local || k == .cell))) : Sem Bool) = pure true
        rw [Bool.true_and]; exact congrArg (pure : Bool → Sem Bool) hsw
      rw [exec_Assign_arm, hst]
      refine wpAny_bind (wpAny_standAt (wpAny_bind (wpAny_pure ?_)))
      rw [if_pos rfl]
      have hown : own = false := by
        cases own with
        | false => rfl
        | true => exact none_e he
      subst hown
      revert he; apply map_r; intro d
      refine bind_r fun ys h5 => ?_
      apply ifs_r; intro hl
      · skip
        show wpAny (model prog w) A (do
          (do let _ ← comprehension (.ListComp elt gens scope cp) scope env (firstIterPos gens cp) (newList []) (firstAsync gens) (firstIter gens env) (some (fun v => assign (.Name x px) env v)))
          pure Flow.next) _ NoE s
        refine wpAny_bind (wpAny_bind (s_comp (main B HO elt) (mainG B HO gens) ok h5 hl I.R rm fun D C vs nn s' m' k hD hC hDC hn g r => ?_))
        have I₁ := I.wide (wr := [C]) k fun b hb => by rw [List.mem_singleton.mp hb]; (refine e3_2 ?_ hn; clear hn; intro o es ep e _); exact ⟨hC, o, e⟩
        have rD : Rp (XX (fun a => X₀ a ∨ a ∈ [C]) env ad σ) s'.heap (.ref D) (.list ys) := by
          refine .list (fun q => ?_) g (r.to fun a o xa e => ⟨fun q => ?_, e⟩)
          · rcases q with (q | q) | q
            · (refine e1_1 ?_ (I.R.pres D (.inl q)); intro o e); rw [hD] at e; cases e
            · exact hDC (by simpa using q)
            · (refine e1_1 ?_ (I.R.pres D (.inr q)); intro o e); rw [hD] at e; cases e
          · rcases q with (q | q) | q
            · exact xa (.inl (.inl q))
            · exact xa (.inr (.inl (by simpa using q)))
            · exact xa (.inl (.inr q))
        refine wpAny_assign_Name (wpAny_mono (s_storeV I₁ hx rD) (fun _ s₂ z => ?_) fun _ _ x => x)
        (refine e2_5 ?_ z; clear z; intro p m₂ hp nl c I₂ sub)
        have hCp : C ≠ p := fun q => I₁.dis C (.inr (by simp)) (q ▸ Wr.fixed hp)
        refine ⟨m', hn.at' fun o e => c.at hCp e, fun h' hs' => wpAny_pure (wpAny_pure ?_)⟩
        have hC0 : ¬ X₀ C := fun q => by (refine e1_1 ?_ (I.R.pres C (.inl q)); intro o e); rw [hC] at e; cases e
        have c₃ : Ch (· = C) s₂ { s₂ with heap := h' } := ⟨h', s₂.toks, rfl, fun b o nb e => (hs'.2 b nb).trans e⟩
        refine ⟨((kch k fun _ => False).tr (W'' := Wr env ad σ) c fun d o nd e => ⟨id, fun q => nd (q ▸ Wr.fixed hp)⟩).tr c₃ fun d o nd e => ⟨nd, fun q => by rw [q, hC] at e; cases e⟩, rfl, ad, m₂, ?_, fun b hb => .inl (sub b hb)⟩
        exact I₂.ch (fun a h => .inl h) (fun a h => .inr (by simp [h])) c₃ (fun a h1 h2 => absurd (h2 ▸ h1) hC0) fun a h => h ▸ none_old I.R.ba hC
end
end Mine
end
noncomputable section
open PySem PySem.W PyProof.Rows PySem.Calls PySem.Spec
set_option Elab.async false
namespace Mine

section
variable {prog : Program} {w : World} {A : Around} {X X₀ : Addr → Prop} {base : Heap} {mg mb : Str → Option Value} {env : Env} {σ : Sto} {s s' : Shared} {m : Str → Option Value} {ad : Str → Addr} {O : Orc} {n : Nat}

theorem Wr.set {x : Str} {xs ys : List PyData} (h : σ x = some (.own xs)) {a : Addr} (q : Wr env ad (setS σ x (.own ys)) a) : Wr env ad σ a := by
  refine q.imp id fun q => q.imp id fun ⟨y, zs, e, h1⟩ => ?_
  by_cases q : y = x
  · exact ⟨y, xs, q ▸ h, h1⟩
  · exact ⟨y, zs, (setS_off q).symm.trans e, h1⟩

/-- a list of its own is changed -/
theorem SI.upd {mk : Bool} {x : Str} {xs ys : List PyData} {vs : List Value} {k : Nat} {h' : Heap} (I : SI base X₀ env ad σ s m) (hx : σ x = some (.own xs)) (hs : Heap.SameBut (ad x) s.heap h') (g : h'.get? (ad x) = some (listOf vs.toArray k)) (r : RpA (XX X₀ env ad σ) s.heap vs ys) :
    PO mk base X₀ env ad σ s .next (setS σ x (.own ys)) .next { s with heap := h' } := by
  have hW : Wr env ad σ (ad x) := .inr (.inr ⟨x, xs, hx, rfl⟩)
  (refine e2_2 ?_ (I.list hx); intro vs0 n0 g0 _)
  have kL : ∀ b o, b ≠ ad x → s.heap.get? b = some o → h'.get? b = some o := fun b o nb e => (hs.2 b nb).trans e
  have sub : ∀ a, Wr env ad (setS σ x (.own ys)) a → Wr env ad σ a := fun a q => Wr.set hx q
  have t : ∀ a o, ¬ XX X₀ env ad σ a → s.heap.get? a = some o → ¬ XX X₀ env ad (setS σ x (.own ys)) a ∧ h'.get? a = some o := fun a o xa e => ⟨fun q => xa (q.imp id (sub a)), kL a o (fun q => xa (q ▸ .inr hW)) e⟩
  have cc : ∀ y v, CurM env s.heap m y v → CurM env h' m y v := fun y v cu => cu.ch fun c o k1 e1 e2 => kL c o (fun q => by
    (refine e1_1 ?_ (I.R.cellAt y c k1 e1); intro u i)
    exact cell_not_list i (q ▸ g0)) e2
  have nL : env.locals ≠ ad x := fun q => ns_not_list I.R.ns (q ▸ g0)
  refine ⟨⟨h', s.toks, rfl, fun b o nb e => kL b o (fun q => nb (q ▸ hW)) e⟩, rfl, ad, m, ?_, fun a q => .inl (sub a q)⟩
  exact {
    R := {
      fn := I.R.fn, gl := I.R.gl, bl := I.R.bl, ci := I.R.ci
      ba := fun b o e => kL b o (fun q => by rw [q, I.bn _ hW] at e; cases e) (I.R.ba b o e)
      pres := fun a xa => by
        by_cases q : a = ad x
        · exact ⟨_, q ▸ g⟩
        · (refine e1_1 ?_ (I.R.pres a (xa.imp id (sub a))); intro o e); exact ⟨o, kL a o q e⟩
      ns := by
        (refine e3_2 ?_ I.R.ns; intro o es ep h1 h2)
        exact ⟨o, es, ep, kL _ o nL h1, h2⟩
      cellAt := fun y c k1 e => by
        (refine e1_1 ?_ (I.R.cellAt y c k1 e); intro u i)
        exact ⟨u, cell_congr i fun o e => kL c o (fun q => cell_not_list i (q ▸ g0)) e⟩
      vals := fun y d e => by
        by_cases q : y = x
        · rw [setS_at q] at e; cases e
        · rw [setS_off q] at e
          (refine e1_2 ?_ (I.R.vals y d e); intro v cu rv); exact ⟨v, cc y v cu, rv.to t⟩
      owns := fun y zs e => by
        by_cases q : y = x
        · rw [setS_at q] at e
          obtain rfl := Slot.own.inj (Option.some.inj e)
          subst q
          exact ⟨ad y, vs, k, cc y _ (I.cur y xs hx), g, r.to t⟩
        · rw [setS_off q] at e
          (refine e2_2 ?_ (I.list e); intro vs1 n1 g1 r1)
          exact ⟨ad y, vs1, n1, cc y _ (I.cur y zs e), kL _ _ (fun q1 => q (I.inj y x zs xs e hx q1)) g1, r1.to t⟩ }
    cur := fun y zs e => by
      by_cases q : y = x
      · subst q; exact cc y _ (I.cur y xs hx)
      · exact cc y _ (I.cur y zs ((setS_off q).symm.trans e))
    inj := fun y z ys' zs' e1 e2 q => by
      have f : ∀ y zs, setS σ x (.own ys) y = some (.own zs) → ∃ zs', σ y = some (.own zs') := fun y zs e => by
        by_cases q : y = x
        · exact ⟨xs, q ▸ hx⟩
        · exact ⟨zs, (setS_off q).symm.trans e⟩
      (refine e1_1 ?_ (f y _ e1); intro _ h1); (refine e1_1 ?_ (f z _ e2); intro _ h2)
      exact I.inj y z _ _ h1 h2 q
    ap := I.ap
    dis := fun a h q => I.dis a h (sub a q)
    bn := fun a q => I.bn a (sub a q) }

theorem mapSeq_list (f : Array Value → Array Value) (vs : Array Value) (k : Nat) : ∃ k', Obj.mapSeq f (listOf vs k) = listOf (f vs) k' := ⟨_, rfl⟩

theorem s_setItem {l : Addr} {vs : List Value} {k : Nat} {i : Int} {t : Tok} {v : Value} {Q : Unit → Shared → Prop} (g : s.heap.get? l = some (listOf vs.toArray k)) (h0 : 0 ≤ i) (hfit : i < 2 ^ 63) (hn : i < vs.length)
    (hQ : ∀ h' k', h'.get? l = some (listOf (vs.set i.toNat v).toArray k') → Heap.SameBut l s.heap h' → Q () { s with heap := h' }) : wpAny (model prog w) A (setItem (.ref l) (.int i t) v) Q NoE s := by
  have hT : s.TypeIs (.ref l) "list" := ⟨_, g, rfl⟩
  unfold setItem
  try with_reducible refine wpAny_holding ?_
  first | refine wpAny_bind (wpAny_pure ?_) | skip
  refine wpAny_bind (wpAny_sequenceKey hT (by decide) ?_)
  refine wpAny_bind (wpAny_callSpecial?_slot (name := Str.ofString "__setitem__") hT slot_list_setitem (wpAny_call_entry slot_list_setitem hT entry_list_setitem ?_ (args_list_setitem _ _ _)))
  show wpAny _ _ (Builtin.List.listSubscript? (.int i t) >>= _) _ _ s
  refine wpAny_bind (wpAny_listSubscript_int (fitsIndex_of h0 hfit) ?_)
  clear hfit
  (refine e1_1 ?_ (Int.eq_ofNat_of_zero_le h0); intro j zz1; subst zz1)
  have hj : j < vs.toArray.size := by rw [List.size_toArray]; lia
  have hx' : vs.toArray[j]? = some vs.toArray[j] := Array.getElem?_eq_getElem hj
  show wpAny _ _ ((seqItemAt l j >>= fun r => pure (r.map (j, ·))) >>= _) _ _ s
  refine wpAny_bind (wpAny_bind (wpAny_seqItemAt g rfl (wpAny_pure ?_)))
  rw [hx']
  show wpAny _ _ (setSeqItemAt l j v >>= _) _ _ s
  refine wpAny_bind (wpAny_setSeqItemAt g rfl ?_)
  (refine e1_1 ?_ (mapSeq_list (·.setIfInBounds j v) vs.toArray k); intro k' hk')
  have g' : (s.heap.update l (Obj.mapSeq (·.setIfInBounds j v))).get? l = some (listOf (vs.set j v).toArray k') := by
    rw [Heap.get?_update_self _ g (by rw [hk']; rfl), hk']
    simp
  first
    | exact wpAny_bind (wpAny_pure (wpAny_pure ⟨.none, rfl, wpAny_pure (hQ _ _ g' (Heap.SameBut.update ..))⟩))
    | exact wpAny_pure ⟨.none, rfl, wpAny_pure (hQ _ _ g' (Heap.SameBut.update ..))⟩

/-- a method of a list that a name holds, one argument -/
theorem s_method {x name : Str} {id : String} {px apos pos : Pos} {elt : Expr} {D : Addr} {vs : List Value} {k : Nat} {Q : Value → Shared → Prop} (slot : PySem.Slot "list" name id) (hty : typeOf (.builtin id) = pure (.type "method_descriptor"))
    (R : RdM base env X σ s.heap m) (hc : CurM env s.heap m x (.ref D)) (g : s.heap.get? D = some (listOf vs.toArray k)) (hline : (apos.endLine == pos.line) = true) (hs : ∀ v p, elt ≠ .Starred v p)
    (h : wpAny (model prog w) A (eval elt env) (fun y s₂ => wpAny (model prog w) A (call (.builtin id) [.ref D, y]) Q NoE s₂) NoE s) :
    wpAny (model prog w) A (eval (.Call (.Attribute (.Name x px) name apos) [elt] [] pos) env) Q NoE s := by
  have hbase : attributeBase (.Name x px) name env (eval (.Name x px) env) = eval (.Name x px) env := rfl
  have htrees : backTo pos (starEach [elt] env) = [(false, eval elt env)] := by rw [starEach_cons hs]; rfl
  rw [arm_eval_Call, hbase]
  refine wpAny_bind (s_cur R hc ?_)
  refine wpAny_bind (wpAny_standAt ?_)
  have fin : wpAny (model prog w) A (callWith pos (.builtin id) [.ref D] (backTo pos (starEach [elt] env)) []) Q NoE s := by
    rw [htrees]
    exact Calls.callWith_builtin rfl (Calls.evalArgs_plain (Calls.spliced_cons (wpAny_mono h (fun y s₂ h₂ => Calls.spliced_nil h₂) fun _ _ e => e)))
  have hform : methodCallForm (([elt] : List Expr).length + ([] : List Keyword).length) (backTo pos (starEach [elt] env)) (backToKw pos (keywordEach [] env)) = true := by rw [htrees]; rfl
  have hpos : methodCallPos true (.Name x px) env apos pos = pure pos := by unfold methodCallPos; simp [hline]
  unfold methodCall
  rw [hform]
  refine wpAny_bind (wpAny_holding (getMethod_list_of slot hty (isList_of g) ?_ ?_))
  · simp [Heap.NoDictAt, g]
  exact wpAny_bind (wpAny_of_eq hpos fin)

theorem s_append {l : Addr} {vs : List Value} {k : Nat} {y : Value} {Q : Value → Shared → Prop} (g : s.heap.get? l = some (listOf vs.toArray k)) (hl : vs.length ≤ 1048576)
    (hQ : ∀ h' k', h'.get? l = some (listOf (vs ++ [y]).toArray k') → Heap.SameBut l s.heap h' → Q .none { s with heap := h' }) : wpAny (model prog w) A (call (.builtin "list.append") [.ref l, y]) Q NoE s := by
  refine wpAny_list_append_plain ⟨k, g⟩ (fun h' hp hs => ?_) (by rw [List.size_toArray, sizeLine_eq]; lia)
  (refine e1_1 ?_ hp; clear hp; intro n' g')
  have : vs.toArray.push y = (vs ++ [y]).toArray := by simp
  exact hQ h' n' (by rw [← this]; exact g') hs
theorem s_extend {l b : Addr} {vs ws : List Value} {k k2 : Nat} {Q : Value → Shared → Prop} (g : s.heap.get? l = some (listOf vs.toArray k)) (gb : s.heap.get? b = some (listOf ws.toArray k2)) (hl : vs.length + ws.length ≤ 1048576)
    (hQ : ∀ h' k', h'.get? l = some (listOf (vs ++ ws).toArray k') → Heap.SameBut l s.heap h' → Q .none { s with heap := h' }) : wpAny (model prog w) A (call (.builtin "list.extend") [.ref l, .ref b]) Q NoE s := by
  have hsz' : vs.toArray.size + ws.toArray.size ≤ sizeLine := by rw [List.size_toArray, List.size_toArray, sizeLine_eq]; lia
  refine call_meets PySem.F.slot_list_extend ⟨_, g, rfl⟩ PySem.F.entry_list_extend (PySem.F.args_list_extend_2 _ _) (AutoSeq1.list_extend_list_list_0 l vs.toArray k b ws.toArray k2 (extend_door hsz') (Nat.le_trans (Nat.le_add_right _ _) hsz')) ⟨g, gb, ?_⟩
  (refine e1_1 ?_ (mapSeq_list (· ++ ws.toArray) vs.toArray k); intro k' hk')
  refine hQ _ k' ?_ (Heap.SameBut.update ..)
  rw [Heap.get?_update_self _ g (by rw [hk']; rfl), hk']
  simp
end
end Mine
end
noncomputable section
open PySem PySem.W PyProof.Rows PySem.Calls PySem.Spec
set_option Elab.async false
namespace Mine

section
variable {prog : Program} {w : World} {A : Around} {X X₀ : Addr → Prop} {base : Heap} {mg mb : Str → Option Value} {env : Env} {σ : Sto} {s s' : Shared} {m : Str → Option Value} {ad : Str → Addr} {O : Orc} {n : Nat} {M : List Str} {fuel : Nat}

theorem slotsV_len : ∀ {xs : List Str} {es : List Expr} {ss : List Slot}, slotsV O M xs es σ = some ss → xs.length = ss.length ∧ es.length = ss.length
  | [], [], ss, h => by revert h; apply sm_r; exact ⟨rfl, rfl⟩
  | x :: xs, e :: es, ss, h => by
    revert h
    refine bind2_r fun sl ss' _ h2 => ?_
    apply sm_r
    have := slotsV_len h2
    exact ⟨congrArg Nat.succ this.1, congrArg Nat.succ this.2⟩
  | [], _ :: _, ss, h => none_e h
  | _ :: _, [], ss, h => none_e h

theorem tgtS_tup {ts : List Expr} {k : Nat} {p : Pos} {K : Nms} {xs : List Str} (h : tgtS (.Tuple ts k p) K = true) (hn : namesOf ts = some xs) : (∀ x ∈ xs, nmOk K x = true) ∧ xs.Nodup := by
  have h : (match namesOf ts with | some xs => xs.all (nmOk K) && decide xs.Nodup | none => false) = true := h
  rw [hn] at h
  (refine e0_2 ?_ (Bool.and_eq_true_iff.mp h); intro h1 h2)
  exact ⟨fun x hx => List.all_eq_true.mp h1 x hx, of_decide_eq_true h2⟩

theorem contains_mk {x : Str} (h : M.contains x = true) : (!M.isEmpty) = true := by
  cases M with
  | nil => cases h
  | cons _ _ => rfl

theorem p_return {v : Option Expr} {p : Pos} (B : Bg base mg mb) (HO : OSound prog w base mg mb n O) : SP prog w base n (!M.isEmpty) (.Return v p) (exS O M fuel (.Return v p)) := by
  intro env X₀ ad σ A s m fl σ' ok he I rm
  cases v with
  | none => exact none_e he
  | some e =>
    revert he; apply map2_r; intro d h1
    have R' : RdM base env X₀ (relS σ) s.heap m := by
      have R := I.R.narrow (X' := X₀) fun a h => .inl h
      refine { R with vals := fun x d e => ?_, owns := fun x xs e => ?_ }
      · (refine e1_2 ?_ (Option.map_eq_some_iff.mp e); intro sl h1 h2)
        obtain rfl := Slot.val.inj h2
        cases sl with
        | val d => exact R.vals x d h1
        | own xs =>
          (refine e2_2 ?_ (I.list h1); intro vs nn g r)
          exact ⟨.ref (ad x), I.cur x xs h1, .list (fun q => I.dis _ q (.inr (.inr ⟨x, xs, h1, rfl⟩))) g (r.to fun a o xa e => ⟨fun q => xa (.inl q), e⟩)⟩
      · (refine e1_2 ?_ (Option.map_eq_some_iff.mp e); intro sl h1 h2)
        cases h2
    exact wpAny_Return_some (wpAny_mono ((main B HO e).v env X₀ (relS σ) A s m d ok h1 R' rm) (fun v s₁ x => ⟨kch x.1 _, v, rfl, x.2⟩) fun _ _ x => x)

theorem p_asT {ts' : List Expr} {k : Nat} {tp p : Pos} {v : Expr} {xs : List Str} {fl : Fl} {σ' : Sto} (B : Bg base mg mb) (HO : OSound prog w base mg mb n O) (okv : okE v env.scope.names = true) (ok1 : tgtS (.Tuple ts' k tp) env.scope.names = true) (ok2 : isCompE v = false) (ok3 : okTs (tupsOf v) = true)
    (hxs : namesOf ts' = some xs) (he : asgT O M v σ xs = some (fl, σ')) (I : SI base X₀ env ad σ s m) (rm : Room A n) : wpAny (model prog w) A (exec (.Assign [.Tuple ts' k tp] v p) env) (PO (!M.isEmpty) base X₀ env ad σ s fl σ') NoE s := by
  (refine e0_2 ?_ (tgtS_tup ok1 hxs); intro hk hnd)
  rw [exec_Assign_arm, sole_false ok2]
  refine wpAny_bind (wpAny_standAt (wpAny_bind (wpAny_pure ?_)))
  rw [if_neg (by decide)]
  cases hv : tupsOf v with
  | some vs =>
    unfold asgT at he
    rw [hv] at he ok3
    (refine e2_1 ?_ (tupsOf_some hv); intro k2 p2 zz1; subst zz1)
    clear hv ok2
    revert he; apply map2_r; intro ss h1
    (refine e0_2 ?_ (Bool.and_eq_true_iff.mp ok3); intro hc _)
    have hc : vs.all (constantsAlone 8) = false := by simpa using hc
    (refine e0_2 ?_ (Bool.and_eq_true_iff.mp okv); intro okv hl4)
    have hl5 := of_decide_eq_true hl4
    (refine e1_2 ?_ (swapped_or (env := env) (k := k) (k2 := k2) (p := tp) (p2 := p2) hxs hc); intro r hr1 hr2)
    have hl := slotsV_len h1
    refine wpAny_bind (wpAny_Tuple_spliced (wpAny_mono (s_slots B HO M p2 rm xs vs ss _ s m okv h1 I.R) (fun vals s₁ y => ?_) fun _ _ x => x))
    (refine e0_2 ?_ y; clear y; intro kk zz1; refine e1_3 ?_ zz1; clear zz1; intro as hne has q)
    refine ⟨by rw [q.length, sizeLine_eq]; lia, ?_⟩
    rw [hr1]
    refine wpAny_bind (wpAny_pure ?_)
    have k₂ : Keeps s { s₁ with heap := s₁.heap.push (tupOf vals.toArray 0) } := ktr kk (keeps_push' _ _)
    have has' : ∀ b ∈ as, s.heap.get? b = none ∧ ∃ o, (s₁.heap.push (tupOf vals.toArray 0)).get? b = some o := fun b hb => ⟨(has b hb).1, let ⟨o, e⟩ := (has b hb).2; ⟨o, Heap.get?_push_of_some _ e⟩⟩
    have I₁ := I.wide k₂ has'
    have eX : (fun b => XX X₀ env ad σ b ∨ b ∈ as) = XX (fun b => X₀ b ∨ b ∈ as) env ad σ := by
      funext b; exact propext or_right_comm
    rw [eX] at q
    have q' : SlA (XX (fun b => X₀ b ∨ b ∈ as) env ad σ) (s₁.heap.push (tupOf vals.toArray 0)) vals ss as := q.to (fun b o xb e => ⟨xb, Heap.get?_push_of_some _ e⟩) fun b vs nn xb e => ⟨xb, Heap.get?_push_of_some _ e⟩
    have := s_tupStore (prog := prog) (w := w) (A := A) (s := { s₁ with heap := s₁.heap.push (tupOf vals.toArray 0) }) (p := tp) (k := k) rm.h hxs hk hnd hl.1 hr2 I₁ (isTup_of (Heap.get?_push_size _ rfl)) (fun b hb => ⟨fun q => (by
      (refine e1_1 ?_ (I.R.pres b (.inl q)); intro o e)
      rw [(has b hb).1] at e
      cases e), none_old I.R.ba (has b hb).1⟩) q'
    refine wpAny_mono this (fun f s₂ z => ?_) fun _ _ x => x
    (refine e0_3 ?_ z; clear z; intro zz1 c zz2; subst zz1; refine e2_2 ?_ zz2; clear zz2; intro ad' m' I₂ sub)
    exact ⟨(kch k₂ fun _ => False).tr c fun d o nd e => ⟨id, nd⟩, rfl, ad', m', I₂, fun b hb => (sub b hb).imp id fun hb => ⟨(by cases M with
      | nil => rw [hne rfl] at hb; cases hb
      | cons _ _ => rfl), (has b hb).1⟩⟩
  | none =>
    unfold asgT at he
    rw [hv] at he
    revert he
    refine bind_r fun ds h => ?_
    apply ifs2_r; intro hlen
    revert h
    refine bind_r fun d h1 h2 => ?_
    obtain rfl := tupOf_some h2
    clear h2
    have hsw : swappedStores [.Tuple ts' k tp] v env = pure none := by
      cases v <;> first | rfl | (cases hv; done)
    refine wpAny_bind (wpAny_mono ((main B HO v).v env _ σ A s m _ okv h1 I.R rm) (fun u s₁ y => ?_) fun _ _ x => x)
    (refine e0_2 ?_ y; clear y; intro kk r)
    rw [hsw]
    refine wpAny_bind (wpAny_pure ?_)
    (refine e2_3 ?_ (tup_inv r); intro a vs zz1 hta rs; subst zz1)
    have I₁ := I.wide (wr := []) kk fun b hb => nomatch hb
    have eX : XX (fun b => X₀ b ∨ b ∈ ([] : List Addr)) env ad σ = XX X₀ env ad σ := by funext b; simp [XX]
    have := s_tupStore (prog := prog) (w := w) (A := A) (s := s₁) (p := tp) (k := k) (r := none) (ss := ds.map .val) rm.h hxs hk hnd (by simpa using hlen) (.inl rfl) I₁ hta (fun b hb => nomatch hb) (eX ▸ SlA.ofVals rs)
    refine wpAny_mono this (fun f s₂ z => ?_) fun _ _ x => x
    (refine e0_3 ?_ z; clear z; intro zz1 c zz2; subst zz1; refine e2_2 ?_ zz2; clear zz2; intro ad' m' I₂ sub)
    exact ⟨(kch kk fun _ => False).tr c fun d o nd e => ⟨id, nd⟩, rfl, ad', m', I₂, fun b hb => (sub b hb).imp id fun hb => nomatch hb⟩
theorem p_asS {b i : Expr} {sp p : Pos} {v : Expr} {fl : Fl} {σ' : Sto} (B : Bg base mg mb) (HO : OSound prog w base mg mb n O) (okv : okE v env.scope.names = true) (ok1 : okE i env.scope.names = true) (ok2 : isCompE v = false)
    (he : asgV O M (.Subscript b i sp) v σ = some (fl, σ')) (I : SI base X₀ env ad σ s m) (rm : Room A n) : wpAny (model prog w) A (exec (.Assign [.Subscript b i sp] v p) env) (PO (!M.isEmpty) base X₀ env ad σ s fl σ') NoE s := by
  revert he
  refine bind_r fun x hx => bind2_r fun d k h1 h2 => bind2_r fun xs ki h3 h4 => ?_
  apply ifs2_r; intro hc
  (refine e1_1 ?_ (nameOf_some hx); intro bp zz1; subst zz1)
  obtain rfl := intOf_some h4
  clear h4
  revert h3
  refine bind_r fun sl hσ h5 => ?_
  obtain rfl := ownS_some h5
  clear h5
  have hlen := lenOk_iff.mp hc.2.2
  refine wpAny_Assign_Subscript (wpAny_mono ((main B HO v).v env _ σ A s m _ okv h1 I.R rm) (fun vv s₁ y => ?_) fun _ _ x => x) (sole_false (l := p.line) (env := env) (t := .Subscript (.Name x bp) i sp) ok2)
  have I₁ := I.up y.1
  refine s_cur I₁.R (I₁.cur x xs hσ) ?_
  refine wpAny_mono ((main B HO i).v env _ σ A s₁ m _ ok1 h2 I₁.R rm) (fun iv s₂ z => ?_) fun _ _ x => x
  (refine e0_2 ?_ z; clear z; intro k₂ ri)
  revert ri; apply int_v; intro t
  have I₂ := I₁.up k₂
  (refine e2_2 ?_ (I₂.list hσ); intro vs nn g r)
  have hvl := r.length
  refine s_setItem g hc.1 (by lia) (by lia) fun h' k' g' hs => ?_
  have po := I₂.upd (mk := !M.isEmpty) hσ hs g' (r.set (y.2.up (kle k₂)) ki.toNat)
  exact PO.tr (kch (ktr y.1 k₂) _) (fun a h => .inl h) po
theorem p_assign {ts : List Expr} {v : Expr} {p : Pos} (B : Bg base mg mb) (HO : OSound prog w base mg mb n O) : SP prog w base n (!M.isEmpty) (.Assign ts v p) (exS O M fuel (.Assign ts v p)) := by
  intro env X₀ ad σ A s m fl σ' ok he I rm
  (refine e0_2 ?_ (Bool.and_eq_true_iff.mp ok); intro okv ok)
  revert he
  refine bind_r fun t ho he => ?_
  obtain rfl := one_some ho
  clear ho
  have ok : okA t v env.scope.names = true := ok
  cases t with
  | Name x px =>
    (refine e0_2 ?_ (Bool.and_eq_true_iff.mp ok); intro ok1 ok2)
    revert he; apply map2_r; intro sl h1
    exact s_asN B HO contains_mk okv ok1 ok2 h1 I rm
  | Tuple ts' k tp =>
    (refine e0_2 ?_ (Bool.and_eq_true_iff.mp ok); intro ok1 ok)
    (refine e0_2 ?_ (Bool.and_eq_true_iff.mp ok); intro ok2 ok3)
    have ok2 : isCompE v = false := by simpa using ok2
    revert he
    exact bind_r fun xs hxs he => p_asT B HO okv ok1 ok2 ok3 hxs he I rm
  | Subscript b i sp =>
    (refine e0_2 ?_ (Bool.and_eq_true_iff.mp ok); intro _ ok)
    (refine e0_2 ?_ (Bool.and_eq_true_iff.mp ok); intro ok1 ok2)
    have ok2 : isCompE v = false := by simpa using ok2
    exact p_asS B HO okv ok1 ok2 he I rm
  | _ => exact none_e he

theorem p_expr {e : Expr} {p : Pos} (B : Bg base mg mb) (HO : OSound prog w base mg mb n O) : SP prog w base n (!M.isEmpty) (.Expr e p) (exS O M fuel (.Expr e p)) := by
  intro env X₀ ad σ A s m fl σ' ok he I rm
  cases e with
  | Call f as kws cp =>
    cases kws with
    | cons _ _ => exact none_e he
    | nil =>
      have ok : (okM f cp && okL as env.scope.names) = true := ok
      (refine e0_2 ?_ (Bool.and_eq_true_iff.mp ok); intro ok1 ok2)
      clear ok
      revert he
      refine bind_r fun q hq => bind_r fun x hx => bind2_r fun xs d h3 h4 he => ?_
      (refine e1_1 ?_ (attrOf_some hq); intro ap zz1; subst zz1)
      (refine e1_1 ?_ (nameOf_some hx); intro op ho)
      obtain ⟨o, mm⟩ := q
      obtain rfl : o = .Name x op := ho
      clear hq hx
      (refine e1_2 ?_ (rs_one h4); intro a zz1 h1; subst zz1)
      clear h4
      revert h3
      refine bind_r fun sl hσ h5 => ?_
      obtain rfl := ownS_some h5
      clear h5
      have ok1 : (isNameE (.Name x op) && ap.endLine == cp.line) = true := ok1
      replace ok1 := (Bool.and_eq_true_iff.mp ok1).2
      have ok2 := (Bool.and_eq_true_iff.mp ok2).1
      have hi : interactive env = false := by simp [interactive, I.R.fn]
      refine wpAny_Expr (hi := hi) ?_
      (refine e2_2 ?_ (I.list hσ); intro vs nn g r)
      have hvl := r.length
      have he : (if mm = "append" then (if lenOk (xs.length + 1) then some (Fl.next, setS σ x (.own (xs ++ [d]))) else none)
        else if mm = "extend" then (listOfD d).bind fun ys => (if lenOk (xs.length + ys.length) then some (Fl.next, setS σ x (.own (xs ++ ys))) else none) else none) = some (fl, σ') := he
      by_cases hm : mm = "append"
      · rw [if_pos hm] at he
        subst hm
        revert he; apply ifs2_r; intro hl
        refine s_method slot_list_append type_list_append I.R (I.cur x xs hσ) g ok1 (not_starred h1) (wpAny_mono ((main B HO a).v env _ σ A s m _ ok2 h1 I.R rm) (fun y s₁ z => ?_) fun _ _ x => x)
        have hl' := lenOk_iff.mp hl
        refine s_append (kle z.1 _ _ g) (by lia) fun h' k' g' hs => ?_
        exact PO.tr (kch z.1 _) (fun a h => .inl h) ((I.up z.1).upd hσ hs g' ((r.up (kle z.1)).append (.cons z.2 .nil)))
      · rw [if_neg hm] at he
        revert he
        refine if_r fun hm => bind_r fun ys hd => ?_
        apply ifs2_r; intro hl
        subst hm
        obtain rfl := listOf_some hd
        clear hd
        refine s_method PySem.F.slot_list_extend PySem.F.type_list_extend I.R (I.cur x xs hσ) g ok1 (not_starred h1) (wpAny_mono ((main B HO a).v env _ σ A s m _ ok2 h1 I.R rm) (fun y s₁ z => ?_) fun _ _ x => x)
        have hl' := lenOk_iff.mp hl
        (refine e0_2 ?_ z; clear z; intro kz rz)
        revert rz; apply lst_v; intro lb ws nb hX gb rb
        have hwl := rb.length
        refine s_extend (kle kz _ _ g) gb (by lia) fun h' k' g' hs => ?_
        exact PO.tr (kch kz _) (fun a h => .inl h) ((I.up kz).upd hσ hs g' ((r.up (kle kz)).append rb))
  | _ => exact none_e he
end
end Mine
end
noncomputable section
open PySem PySem.W PyProof.Rows PySem.Calls PySem.Spec
set_option Elab.async false
namespace Mine

noncomputable def SPs (prog : Program) (w : World) (base : Heap) (n : Nat) (mk : Bool) (b : List Stmt) (f : Sto → Option (Fl × Sto)) : Prop := ∀ (env : Env) (X₀ : Addr → Prop) (ad : Str → Addr) (σ : Sto) (A : Around) (s : Shared) (m : Str → Option Value) (fl : Fl) (σ' : Sto),
  okSs b env.scope.names = true → f σ = some (fl, σ') → SI base X₀ env ad σ s m → Room A n → wpAny (model prog w) A (execs b env) (PO mk base X₀ env ad σ s fl σ') NoE s

section
variable {prog : Program} {w : World} {A : Around} {X X₀ : Addr → Prop} {base : Heap} {mg mb : Str → Option Value} {env : Env} {σ : Sto} {s s' : Shared} {m : Str → Option Value} {ad : Str → Addr} {O : Orc} {n : Nat} {M : List Str} {fuel : Nat} {mk : Bool}

theorem PO.here (I : SI base X₀ env ad σ s m) (k : Keeps s s') : PO mk base X₀ env ad σ s .next σ .next s' :=
  ⟨kch k _, rfl, ad, m, I.up k, fun _ h => .inl h⟩

theorem ps_nil : SPs prog w base n mk [] (exSs O M fuel []) := by
  intro env X₀ ad σ A s m fl σ' ok he I rm
  revert he; apply sm2_r
  exact wpAny_execs_nil (PO.here I (keeps_refl _))
theorem ret_r {d : PyData} {σ₁ σ' : Sto} {fl : Fl} {k : Sto → Option (Fl × Sto)} {G : Fl → Sto → Prop} (h : G (.ret d) σ₁) : contF k (.ret d, σ₁) = some (fl, σ') → G fl σ' := sm2_r (G := G) h
theorem ps_cons {st : Stmt} {r : List Stmt} (h1 : SP prog w base n (!M.isEmpty) st (exS O M fuel st)) (h2 : SPs prog w base n (!M.isEmpty) r (exSs O M fuel r)) : SPs prog w base n (!M.isEmpty) (st :: r) (exSs O M fuel (st :: r)) := by
  intro env X₀ ad σ A s m fl σ' ok he I rm
  revert ok he
  refine and_r fun ok1 ok2 => bind_r fun q e1 e2 => ?_
  obtain ⟨fl₁, σ₁⟩ := q
  refine wpAny_execs_cons (wpAny_mono (h1 env X₀ ad σ A s m fl₁ σ₁ ok1 e1 I rm) (fun f s₁ p => ?_) fun _ _ x => x)
  cases fl₁ with
  | ret d =>
    revert e2; apply ret_r
    (refine e0_2 ?_ p; clear p; intro c zz1; refine e1_2 ?_ zz1; clear zz1; intro v zz2 r; subst zz2)
    exact ⟨c, v, rfl, r⟩
  | next =>
    (refine e0_3 ?_ p; clear p; intro c zz1 zz2; subst zz1; refine e2_2 ?_ zz2; clear zz2; intro ad' m' I' sub)
    exact wpAny_mono (h2 env X₀ ad' σ₁ A s₁ m' fl σ' ok2 e2 I' rm) (fun f s₂ p => PO.tr c sub p) fun _ _ x => x

theorem p_if {t : Expr} {b o : List Stmt} {p : Pos} (B : Bg base mg mb) (HO : OSound prog w base mg mb n O) (hb : SPs prog w base n (!M.isEmpty) b (exSs O M fuel b)) (ho : SPs prog w base n (!M.isEmpty) o (exSs O M fuel o)) : SP prog w base n (!M.isEmpty) (.If t b o p) (exS O M fuel (.If t b o p)) := by
  intro env X₀ ad σ A s m fl σ' ok he I rm
  revert ok he
  refine and_r fun ok1 => and_r fun ok2 ok3 => bind_r fun c h1 h2 => ?_
  refine wpAny_If (wpAny_mono ((main B HO t).t env _ σ A s m c ok1 h1 I.R rm) (fun c' s₁ x => ?_) fun _ _ x => x)
  (refine e0_2 ?_ x; clear x; intro zz1 k; subst zz1)
  cases c' with
  | true => exact wpAny_mono (hb env X₀ ad σ A s₁ m fl σ' ok2 h2 (I.up k) rm) (fun f s₂ p => PO.tr (kch k _) (fun _ h => .inl h) p) fun _ _ x => x
  | false => exact wpAny_mono (ho env X₀ ad σ A s₁ m fl σ' ok3 h2 (I.up k) rm) (fun f s₂ p => PO.tr (kch k _) (fun _ h => .inl h) p) fun _ _ x => x

theorem p_while {t : Expr} {b o : List Stmt} {p : Pos} (B : Bg base mg mb) (HO : OSound prog w base mg mb n O) (hb : SPs prog w base n (!M.isEmpty) b (exSs O M fuel b)) : SP prog w base n (!M.isEmpty) (.While t b o p) (exS O M fuel (.While t b o p)) := by
  intro env X₀ ad σ A s m fl σ' ok he I rm
  (refine e0_2 ?_ (Bool.and_eq_true_iff.mp ok); intro ok1 ok2)
  clear ok
  cases o with
  | cons _ _ => exact none_e he
  | nil =>
    refine wpAny_While ?_
    show codeAny (model prog w) A _ _ s
    refine codeAny_whileLoop (fun k s₁ => ∃ ad₁ σ₁ m₁, SI base X₀ env ad₁ σ₁ s₁ m₁ ∧ Ch (Wr env ad σ) s s₁ ∧ (∀ a, Wr env ad₁ σ₁ a → Wr env ad σ a ∨ ((!M.isEmpty) = true ∧ s.heap.get? a = none)) ∧ whileF (evT O t) (exSs O M fuel b) k σ₁ = some (fl, σ')) ?_ fuel
      ⟨ad, σ, m, I, Ch.refl _ _, fun _ h => .inl h, he⟩
    intro k s₁ h
    (refine e3_4 ?_ h; clear h; intro ad₁ σ₁ m₁ I₁ c₁ sub₁ hw)
    cases k with
    | zero => exact none_e hw
    | succ k =>
      revert hw
      refine bind_r fun c h1 h2 => ?_
      refine wpAny_mono ((main B HO t).t env _ σ₁ A s₁ m₁ c ok1 h1 I₁.R rm) (fun c' s₂ x => ?_) fun _ _ x => x.elim
      (refine e0_2 ?_ x; clear x; intro zz1 kk; subst zz1)
      cases c' with
      | false =>
        revert h2; apply sm2_r
        exact wpAny_execs_nil (PO.tr c₁ sub₁ (PO.here I₁ kk))
      | true =>
        revert h2
        refine bind_r fun q h3 h4 => ?_
        obtain ⟨fl₁, σ₂⟩ := q
        refine wpAny_mono (hb env X₀ ad₁ σ₁ A s₂ m₁ fl₁ σ₂ ok2 h3 (I₁.up kk) rm) (fun f s₃ q => ?_) fun _ _ x => x.elim
        have q' := PO.tr (mk := !M.isEmpty) c₁ sub₁ (PO.tr (mk := !M.isEmpty) (kch kk (Wr env ad₁ σ₁)) (fun _ h => .inl h) q)
        clear q
        cases fl₁ with
        | ret d =>
          revert h4; apply ret_r
          (refine e0_2 ?_ q'; clear q'; intro c zz1; refine e1_2 ?_ zz1; clear zz1; intro v zz2 r; subst zz2)
          exact ⟨c, v, rfl, r⟩
        | next =>
          (refine e0_3 ?_ q'; clear q'; intro c zz1 zz2; subst zz1; refine e2_2 ?_ zz2; clear zz2; intro ad' m' I' sub)
          exact ⟨k, Nat.lt_succ_self _, ad', σ₂, m', I', c, sub, h4⟩
end
end Mine
end
noncomputable section
open PySem PySem.W PyProof.Rows PySem.Calls PySem.Spec
set_option Elab.async false
namespace Mine

section
variable {prog : Program} {w : World} {A : Around} {X X₀ : Addr → Prop} {base : Heap} {mg mb : Str → Option Value} {env : Env} {σ : Sto} {s s' s₀ : Shared} {m : Str → Option Value} {ad : Str → Addr} {O : Orc} {n : Nat} {M : List Str} {fuel : Nat} {mk : Bool}

theorem setAllV_eq : ∀ (xs : List Str) (ds : List PyData) (σ : Sto), setAllV σ xs ds = setAllS σ xs (ds.map .val)
  | [], _, _ => rfl
  | _ :: _, [], _ => rfl
  | x :: xs, d :: ds, σ => setAllV_eq xs ds _

theorem s_bindS {t : Expr} {v : Value} {d : PyData} {σ' : Sto} (hh : A.handled = none) (I : SI base X₀ env ad σ s m) (hb : bindT t d σ = some σ') (ht : tgtS t env.scope.names = true) (r : Rp (XX X₀ env ad σ) s.heap v d) :
    wpAny (model prog w) A (assign t env v) (fun _ s' => Ch (Wr env ad σ) s s' ∧ ∃ ad' m', SI base X₀ env ad' σ' s' m' ∧ ∀ a, Wr env ad' σ' a → Wr env ad σ a) NoE s := by
  revert hb
  refine alt_r ?_ (bind_r fun ts hts => bind_r fun xs hxs => bind_r fun ds hds => ?_)
  · apply map_r; intro x hx
    (refine e1_1 ?_ (nameOf_some hx); intro p zz1; subst zz1)
    refine wpAny_assign_Name (wpAny_mono (s_storeV I ht r) (fun _ s₂ z => ?_) fun _ _ x => x)
    (refine e2_5 ?_ z; clear z; intro p m' hp nl c I₂ sub)
    exact ⟨c.mono fun d q => q ▸ Wr.fixed hp, ad, m', I₂, sub⟩
  · apply ifs_r; intro hlen
    (refine e2_1 ?_ (tupsOf_some hts); intro k p zz1; subst zz1)
    obtain rfl := tupOf_some hds
    clear hts hds
    (refine e0_2 ?_ (tgtS_tup ht hxs); intro hk hnd)
    (refine e2_3 ?_ (tup_inv r); intro a vs zz1 hta rs; subst zz1)
    (refine e1_2 ?_ (namesOf_form hxs); intro ps hps zz1; subst zz1)
    clear ht hxs r
    have hvl := rs.length
    have nx : (xs.zip ps).map (·.1) = xs := by rw [List.map_fst_zip]; lia
    refine wpAny_assign_Tuple hh hta ?_ ?_ fun h' hk' => ?_
    · rw [assignEach_names]; simp [hps] at hlen ⊢; lia
    · rw [assignEach_names, List.findIdx?_eq_none_iff]
      intro x hx
      (refine e1_2 ?_ (List.mem_map.mp hx); intro y _ zz1; subst zz1)
      rfl
    · have kk : HLe s.heap h' := fun b o e => hk' b o (Nat.ne_of_lt (Heap.lt_size e)) e
      rw [assignEach_names, List.map_map]
      have I₁ := I.wide (wr := []) (keeps_refl s) fun b hb => nomatch hb
      have eX : XX (fun b => X₀ b ∨ b ∈ ([] : List Addr)) env ad σ = XX X₀ env ad σ := by funext b; simp [XX]
      refine wpAny_mono (s_tupFin (xs := xs) (ss := ds.map .val) (as := []) (fun xp => assign (.Name xp.1 xp.2) env) h' (xs.zip ps) vs (ds.map .val) [] hk I₁ (fun b hb => nomatch hb) (fun x v s Q h => wpAny_assign_Name h) kk
        (fun x hx => (List.of_mem_zip (a := x.1) (b := x.2) hx).1) (by rw [List.length_zip, List.length_map]; lia) (fun b => Iff.rfl) (by rw [nx]) (eX ▸ SlA.ofVals rs)) (fun _ s₂ z => ?_) fun _ _ x => x
      (refine e0_2 ?_ z; clear z; intro c zz1; refine e2_2 ?_ zz1; clear zz1; intro ad' m' I₂ sub)
      rw [setAllV_eq]
      exact ⟨c, ad', m', I₂, fun b hb => (sub b hb).elim id fun q => nomatch q⟩
end
end Mine
end
noncomputable section
open PySem PySem.W PyProof.Rows PySem.Calls PySem.Spec
set_option Elab.async false
namespace Mine

section
variable {prog : Program} {w : World} {A : Around} {X X₀ : Addr → Prop} {base : Heap} {mg mb : Str → Option Value} {env : Env} {σ : Sto} {s s' s₀ : Shared} {m : Str → Option Value} {ad : Str → Addr} {O : Orc} {n : Nat} {M : List Str} {fuel : Nat} {mk : Bool}

theorem Its.inv {X : Addr → Prop} {t : Expr} {I : Addr} {wr : List Addr} {items : List PyData} {St : Nat → Heap → Prop} (h : Its prog w A X t I wr items St) {i : Nat} {s s' : Shared} {W : Addr → Prop} (hW : ∀ a, W a → X a ∧ a ∉ wr) (st : St i s.heap) (c : Ch W s s') : St i s'.heap :=
  h.frame i _ _ st fun b _ hb e => c.at (fun q => hb.elim (fun x => x (hW b q).1) fun x => (hW b q).2 x) e

theorem s_forLoop {t : Expr} {b : List Stmt} {items : List PyData} {fl : Fl} {σ' : Sto} {xv : Value} {s₁ : Shared} (hh : A.handled = none) (hb : SPs prog w base n mk b (exSs O M fuel b)) (okb : okSs b env.scope.names = true) (okt : tgtS t env.scope.names = true) (rm : Room A n)
    (I : SI base X₀ env ad σ s m) (he : forF t (exSs O M fuel b) items σ = some (fl, σ')) (hit : ItR prog w A (XX X₀ env ad σ) t items s xv s₁) :
    wpAny (model prog w) A (pyIter xv) (fun it s₂ => codeAny (model prog w) A (.forLoop t it b [] env) (fun r s' => match r with | .ok f => PO mk base X₀ env ad σ s fl σ' f s' | .error e => cameBackBy (model prog w) A env NoE e s') s₂) NoE s₁ := by
  refine wpAny_mono hit (fun it s₂ y => ?_) fun _ _ x => x
  (refine e4_5 ?_ y; clear y; intro J wr Core Rd zz1 k₂ hwr h0 hX; subst zz1)
  have hnX0 : ∀ a, a ∈ wr → ¬ X₀ a := fun a ha q => by (refine e1_1 ?_ (I.R.pres a (.inl q)); intro o e); rw [(hwr a ha).1] at e; cases e
  have hnW : ∀ a, a ∈ wr → ¬ Wr env ad σ a := fun a ha q => by (refine e1_1 ?_ (I.wr_pres q); intro o e); rw [(hwr a ha).1] at e; cases e
  have hbn : ∀ a, a ∈ wr → base.get? a = none := fun a ha => none_old I.R.ba (hwr a ha).1
  have fin : ∀ s₄, Ch (fun a => Wr env ad σ a ∨ a ∈ wr) s₂ s₄ → Ch (Wr env ad σ) s s₄ := fun s₄ c => (kch k₂ fun _ => False).tr c fun d o nd e => ⟨id, fun q => q.elim nd fun q => by rw [(hwr d q).1] at e; cases e⟩
  refine post_any fun R' hR0 => ?_
  have hR : ∀ f s', PO mk base X₀ env ad σ s fl σ' f s' → R' (.ok f) s' := fun f s' h => hR0 (.ok f) s' h
  clear hR0
  refine codeAny_forLoop_any (fun k s₃ => ∃ j ad₁ σ₁ m₁, k = items.length - j ∧ j ≤ items.length ∧ Core j s₃.heap ∧ SI base (fun a => X₀ a ∨ a ∈ wr) env ad₁ σ₁ s₃ m₁ ∧ Ch (fun a => Wr env ad σ a ∨ a ∈ wr) s₂ s₃ ∧
      (∀ a, Wr env ad₁ σ₁ a → Wr env ad σ a ∨ (mk = true ∧ s₂.heap.get? a = none)) ∧ forF t (exSs O M fuel b) (items.drop j) σ₁ = some (fl, σ')) ?_ items.length
    ⟨0, ad, σ, m, rfl, Nat.zero_le _, h0 _ fun _ _ e => e, I.wide k₂ hwr, Ch.refl _ _, fun _ h => .inl h, by simpa using he⟩
  (intro k s₃ zz1; refine e4_7 ?_ zz1; clear zz1; intro j ad₁ σ₁ m₁ zz2 hj core I₃ c₃ sub₃ hf; subst zz2)
  have hnW₁ : ∀ a, a ∈ wr → ¬ Wr env ad₁ σ₁ a := fun a ha q => I₃.dis a (.inr ha) q
  (refine e0_2 ?_ (hX (XX (fun a => X₀ a ∨ a ∈ wr) env ad₁ σ₁) (fun b hb => .inl (.inr hb)) fun a o xa ha e q => by
    rcases q with (q | q) | q
    · exact xa (.inl q)
    · exact ha q
    · rcases sub₃ a q with q | q
      · exact xa (.inr q)
      · rw [q.2] at e; cases e); intro hRd hIts)
  have rd := hRd s₃.heap fun b o xb hb e => c₃.at (fun q => q.elim (fun q => xb (.inr q)) hb) e
  by_cases hlt : j < items.length
  · obtain ⟨d, hd⟩ : ∃ d, items[j]? = some d := ⟨items[j], by simp [hlt]⟩
    have hdrop : items.drop j = d :: items.drop (j + 1) := by
      rw [List.drop_eq_getElem_cons hlt]
      congr 1
      rw [List.getElem?_eq_getElem hlt] at hd; exact Option.some.inj hd
    rw [hdrop] at hf
    revert hf
    refine bind_r fun σ₂ hbt => bind_r fun q hbo hf => ?_
    obtain ⟨fl₁, σ₃⟩ := q
    refine wpAny_mono (hIts.item j d s₃ hd ⟨core, rd⟩ I₃.R.pres) (fun r s₄ y => ?_) fun _ _ x => x.elim
    (refine e1_2 ?_ y; clear y; intro v zz1 hlet; subst zz1)
    refine wpAny_mono hlet (fun _ s₅ z => ?_) fun _ _ x => x.elim
    (refine e0_3 ?_ z; clear z; intro c₅ rv st)
    have I₅ : SI base (fun a => X₀ a ∨ a ∈ wr) env ad₁ σ₁ s₅ m₁ := I₃.ch (fun a h => h) (fun a h => .inr h) c₅ (fun a _ h => hIts.pres (j + 1) s₅.heap st a h) hbn
    refine wpAny_mono (s_bindS hh I₅ hbt okt rv) (fun _ s₆ z => ?_) fun _ _ x => x.elim
    (refine e0_2 ?_ z; clear z; intro c₆ zz1; refine e2_2 ?_ zz1; clear zz1; intro ad₂ m₂ I₆ sub₆)
    have st₆ := hIts.inv (W := Wr env ad₁ σ₁) (fun a q => ⟨.inr q, fun h => hnW₁ a h q⟩) st c₆
    refine wpAny_mono (hb env _ ad₂ σ₂ A s₆ m₂ fl₁ σ₃ okb hbo I₆ rm) (fun f s₇ z => ?_) fun _ _ x => x.elim
    (refine e0_2 ?_ z; clear z; intro c₇ po)
    have cc : Ch (fun a => Wr env ad σ a ∨ a ∈ wr) s₂ s₇ := by
      have hw1 : ∀ d o, ¬ (Wr env ad σ d ∨ d ∈ wr) → s₂.heap.get? d = some o → ¬ Wr env ad₁ σ₁ d := fun d o nd e q => (sub₃ d q).elim (fun q => nd (.inl q)) fun q => by rw [q.2] at e; cases e
      exact ((c₃.tr (W'' := fun a => Wr env ad σ a ∨ a ∈ wr) c₅ fun d o nd e => ⟨nd, fun q => nd (.inr q)⟩).tr (W'' := fun a => Wr env ad σ a ∨ a ∈ wr) c₆ fun d o nd e => ⟨nd, hw1 d o nd e⟩).tr c₇ fun d o nd e => ⟨nd, fun q => hw1 d o nd e (sub₆ d q)⟩
    cases fl₁ with
    | ret dd =>
      revert hR; revert hf; apply ret_r; intro hR
      (refine e1_2 ?_ po; clear po; intro v zz1 rr; subst zz1)
      exact hR (.ret v) _ ⟨fin _ cc, v, rfl, rr.to fun a o xa e => ⟨fun q => xa (.inl q), e⟩⟩
    | next =>
      (refine e0_2 ?_ po; clear po; intro zz1 zz2; subst zz1; refine e2_2 ?_ zz2; clear zz2; intro ad₃ m₃ I₇ sub₇)
      have st₇ := hIts.inv (W := Wr env ad₂ σ₂) (fun a q => ⟨.inr (sub₆ a q), fun h => hnW₁ a h (sub₆ a q)⟩) st₆ c₇
      refine ⟨items.length - (j + 1), by lia, j + 1, ad₃, σ₃, m₃, rfl, hlt, st₇.1, I₇, cc, fun a q => ?_, hf⟩
      rcases sub₇ a q with q | q
      · exact sub₃ a (sub₆ a q)
      · by_cases hA : Wr env ad σ a ∨ a ∈ wr
        · rcases hA with hA | hA
          · exact .inl hA
          · exact absurd (I₇.dis a (.inr hA)) (fun h => h ‹_›)
        · right
          refine ⟨q.1, ?_⟩
          cases e : s₂.heap.get? a with
          | none => rfl
          | some o =>
            have c36 : Ch (fun a => Wr env ad σ a ∨ a ∈ wr) s₂ s₆ := by
              exact (c₃.tr (W'' := fun a => Wr env ad σ a ∨ a ∈ wr) c₅ fun d o nd e => ⟨nd, fun q => nd (.inr q)⟩).tr c₆ fun d o nd e => ⟨nd, fun q => (sub₃ d q).elim (fun q => nd (.inl q)) fun q => by rw [q.2] at e; cases e⟩
            rw [c36.at hA e] at q; cases q.2
  · have hjl : j = items.length := by lia
    subst hjl
    have hf' : fl = .next ∧ σ' = σ₁ := by
      rw [List.drop_length] at hf
      revert hf; apply sm2_r; exact ⟨rfl, rfl⟩
    (refine e0_2 ?_ hf'; clear hf'; intro zz1 zz2; subst zz1; subst zz2)
    refine wpAny_mono (hIts.done s₃ ⟨core, rd⟩) (fun r s₄ y => ?_) fun _ _ x => x.elim
    (refine e0_2 ?_ y; clear y; intro zz1 c₄; subst zz1)
    refine wpAny_execs_nil ?_
    have cc : Ch (fun a => Wr env ad σ a ∨ a ∈ wr) s₂ s₄ := c₃.tr c₄ fun d o nd e => ⟨nd, fun q => nd (.inr q)⟩
    exact hR .next _ ⟨fin _ cc, rfl, ad₁, m₁, I₃.ch (fun a h => .inl h) (fun a h => .inr h) c₄ (fun a h1 h2 => absurd h1 (hnX0 a h2)) hbn, fun a q => (sub₃ a q).imp id fun q => ⟨q.1, none_old (kle k₂) q.2⟩⟩

theorem p_for {t i : Expr} {b o : List Stmt} {p : Pos} (B : Bg base mg mb) (HO : OSound prog w base mg mb n O) (hb : SPs prog w base n (!M.isEmpty) b (exSs O M fuel b)) : SP prog w base n (!M.isEmpty) (.For t i b o p) (exS O M fuel (.For t i b o p)) := by
  intro env X₀ ad σ A s m fl σ' ok he I rm
  revert ok he
  refine and_r fun ok1 => and_r fun ok2 => and_r fun ok3 ok5 => ?_
  cases o with
  | cons _ _ => exact none_r
  | nil =>
    refine bind_r fun items h h2 => ?_
    revert h
    refine bind_r fun d h1 h4 => ?_
    exact wpAny_For (wpAny_mono ((main B HO i).i t env _ σ A s m d items ok1 ok3 h1 h4 I.R rm) (fun xv s₁ y => s_forLoop rm.h hb ok5 ok2 rm I h2 y.2) fun _ _ x => x) (folded_pure h1 env)

mutual
theorem mainS (B : Bg base mg mb) (HO : OSound prog w base mg mb n O) : ∀ st : Stmt, SP prog w base n (!M.isEmpty) st (exS O M fuel st)
  | .Return v p => p_return B HO
  | .Assign ts v p => p_assign B HO
  | .Expr e p => p_expr B HO
  | .If t b o p => p_if B HO (mainSs B HO b) (mainSs B HO o)
  | .While t b o p => p_while B HO (mainSs B HO b)
  | .For t i b o p => p_for B HO (mainSs B HO b)
  | .Pass .. | .Break .. | .Continue .. | .Global .. | .Nonlocal .. | .AugAssign .. | .AnnAssign .. | .Delete .. | .AsyncFor .. | .With .. | .AsyncWith .. | .Match .. | .Raise .. | .Try .. | .TryStar .. | .Assert .. | .Import .. | .ImportFrom .. | .FunctionDef .. | .AsyncFunctionDef .. | .ClassDef .. | .TypeAlias .. => by
    intro env X₀ ad σ A s m fl σ' ok he I rm
    exact none_e he
theorem mainSs (B : Bg base mg mb) (HO : OSound prog w base mg mb n O) : ∀ b : List Stmt, SPs prog w base n (!M.isEmpty) b (exSs O M fuel b)
  | [] => ps_nil
  | st :: r => ps_cons (mainS B HO st) (mainSs B HO r)
end
end
end Mine
end
noncomputable section
open PySem PySem.W PyProof.Rows PySem.Calls PySem.Spec
set_option Elab.async false
namespace Mine

theorem cellsFrom_has : ∀ (names : List (Str × NameKind)) (n : Nat) (acc : List (Str × Addr)) (x : Str), ((x, NameKind.cell) ∈ names ∨ (acc.lookup x).isSome = true) → ((cellsFrom n names acc).lookup x).isSome = true
  | [], _, _, _, h => by
    rcases h with h | h
    · cases h
    · exact h
  | (y, k) :: r, n, acc, x, h => by
    unfold cellsFrom
    split
    · rename_i hk
      refine cellsFrom_has r _ _ x ?_
      by_cases q : x = y
      · right; subst q; simp
      · rcases h with h | h
        · rcases List.mem_cons.mp h with h | h
          · cases h; exact absurd rfl q
          · exact .inl h
        · right
          rw [List.lookup_cons]
          have : (x == y) = false := by simpa using q
          rw [this]; exact h
    · rename_i hk
      refine cellsFrom_has r _ _ x (h.imp (fun h => ?_) id)
      rcases List.mem_cons.mp h with h | h
      · cases h; exact absurd rfl hk
      · exact h

theorem bind_vals {X : Addr → Prop} {h : Heap} {k : Str → Option NameKind} : ∀ (ps : List Str) (vals : List Value) (args : List PyData) (σ : Sto) (m cm : Str → Option Value), RpA X h vals args → (∀ x ∈ ps, k x = some .local ∨ k x = some .cell) →
    (∀ x d, σ x = some (.val d) → ∃ v, ((k x = some .local ∧ m x = some v) ∨ (k x = some .cell ∧ cm x = some v)) ∧ Rp X h v d) →
    ∀ x d, setAllV σ ps args x = some (.val d) → ∃ v, ((k x = some .local ∧ bindL k (ps.zip vals) m x = some v) ∨ (k x = some .cell ∧ bindC k (ps.zip vals) cm x = some v)) ∧ Rp X h v d
  | [], _, _, σ, m, cm, _, _, h0 => by simpa [setAllV, bindL, bindC] using h0
  | p :: ps, _, _, σ, m, cm, .nil, _, h0 => by simpa [setAllV, bindL, bindC] using h0
  | p :: ps, _, _, σ, m, cm, .cons (v := v) (d := d) (vs := vs) (ds := ds) rv rs, hk, h0 => by
    simp only [setAllV, List.zip_cons_cons, bindL, bindC]
    refine bind_vals ps vs ds _ _ _ rs (fun x hx => hk x (by simp [hx])) fun x d' e => ?_
    by_cases q : x = p
    · rw [setS_at q] at e
      subst q
      obtain rfl := Slot.val.inj (Option.some.inj e)
      refine ⟨v, ?_, rv⟩
      rcases hk x (by simp) with q | q
      · left; exact ⟨q, by rw [if_pos q]; simp⟩
      · right; refine ⟨q, ?_⟩
        have : ¬ k x = some NameKind.local := by rw [q]; decide
        rw [if_neg this]; simp
    · rw [setS_off q] at e
      (refine e1_2 ?_ (h0 x d' e); intro u hu ru)
      refine ⟨u, hu.imp (fun ⟨a, b⟩ => ⟨a, ?_⟩) fun ⟨a, b⟩ => ⟨a, ?_⟩, ru⟩
      · split
        · show (if x = p then some v else m x) = some u; rw [if_neg q]; exact b
        · exact b
      · split
        · exact b
        · show (if x = p then some v else cm x) = some u; rw [if_neg q]; exact b

theorem setAllV_val : ∀ (ps : List Str) (args : List PyData) (σ : Sto), (∀ x xs, σ x ≠ some (.own xs)) → ∀ x xs, setAllV σ ps args x ≠ some (.own xs)
  | [], _, _, h => h
  | _ :: _, [], _, h => h
  | p :: ps, d :: ds, σ, h => by
    refine setAllV_val ps ds _ fun x xs e => ?_
    by_cases q : x = p
    · rw [setS_at q] at e; cases e
    · exact h x xs ((setS_off q).symm.trans e)

noncomputable def fnOk (d : DefRec) (ps : List Str) : Bool := okSs d.body d.scope.names && (d.scope.kind == .function) && !d.scope.isCoroutine && !d.scope.isGenerator && ps.all (nmOk d.scope.names)

section
variable {prog : Program} {w : World} {base : Heap} {mg mb : Str → Option Value} {O : Orc} {n : Nat} {M : List Str} {fuel : Nat}

noncomputable def FnAt (base : Heap) (mg : Str → Option Value) (d : DefRec) : Prop := ∃ a o pm code doc, mg d.name = some (.ref a) ∧ base.get? a = some o ∧ o.data = .func (docDef d.name d.params d.body d.scope pm code doc) ∧ base.CodeRec code d.name
noncomputable def BindOk (d : DefRec) (ps : List Str) : Prop := ∀ pm code doc vals, vals.length = ps.length → bindArgs (docDef d.name d.params d.body d.scope pm code doc) ⟨vals, []⟩ = pure (ps.zip vals)

theorem fn_sound {d : DefRec} {ps : List Str} {args : List PyData} {r : PyData} {σ' : Sto} (hT : FnAt base mg d) (B : Bg base mg mb) (HO : OSound prog w base mg mb n O) (hst : fnOk d ps = true) (hbind : BindOk d ps) (hlen : args.length = ps.length)
    (hev : exSs O M fuel d.body (setAllV (fun _ => none) ps args) = some (.ret r, σ')) : OGood prog w base mg mb (n + 1) d.name args r := by
  (refine e5_4 ?_ hT; clear hT; intro a o pm code doc h1 h2 h3 h4)
  simp only [fnOk, Bool.and_eq_true, beq_iff_eq, Bool.not_eq_true'] at hst
  (refine e0_2 ?_ hst; clear hst; intro zz1 hps; refine e0_2 ?_ zz1; clear zz1; intro zz2 hgen; refine e0_2 ?_ zz2; clear zz2; intro zz3 hco; refine e0_2 ?_ zz3; clear zz3; intro okb hk)
  refine ⟨.ref a, .inl h1, fun h hh => ⟨.frame, .inl rfl, ?_⟩, ?_⟩
  · have L := (Looks.ld (M := model prog w) (part := none) (hh _ _ h2))
    obtain ⟨c, d1, d2, d3⟩ := o
    simp only at h3
    subst h3
    exact L.andThen .now
  · intro A s X vals rm hX hb hr
    have hvl := hr.length
    have hnm : ∀ x ∈ ps, (d.scope.names.lookup x = some .local ∨ d.scope.names.lookup x = some .cell) ∧ (x == ("__debug__" : Str)) = false := fun x hx => nmOk_spec (List.all_eq_true.mp hps x hx)
    have hcell : ∀ (N : Nat) x, d.scope.names.lookup x = some .cell → ((cellsFrom N d.scope.names []).lookup x).isSome = true := fun N x hx => cellsFrom_has _ _ _ x (.inl (mem_of_lookup hx))
    have hroom : A.depth < recursionLimit := by have := rm.d; show A.depth < 1000; lia
    refine wpAny_call (codeAny_call_cells (fd := docDef d.name d.params d.body d.scope pm code doc) hroom (hb _ _ h2) h3 (B.nolimit.keeps hb) (h4.keeps hb) rfl (hbind pm code doc vals (by lia)) rfl (fun x hx => ?_) (fun s₁ IC => ?_) hco hgen hk)
    · rcases (hnm x.1 (List.of_mem_zip (a := x.1) (b := x.2) hx).1).1 with q | q
      · exact .inl q
      · exact .inr ⟨q, hcell _ _ q⟩
    · generalize hE : callEnvC (docDef d.name d.params d.body d.scope pm code doc) s.heap.objs.size a = env at IC ⊢
      have hsc : env.scope = d.scope := by subst hE; rfl
      have hgl : env.globals = mainGlobals := by subst hE; rfl
      have hbl : env.builtins = builtinsNs := by subst hE; rfl
      have hL : env.locals = s.heap.objs.size := by subst hE; rfl
      have hcs : env.cells = cellsFrom (s.heap.objs.size + 1) d.scope.names [] := by subst hE; rfl
      have hko : ∀ x, env.kindOf x = d.scope.names.lookup x := fun x => by show env.scope.names.lookup x = _; rw [hsc]
      (refine e2_2 ?_ IC.done; intro h₁ tk zz1 hkeep; subst zz1)
      have frL : s.heap.get? env.locals = none := none_size _ (by rw [hL]; exact Nat.le_refl _)
      have frC : ∀ x c, env.cells.lookup x = some c → s.heap.get? c = none := fun x c e => none_size _ (by have := IC.above x c (mem_of_lookup e); rw [hL] at this; exact Nat.le_of_lt this)
      have frW : ∀ σ ad, (∀ x xs, σ x ≠ some (.own xs)) → ∀ c, Wr env ad σ c → s.heap.get? c = none := fun σ ad ho c q => by
        rcases q with q | ⟨x, _, q⟩ | ⟨x, xs, q, _⟩
        · rw [q]; exact frL
        · exact frC x c q
        · exact absurd q (ho x xs)
      have noOwn : ∀ x xs, setAllV (fun _ => none) ps args x ≠ some (.own xs) := setAllV_val ps args _ (by simp)
      have hX' : ∀ c, X c → ∃ o, s.heap.get? c = some o := hX
      have r₁ : RpA (XX X env (fun _ => 0) (setAllV (fun _ => none) ps args)) h₁ vals args := hr.to fun c o xc e => ⟨fun q => q.elim xc fun q => (by rw [frW _ _ noOwn c q] at e; cases e), hkeep c o e⟩
      have I : SI base X env (fun _ => 0) (setAllV (fun _ => none) ps args) { s with heap := h₁, toks := tk } (bindL env.kindOf (ps.zip vals) fun _ => none) := {
        R := {
          fn := by rw [hsc]; exact hk
          gl := hgl
          bl := hbl
          ba := fun b o e => hkeep b o (hb b o e)
          pres := fun c q => by
            rcases q with q | q | ⟨x, _, q⟩ | ⟨x, xs, q, _⟩
            · (refine e1_1 ?_ (hX c q); intro o e); exact ⟨o, hkeep c o e⟩
            · rw [q]; (refine e3_2 ?_ IC.toInCall.ns; intro o es ep e _); exact ⟨o, e⟩
            · (refine e1_2 ?_ (IC.cell x c q); intro o e _); exact ⟨o, e⟩
            · exact absurd q (noOwn x xs)
          ns := IC.toInCall.ns
          ci := fun x q => by
            rw [hko] at q
            rw [hcs]
            exact Option.isSome_iff_exists.mp (hcell _ x q)
          cellAt := fun x c _ e => ⟨_, IC.cell x c e⟩
          vals := fun x d' e => by
            (refine e1_2 ?_ (bind_vals (k := env.kindOf) ps vals args (fun _ => none) (fun _ => none) (fun _ => none) r₁ (fun x hx => by rw [hko]; exact (hnm x hx).1) (by simp) x d' e); intro v hv rv)
            have hxp : x ∈ ps := by
              apply Classical.byContradiction
              intro hx
              have : ∀ (ps : List Str) (args : List PyData) (σ : Sto), x ∉ ps → setAllV σ ps args x = σ x := by
                intro ps
                induction ps with
                | nil => intro args σ _; simp [setAllV]
                | cons p ps ih =>
                  intro args σ hn
                  cases args with
                  | nil => simp [setAllV]
                  | cons d ds =>
                    simp only [List.mem_cons, not_or] at hn
                    simp only [setAllV]
                    rw [ih ds _ hn.2]
                    simp [setS, hn.1]
              rw [this _ _ _ hx] at e; cases e
            refine ⟨v, ⟨(hnm x hxp).2, hv.imp id fun ⟨q1, q2⟩ => ⟨q1, ?_⟩⟩, rv⟩
            have q1' := q1
            rw [hko] at q1'
            (refine e1_1 ?_ (Option.isSome_iff_exists.mp (hcell (s.heap.objs.size + 1) x q1')); intro c hc)
            rw [← hcs] at hc
            exact ⟨c, hc, q2 ▸ IC.cell x c hc⟩
          owns := fun x xs e => absurd e (noOwn x xs) }
        cur := fun x xs e => absurd e (noOwn x xs)
        inj := fun x y xs ys e _ _ => absurd e (noOwn x xs)
        ap := fun x y c e1 e2 => name_of_addr IC.apart (mem_of_lookup e1) (mem_of_lookup e2)
        dis := fun c q1 q2 => by (refine e1_1 ?_ (hX c q1); intro o e); rw [frW _ _ noOwn c q2] at e; cases e
        bn := fun c q => none_old hb (frW _ _ noOwn c q) }
      have rm' : Room (A.deeper env) n := ⟨rm.h, by have := rm.d; show A.depth + 1 + n < 900; lia, by have := rm.u; show A.units + 3 + 4 * n + 100 < cLine; lia⟩
      refine wpAny_mono (mainSs B HO d.body env X _ _ (A.deeper env) _ _ (.ret r) σ' (by rw [hsc]; exact okb) hev I rm') (fun f s' po => ?_) fun _ _ x => x.elim
      (refine e0_2 ?_ po; clear po; intro c zz1; refine e1_2 ?_ zz1; clear zz1; intro v zz2 rr; subst zz2)
      refine ⟨?_, rr⟩
      have k₁ : Keeps s { s with heap := h₁, toks := tk } := keeps_heap s h₁ tk hkeep
      exact ((kch k₁ fun _ => False).tr (W'' := fun _ => False) c fun c o _ e => ⟨id, fun q => (by rw [frW _ _ noOwn c q] at e; cases e)⟩).keeps fun _ _ _ => id
end
end Mine
end
noncomputable section
open PySem PySem.W PyProof.Rows PySem.Calls PySem.Spec
set_option Elab.async false
namespace Mine

noncomputable def intsOf : List PyData → Option (List Int)
  | [] => some []
  | d :: r => bind2 consO (intOf d) (intsOf r)
noncomputable def sumI : List Int → Int
  | [] => 0
  | a :: r => a + sumI r
noncomputable def twoOf {α : Type} : List α → Option (α × α)
  | [] => none
  | a :: r => (oneOf r).map fun b => (a, b)
/-- the builtins that are called by a name -/
noncomputable def bltO : Orc := fun f args =>
  if f = "max" then (twoOf args).bind fun q => bind2 (fun a b => some (.int (if b > a then b else a))) (intOf q.1) (intOf q.2)
  else if f = "sum" then ((oneOf args).bind listOfD).bind fun xs => (intsOf xs).map fun ns => .int (sumI ns)
  else if f = "list" then ((oneOf args).bind listOfD).bind fun xs => if lenOk xs.length then some (.list xs) else none
  else none

structure Bg2 (mg mb : Str → Option Value) : Prop where
  max : mg "max" = none ∧ mb "max" = some (.builtin "max")
  sum : mg "sum" = none ∧ mb "sum" = some (.builtin "sum")

section
variable {prog : Program} {w : World} {A : Around} {X : Addr → Prop} {base : Heap} {mg mb : Str → Option Value} {s : Shared} {n : Nat}

theorem ints_vals {h : Heap} : ∀ {xs : List PyData} {ns : List Int} {vs : List Value}, intsOf xs = some ns → RpA X h vs xs → ∃ ts : List Tok, ts.length = ns.length ∧ vs = (ns.zip ts).map fun p => Value.int p.1 p.2 := by
  intro xs
  induction xs with
  | nil => intro ns vs; apply sm_r; apply nil_v; exact ⟨[], rfl, rfl⟩
  | cons d r ih =>
    intro ns vs
    refine bind2_r fun a ms hd h1 => ?_
    apply sm_r
    obtain rfl := intOf_some hd
    apply cons_v; intro v vs rv rs
    revert rv; apply int_v; intro t
    (refine e1_2 ?_ (ih h1 rs); intro ts h2 h3)
    rw [h3]
    exact ⟨t :: ts, congrArg Nat.succ h2, rfl⟩

theorem preSum_congr (f g : Nat → Int) : ∀ n, (∀ i, i < n → f i = g i) → preSum f n = preSum g n
  | 0, _ => rfl
  | n + 1, h => by simp only [preSum]; rw [preSum_congr f g n fun i hi => h i (by lia), h n (by lia)]
theorem preSum_shift (f : Nat → Int) : ∀ n, preSum f (n + 1) = f 0 + preSum (fun i => f (i + 1)) n
  | 0 => by simp [preSum]
  | n + 1 => by rw [preSum, preSum_shift f n, preSum]; lia
theorem preSum_sumI : ∀ (ns : List Int), preSum (fun i => ns.getD i 0) ns.length = sumI ns
  | [] => rfl
  | a :: r => by
    rw [List.length_cons, preSum_shift, sumI]
    simp only [List.getD_cons_zero, List.getD_cons_succ]
    rw [preSum_sumI r]

theorem b_max (B2 : Bg2 mg mb) {args : List PyData} {r : PyData} (he : ((twoOf args).bind fun q => bind2 (fun a b => some (.int (if b > a then b else a))) (intOf q.1) (intOf q.2)) = some r) : OGood prog w base mg mb n "max" args r := by
  refine ⟨_, .inr B2.max, keep_builtin, fun A s X vals rm hX hb hr => ?_⟩
  clear hX hb
  revert he
  refine bind_r fun q hq => bind2_r fun a b ha hb => ?_
  apply sm_r
  obtain ⟨d, e⟩ := q
  obtain rfl := intOf_some ha
  obtain rfl := intOf_some hb
  clear ha hb
  cases args with
  | nil => exact none_e hq
  | cons d' r =>
    (refine e1_2 ?_ (Option.map_eq_some_iff.mp hq); intro b' h1 h2)
    obtain rfl := one_some h1
    cases h2
    clear hq h1
    (refine e2_3 ?_ (two_inv hr); intro v u zz1 r1 r2; subst zz1)
    clear hr
    revert r1; apply int_v; intro t
    revert r2; apply int_v; intro t'
    refine max_two_ints rm.h fun h' tk hk => ⟨keeps_heap s h' tk hk, ?_⟩
    split <;> exact .int _ _
theorem s_sum {xs : List PyData} {ns : List Int} {v : Value} (rm : Room A n) (h1 : intsOf xs = some ns) : Rp X s.heap v (.list xs) → wpAny (model prog w) A (call (.builtin "sum") [v]) (fun v s' => Keeps s s' ∧ Rp X s'.heap v (.int (sumI ns))) NoE s := by
  apply lst_v; intro l vs nn hx g q
  (refine e1_2 ?_ (ints_vals h1 q); intro ts hts zz1; subst zz1)
  clear q h1
  have hne : l ≠ s.heap.objs.size := fun e => by rw [e] at g; exact Nat.lt_irrefl _ (Heap.lt_size g)
  refine call_sum_walkG (wpAny_pyIter_list (isList_of g) ⟨_, _, _, _, _, _, fun i => ns.getD i 0, rfl, Walks.list (A := A.in1) rm.h s.heap.objs.size l hne _, ⟨⟨_, Heap.get?_push_size _ rfl, rfl, rfl⟩, (isList_of g).at fun o e => Heap.get?_push_of_some _ e⟩, fun b hb => ?_, fun i v hv => ?_, fun h' tk t' hk => ⟨?_, ?_⟩⟩)
  · rw [Heap.size_push]
    rcases List.mem_cons.mp hb with rfl | hb
    · exact Nat.lt_succ_self _
    · rw [List.mem_singleton.mp hb]; exact Nat.lt_succ_of_lt (Heap.lt_size g)
  · simp only [List.getElem?_toArray, List.getElem?_map, Option.map_eq_some_iff] at hv
    (refine e1_2 ?_ hv; clear hv; intro zz1 hz zz2; rcases zz1 with ⟨a, t⟩; subst zz2)
    rw [List.getElem?_zip_eq_some] at hz
    exact ⟨t, by simp [hz.1]⟩
  · refine keeps_heap s h' tk fun b o e => hk b o (fun hm => ?_) (Heap.get?_push_of_some _ e)
    rw [List.mem_singleton.mp hm] at e; exact Nat.lt_irrefl _ (Heap.lt_size e)
  · have e1 : ((ns.zip ts).map fun p => Value.int p.1 p.2).toArray.size = ns.length := by simp [hts]
    rw [e1, preSum_sumI]
    exact .int _ _
theorem b_sum (B2 : Bg2 mg mb) {args : List PyData} {r : PyData} (he : (((oneOf args).bind listOfD).bind fun xs => (intsOf xs).map fun ns => .int (sumI ns)) = some r) : OGood prog w base mg mb n "sum" args r := by
  refine ⟨_, .inr B2.sum, keep_builtin, fun A s X vals rm hX hb hr => ?_⟩
  clear hX hb
  revert he
  refine bind_r fun xs h => ?_
  apply map_r; intro ns h1
  revert h
  refine bind_r fun d h2 h3 => ?_
  obtain rfl := listOf_some h3
  obtain rfl := one_some h2
  (refine e1_2 ?_ (one_inv hr); intro v zz1 r1; subst zz1)
  exact s_sum rm h1 r1
theorem b_list (B : Bg base mg mb) {args : List PyData} {r : PyData} (he : (((oneOf args).bind listOfD).bind fun xs => if lenOk xs.length then some (.list xs) else none) = some r) : OGood prog w base mg mb n "list" args r := by
  refine ⟨_, .inr B.list, keep_type, fun A s X vals rm hX hb hr => ?_⟩
  clear hb
  revert he
  refine bind_r fun xs h => ?_
  apply ifs_r; intro hl
  revert h
  refine bind_r fun d h2 h3 => ?_
  obtain rfl := listOf_some h3
  obtain rfl := one_some h2
  (refine e1_2 ?_ (one_inv hr); intro v zz1 r1; subst zz1)
  clear hr h2 h3
  revert r1; apply lst_v; intro l vs nn hx g q
  refine call_list_seq l (.inl rfl) g rfl rfl (fun h' c' hk' hg => ?_) (by rw [List.size_toArray, q.length]; exact lenOk_line hl)
  exact ⟨keeps_heap s h' s.toks hk', .list hX.fresh hg (q.up hk')⟩
theorem blt_sound (B : Bg base mg mb) (B2 : Bg2 mg mb) : OSound prog w base mg mb n bltO := by
  intro f args r he
  unfold bltO at he
  by_cases h1 : f = "max"
  · rw [if_pos h1] at he; rw [h1]; exact b_max B2 he
  · rw [if_neg h1] at he
    by_cases h2 : f = "sum"
    · rw [if_pos h2] at he; rw [h2]; exact b_sum B2 he
    · rw [if_neg h2] at he
      by_cases h3 : f = "list"
      · rw [if_pos h3] at he; rw [h3]; exact b_list B he
      · rw [if_neg h3] at he; exact none_e he
end
end Mine
end
noncomputable section
open PySem PySem.W PyProof.Rows PySem.Calls PySem.Spec
set_option Elab.async false
namespace Mine

noncomputable def noScope : Scope := { kind := .function, names := [], isGenerator := false, isCoroutine := false }
noncomputable def fdef (i : Nat) : DefRec := match PySem.Challenge.pw_pf0037_01.main.body[i]? with
  | some (.FunctionDef name args body _ _ _ scope _ _ pos) => ⟨name, args, body, scope, pos⟩
  | _ => ⟨"", ⟨[], [], none, [], [], none, []⟩, [], noScope, ⟨0, 0, 0, 0⟩⟩
end Mine

namespace Mine
noncomputable def psOf (d : DefRec) : List Str := d.params.args.map (·.arg)
noncomputable def nextO (d : DefRec) (M : List Str) (O : Orc) : Orc := fun f args => if f = d.name then
    (if args.length = (psOf d).length then (match exSs O M 1000 d.body (setAllV (fun _ => none) (psOf d) args) with
      | some (.ret r, _) => some r
      | _ => none) else none)
  else O f args
noncomputable def ownsAt (i : Nat) : List Str := if i = 8 ∨ i = 12 ∨ i = 28 ∨ i = 29 ∨ i = 33 then ["found"] else if i = 13 then ["rest", "quotient"] else []
noncomputable def chainO (O : Orc) (l : List Nat) : Orc := l.foldl (fun O i => nextO (fdef i) (ownsAt i) O) O
noncomputable def allFns : List Nat := [1, 2, 4, 5, 6, 7, 8, 9, 10, 11, 12, 13, 14, 15, 16, 17, 18, 19, 20, 21, 22, 24, 25, 26, 27, 28, 29, 32, 33, 35, 36, 37, 38]
end Mine
end
noncomputable section
open PySem PySem.W PyProof.Rows PySem.Calls PySem.Spec
set_option Elab.async false
namespace Mine

theorem len1 {α : Type} {l : List α} (h : l.length = 1) : ∃ a, l = [a] := by
  match l, h with
  | [a], _ => exact ⟨a, rfl⟩
theorem len2 {α : Type} {l : List α} (h : l.length = 2) : ∃ a b, l = [a, b] := by
  match l, h with
  | [a, b], _ => exact ⟨a, b, rfl⟩
theorem len3 {α : Type} {l : List α} (h : l.length = 3) : ∃ a b c, l = [a, b, c] := by
  match l, h with
  | [a, b, c], _ => exact ⟨a, b, c, rfl⟩
theorem len4 {α : Type} {l : List α} (h : l.length = 4) : ∃ a b c d, l = [a, b, c, d] := by
  match l, h with
  | [a, b, c, d], _ => exact ⟨a, b, c, d, rfl⟩

noncomputable def FnFine (i : Nat) : Prop := fnOk (fdef i) (psOf (fdef i)) = true ∧ BindOk (fdef i) (psOf (fdef i))

theorem fine1 : FnFine 1 := by
  refine ⟨by decide +kernel, fun pm code doc vals h => ?_⟩
  (refine e2_1 ?_ (len2 (show vals.length = 2 from h)); intro a b zz1; subst zz1)
  rfl

theorem fine2 : FnFine 2 := by
  refine ⟨by decide +kernel, fun pm code doc vals h => ?_⟩
  (refine e2_1 ?_ (len2 (show vals.length = 2 from h)); intro a b zz1; subst zz1)
  rfl

theorem fine4 : FnFine 4 := by
  refine ⟨by decide +kernel, fun pm code doc vals h => ?_⟩
  (refine e1_1 ?_ (len1 (show vals.length = 1 from h)); intro a zz1; subst zz1)
  rfl

theorem fine5 : FnFine 5 := by
  refine ⟨by decide +kernel, fun pm code doc vals h => ?_⟩
  (refine e2_1 ?_ (len2 (show vals.length = 2 from h)); intro a b zz1; subst zz1)
  rfl

theorem fine6 : FnFine 6 := by
  refine ⟨by decide +kernel, fun pm code doc vals h => ?_⟩
  (refine e1_1 ?_ (len1 (show vals.length = 1 from h)); intro a zz1; subst zz1)
  rfl

theorem fine7 : FnFine 7 := by
  refine ⟨by decide +kernel, fun pm code doc vals h => ?_⟩
  (refine e1_1 ?_ (len1 (show vals.length = 1 from h)); intro a zz1; subst zz1)
  rfl

theorem fine8 : FnFine 8 := by
  refine ⟨by decide +kernel, fun pm code doc vals h => ?_⟩
  (refine e3_1 ?_ (len3 (show vals.length = 3 from h)); intro a b c zz1; subst zz1)
  rfl

theorem fine9 : FnFine 9 := by
  refine ⟨by decide +kernel, fun pm code doc vals h => ?_⟩
  (refine e2_1 ?_ (len2 (show vals.length = 2 from h)); intro a b zz1; subst zz1)
  rfl

theorem fine10 : FnFine 10 := by
  refine ⟨by decide +kernel, fun pm code doc vals h => ?_⟩
  (refine e3_1 ?_ (len3 (show vals.length = 3 from h)); intro a b c zz1; subst zz1)
  rfl

theorem fine11 : FnFine 11 := by
  refine ⟨by decide +kernel, fun pm code doc vals h => ?_⟩
  (refine e3_1 ?_ (len3 (show vals.length = 3 from h)); intro a b c zz1; subst zz1)
  rfl

theorem fine12 : FnFine 12 := by
  refine ⟨by decide +kernel, fun pm code doc vals h => ?_⟩
  (refine e3_1 ?_ (len3 (show vals.length = 3 from h)); intro a b c zz1; subst zz1)
  rfl

theorem fine13 : FnFine 13 := by
  refine ⟨by decide +kernel, fun pm code doc vals h => ?_⟩
  (refine e3_1 ?_ (len3 (show vals.length = 3 from h)); intro a b c zz1; subst zz1)
  rfl

theorem fine14 : FnFine 14 := by
  refine ⟨by decide +kernel, fun pm code doc vals h => ?_⟩
  (refine e3_1 ?_ (len3 (show vals.length = 3 from h)); intro a b c zz1; subst zz1)
  rfl

theorem fine15 : FnFine 15 := by
  refine ⟨by decide +kernel, fun pm code doc vals h => ?_⟩
  (refine e3_1 ?_ (len3 (show vals.length = 3 from h)); intro a b c zz1; subst zz1)
  rfl

theorem fine16 : FnFine 16 := by
  refine ⟨by decide +kernel, fun pm code doc vals h => ?_⟩
  (refine e2_1 ?_ (len2 (show vals.length = 2 from h)); intro a b zz1; subst zz1)
  rfl

theorem fine17 : FnFine 17 := by
  refine ⟨by decide +kernel, fun pm code doc vals h => ?_⟩
  (refine e2_1 ?_ (len2 (show vals.length = 2 from h)); intro a b zz1; subst zz1)
  rfl

theorem fine18 : FnFine 18 := by
  refine ⟨by decide +kernel, fun pm code doc vals h => ?_⟩
  (refine e3_1 ?_ (len3 (show vals.length = 3 from h)); intro a b c zz1; subst zz1)
  rfl

theorem fine19 : FnFine 19 := by
  refine ⟨by decide +kernel, fun pm code doc vals h => ?_⟩
  (refine e4_1 ?_ (len4 (show vals.length = 4 from h)); intro a b c d zz1; subst zz1)
  rfl

theorem fine20 : FnFine 20 := by
  refine ⟨by decide +kernel, fun pm code doc vals h => ?_⟩
  (refine e2_1 ?_ (len2 (show vals.length = 2 from h)); intro a b zz1; subst zz1)
  rfl

theorem fine21 : FnFine 21 := by
  refine ⟨by decide +kernel, fun pm code doc vals h => ?_⟩
  (refine e1_1 ?_ (len1 (show vals.length = 1 from h)); intro a zz1; subst zz1)
  rfl

theorem fine22 : FnFine 22 := by
  refine ⟨by decide +kernel, fun pm code doc vals h => ?_⟩
  (refine e2_1 ?_ (len2 (show vals.length = 2 from h)); intro a b zz1; subst zz1)
  rfl

theorem fine24 : FnFine 24 := by
  refine ⟨by decide +kernel, fun pm code doc vals h => ?_⟩
  (refine e3_1 ?_ (len3 (show vals.length = 3 from h)); intro a b c zz1; subst zz1)
  rfl

theorem fine25 : FnFine 25 := by
  refine ⟨by decide +kernel, fun pm code doc vals h => ?_⟩
  (refine e3_1 ?_ (len3 (show vals.length = 3 from h)); intro a b c zz1; subst zz1)
  rfl

theorem fine26 : FnFine 26 := by
  refine ⟨by decide +kernel, fun pm code doc vals h => ?_⟩
  (refine e3_1 ?_ (len3 (show vals.length = 3 from h)); intro a b c zz1; subst zz1)
  rfl

theorem fine27 : FnFine 27 := by
  refine ⟨by decide +kernel, fun pm code doc vals h => ?_⟩
  (refine e2_1 ?_ (len2 (show vals.length = 2 from h)); intro a b zz1; subst zz1)
  rfl

theorem fine28 : FnFine 28 := by
  refine ⟨by decide +kernel, fun pm code doc vals h => ?_⟩
  (refine e3_1 ?_ (len3 (show vals.length = 3 from h)); intro a b c zz1; subst zz1)
  rfl

theorem fine29 : FnFine 29 := by
  refine ⟨by decide +kernel, fun pm code doc vals h => ?_⟩
  (refine e2_1 ?_ (len2 (show vals.length = 2 from h)); intro a b zz1; subst zz1)
  rfl

theorem fine32 : FnFine 32 := by
  refine ⟨by decide +kernel, fun pm code doc vals h => ?_⟩
  (refine e1_1 ?_ (len1 (show vals.length = 1 from h)); intro a zz1; subst zz1)
  rfl

theorem fine33 : FnFine 33 := by
  refine ⟨by decide +kernel, fun pm code doc vals h => ?_⟩
  (refine e2_1 ?_ (len2 (show vals.length = 2 from h)); intro a b zz1; subst zz1)
  rfl

theorem fine35 : FnFine 35 := by
  refine ⟨by decide +kernel, fun pm code doc vals h => ?_⟩
  (refine e3_1 ?_ (len3 (show vals.length = 3 from h)); intro a b c zz1; subst zz1)
  rfl

theorem fine36 : FnFine 36 := by
  refine ⟨by decide +kernel, fun pm code doc vals h => ?_⟩
  (refine e3_1 ?_ (len3 (show vals.length = 3 from h)); intro a b c zz1; subst zz1)
  rfl

theorem fine37 : FnFine 37 := by
  refine ⟨by decide +kernel, fun pm code doc vals h => ?_⟩
  (refine e3_1 ?_ (len3 (show vals.length = 3 from h)); intro a b c zz1; subst zz1)
  rfl

theorem fine38 : FnFine 38 := by
  refine ⟨by decide +kernel, fun pm code doc vals h => ?_⟩
  (refine e3_1 ?_ (len3 (show vals.length = 3 from h)); intro a b c zz1; subst zz1)
  rfl

theorem fine_all : ∀ i ∈ allFns, FnFine i := by
  intro i hi
  simp only [allFns, List.mem_cons, List.mem_nil_iff, or_false] at hi
  rcases hi with rfl | rfl | rfl | rfl | rfl | rfl | rfl | rfl | rfl | rfl | rfl | rfl | rfl | rfl | rfl | rfl | rfl | rfl | rfl | rfl | rfl | rfl | rfl | rfl | rfl | rfl | rfl | rfl | rfl | rfl | rfl | rfl | rfl
  · exact fine1
  · exact fine2
  · exact fine4
  · exact fine5
  · exact fine6
  · exact fine7
  · exact fine8
  · exact fine9
  · exact fine10
  · exact fine11
  · exact fine12
  · exact fine13
  · exact fine14
  · exact fine15
  · exact fine16
  · exact fine17
  · exact fine18
  · exact fine19
  · exact fine20
  · exact fine21
  · exact fine22
  · exact fine24
  · exact fine25
  · exact fine26
  · exact fine27
  · exact fine28
  · exact fine29
  · exact fine32
  · exact fine33
  · exact fine35
  · exact fine36
  · exact fine37
  · exact fine38


section
variable {prog : Program} {w : World} {base : Heap} {mg mb : Str → Option Value} {O : Orc} {n : Nat}

theorem OCall.mono {fv : Value} {args : List PyData} {r : PyData} {k : Nat} (h : OCall prog w base n fv args r) (hk : n ≤ k) : OCall prog w base k fv args r :=
  fun A s X vals rm => h A s X vals (rm.mono hk)
theorem OSound.mono {k : Nat} (h : OSound prog w base mg mb n O) (hk : n ≤ k) : OSound prog w base mg mb k O := fun f args r e =>
  let ⟨fv, h1, h2, h3⟩ := h f args r e
  ⟨fv, h1, h2, h3.mono hk⟩

theorem next_sound {i : Nat} {M : List Str} (B : Bg base mg mb) (hF : FnFine i) (hT : FnAt base mg (fdef i)) (HO : OSound prog w base mg mb n O) : OSound prog w base mg mb (n + 1) (nextO (fdef i) M O) := by
  intro f args r e
  unfold nextO at e
  split at e
  · rename_i hf
    subst hf
    split at e
    · rename_i hl
      split at e
      · rename_i r' σ' hev
        cases e
        exact fn_sound hT B HO hF.1 hF.2 hl hev
      · cases e
    · cases e
  · exact HO.mono (Nat.le_succ n) f args r e

theorem chain_sound (B : Bg base mg mb) : ∀ (l : List Nat) (n : Nat) (O : Orc), (∀ i ∈ l, FnFine i ∧ FnAt base mg (fdef i)) → OSound prog w base mg mb n O → OSound prog w base mg mb (n + l.length) (chainO O l)
  | [], n, O, _, h => h
  | i :: l, n, O, hl, h => by
    have h1 := next_sound (M := ownsAt i) B (hl i (by simp)).1 (hl i (by simp)).2 h
    have := chain_sound B l (n + 1) _ (fun j hj => hl j (by simp [hj])) h1
    rw [List.length_cons, Nat.add_comm l.length 1, ← Nat.add_assoc]
    exact this
end
end Mine
end
noncomputable section
open PySem PySem.W PyProof.Rows PySem.Calls PySem.Spec
set_option Elab.async false
set_option linter.all false
namespace Mine

theorem str_inj (a b : String) : (Str.ofString a = Str.ofString b) = (a = b) := by
  apply propext
  refine ⟨fun h => ?_, fun h => by rw [h]⟩
  rw [Str.ofString_eq_toList, Str.ofString_eq_toList] at h
  have h1 : (a.toList.map Char.toNat) = (b.toList.map Char.toNat) := by
    have := congrArg Str.cps h
    simpa using this
  have h2 : a.toList = b.toList := by
    have inj : ∀ (x y : List Char), x.map Char.toNat = y.map Char.toNat → x = y := by
      intro x
      induction x with
      | nil => intro y h; cases y <;> simp_all
      | cons c r ih =>
        intro y h
        cases y with
        | nil => simp at h
        | cons d t =>
          simp only [List.map_cons, List.cons.injEq] at h
          rw [ih t h.2]
          congr 1
          exact Char.toNat_inj.mp h.1
    exact inj _ _ h1
  exact String.toList_inj.mp h2
theorem str_beq (a b : String) : (Str.ofString a == Str.ofString b) = (a == b) := by
  rw [Bool.eq_iff_iff]; simp [str_inj]

/-- what a def gives back, run by the evaluator -/
noncomputable def retOf : Option (Fl × Sto) → Option PyData
  | some (.ret r, _) => some r
  | _ => none
noncomputable def runF (i : Nat) (O : Orc) (args : List PyData) : Option PyData := retOf (exSs O (ownsAt i) 1000 (fdef i).body (setAllV (fun _ => none) (psOf (fdef i)) args))

noncomputable abbrev L (a : List Int) : PyData := .list (a.map .int)

theorem lenOk_of {n : Nat} (h : n ≤ 100000) : lenOk n = true := lenOk_iff.mpr (by lia)
theorem idx_nat {a : List Int} {k : Nat} (h : k < a.length) (hl : a.length ≤ 100000) : idxV (L a) (.int k) = some (.int (a.getD k 0)) := by
  have h1 : lenOk (a.map PyData.int).length = true := lenOk_of (by rw [List.length_map]; exact hl)
  show altO (if lenOk (a.map PyData.int).length then (if 0 ≤ (k : Int) then (a.map PyData.int)[(k : Int).toNat]? else _) else none) none = _
  rw [if_pos h1, if_pos (by lia)]
  simp [h, altO]
theorem idx_last {a : List Int} {l : Int} (hl : a.length ≤ 100000) : idxV (L (a ++ [l])) (.int (-1)) = some (.int l) := by
  have h : lenOk ((a ++ [l]).map PyData.int).length = true := lenOk_iff.mpr (by simp; lia)
  show altO (if lenOk ((a ++ [l]).map PyData.int).length then (if 0 ≤ (-1 : Int) then _ else if -(((a ++ [l]).map PyData.int).length : Int) ≤ -1 then ((a ++ [l]).map PyData.int)[(-1 + (((a ++ [l]).map PyData.int).length : Int)).toNat]? else none) else none) none = _
  rw [if_pos h, if_neg (by decide), if_pos (by simp; lia)]
  have : (-1 + (((a ++ [l]).map PyData.int).length : Int)).toNat = a.length := by simp; lia
  rw [this]; simp [altO]

theorem compItems_all {t : Expr} {test : Sto → Option Bool} {body : Sto → Option (List PyData)} {τ : Sto} (g : PyData → PyData) : ∀ (items : List PyData), (∀ d ∈ items, ∃ τ1, bindT t d τ = some τ1 ∧ test τ1 = some true ∧ body τ1 = some [g d]) → compItems t test body τ items = some (items.map g)
  | [], _ => by simp [compItems]
  | d :: ds, h => by
    (refine e1_3 ?_ (h d (by simp)); intro τ1 h1 h2 h3)
    have ih := compItems_all g ds fun e he => h e (by simp [he])
    unfold compItems at ih ⊢
    rw [Option.map_eq_some_iff] at ih
    (refine e1_2 ?_ ih; clear ih; intro q hq hf)
    rw [List.mapM_cons, hq]
    simp [h1, h2, h3, hf]


theorem binAdd {a b : Int} : binV .Add (.int a) (.int b) = some (.int (a + b)) := rfl
theorem binSub {a b : Int} : binV .Sub (.int a) (.int b) = some (.int (a - b)) := rfl
theorem binMul {a b : Int} (h : smallI b = true) : binV .Mult (.int a) (.int b) = some (.int (a * b)) := by
  show altO (if smallI b = true then some (PyData.int (a * b)) else none) none = _
  rw [if_pos h]; rfl
theorem binMod {a b : Int} (h : 0 < b) : binV .Mod (.int a) (.int b) = some (.int (a % b)) := by
  have : b ≠ 0 := by lia
  show (if b ≠ 0 then some (PyData.int (a.fmod b)) else none) = _
  rw [if_pos this, Int.fmod_eq_emod_of_nonneg _ (Int.le_of_lt h)]
theorem binDiv {a b : Int} (h : 0 < b) (h2 : b < 1000000) : binV .FloorDiv (.int a) (.int b) = some (.int (a / b)) := by
  have : b ≠ 0 := by lia
  have h3 : b.natAbs < 1073741824 := by lia
  show (if b ≠ 0 ∧ b.natAbs < 1073741824 then some (PyData.int (a.fdiv b)) else none) = _
  rw [if_pos ⟨this, h3⟩, Int.fdiv_eq_ediv_of_nonneg _ (Int.le_of_lt h)]
theorem binPow {a : Int} {n : Nat} (h : smallI a = true) (h2 : n ≤ 1000) : binV .Pow (.int a) (.int (n : Int)) = some (.int (a ^ n)) := by
  show (if smallI a = true ∧ 0 ≤ (n : Int) ∧ (n : Int) ≤ 1000 then some (PyData.int (a ^ (n : Int).toNat)) else none) = _
  rw [if_pos ⟨h, by lia, by lia⟩]; rfl
theorem binAddL {a b : List PyData} : binV .Add (.list a) (.list b) = if lenOk (a.length + b.length) then some (.list (a ++ b)) else none := rfl
theorem binMulL {a : List PyData} {k : Int} : binV .Mult (.list a) (.int k) = if smallI k = true ∧ lenOk (a.length * k.toNat) = true then some (.list (List.replicate k.toNat a).flatten) else none := rfl
/-- a pair of numbers to a number -/
noncomputable def pairG (f : Int → Int → Int) (d : PyData) : PyData := (((tupOfD d).bind twoOf).bind fun q => bind2 (fun k x => some (PyData.int (f k x))) (intOf q.1) (intOf q.2)).getD .none
theorem cmpV_ne {a b : PyData} : cmpV .NotEq a b = if SeqAt.shaped a && SeqAt.shaped b then some (!PyData.eqv a b) else none := rfl
theorem cmpV_eq {a b : PyData} : cmpV .Eq a b = if SeqAt.shaped a && SeqAt.shaped b then some (PyData.eqv a b) else none := rfl
theorem cmpLt {a b : Int} : cmpV .Lt (.int a) (.int b) = some (decide (a < b)) := rfl
theorem cmpGt {a b : Int} : cmpV .Gt (.int a) (.int b) = some (decide (b < a)) := rfl
theorem cmpLe {a b : Int} : cmpV .LtE (.int a) (.int b) = some (decide (a ≤ b)) := rfl
theorem cmpGe {a b : Int} : cmpV .GtE (.int a) (.int b) = some (decide (b ≤ a)) := rfl
theorem eqvAll_ints : ∀ (a b : List Int), PyData.eqvAll (a.map .int) (b.map .int) = decide (a = b)
  | [], [] => by simp [PyData.eqvAll]
  | [], _ :: _ => by simp [PyData.eqvAll]
  | _ :: _, [] => by simp [PyData.eqvAll]
  | x :: a, y :: b => by
    simp only [List.map_cons, PyData.eqvAll, PyData.eqv, eqvAll_ints a b, List.cons.injEq]
    by_cases h : x = y <;> by_cases h2 : a = b <;> simp [h, h2]
theorem canAll_ints : ∀ (a : List Int), PyData.canLayAll0 (a.map .int) = true
  | [] => rfl
  | x :: a => by simp only [List.map_cons, PyData.canLayAll0, PyData.canLay0, canAll_ints a, Bool.and_self]
theorem depthAll_ints : ∀ (a : List Int), PyData.depthAll (a.map .int) = 0
  | [] => rfl
  | x :: a => by simp [PyData.depthAll, PyData.depth, depthAll_ints a]
theorem shaped_L (a : List Int) : SeqAt.shaped (L a) = true := by
  simp [SeqAt.shaped, PyData.canLay0, PyData.depth, canAll_ints, depthAll_ints]
theorem shaped_I (a : Int) : SeqAt.shaped (.int a) = true := by
  simp [SeqAt.shaped, PyData.canLay0, PyData.depth]
theorem cmpEqL {a b : List Int} : cmpV .Eq (L a) (L b) = some (decide (a = b)) := by
  show (if SeqAt.shaped (L a) && SeqAt.shaped (L b) then some (PyData.eqv (L a) (L b)) else none) = _
  rw [shaped_L, shaped_L, Bool.and_self, if_pos rfl]; exact congrArg some (eqvAll_ints a b)
theorem cmpNeL {a b : List Int} : cmpV .NotEq (L a) (L b) = some (!decide (a = b)) := by
  show (if SeqAt.shaped (L a) && SeqAt.shaped (L b) then some (!PyData.eqv (L a) (L b)) else none) = _
  rw [shaped_L, shaped_L, Bool.and_self, if_pos rfl]; exact congrArg (fun b => some (!b)) (eqvAll_ints a b)
theorem cmpEqI {a b : Int} : cmpV .Eq (.int a) (.int b) = some (decide (a = b)) := by
  show (if SeqAt.shaped (.int a) && SeqAt.shaped (.int b) then some (a == b) else none) = _
  rw [shaped_I, shaped_I, Bool.and_self, if_pos rfl]; rfl
theorem cmpNeI {a b : Int} : cmpV .NotEq (.int a) (.int b) = some (!decide (a = b)) := by
  show (if SeqAt.shaped (.int a) && SeqAt.shaped (.int b) then some (!(a == b)) else none) = _
  rw [shaped_I, shaped_I, Bool.and_self, if_pos rfl]; rfl
theorem small_of {a : Int} (h : -1000000 < a ∧ a < 1000000) : smallI a = true := smallI_iff.mpr (by lia)
theorem small_lit : (smallI 1 = true) ∧ smallI 2 = true ∧ smallI 1000 = true ∧ smallI 0 = true ∧ smallI 3 = true ∧ smallI 6 = true := by decide

/-! the evaluator's equations, with nothing computed under a binder -/
noncomputable def valO (o : Option Slot) : Option PyData := o.bind valS
noncomputable def isB (f : Str) : Bool := f == "len" || (f == "range" || f == "enumerate")
theorem isB_of {f : Str} (h : isB f = false) : f ≠ "len" ∧ f ≠ "range" ∧ f ≠ "enumerate" := by
  unfold isB at h
  refine ⟨fun e => ?_, fun e => ?_, fun e => ?_⟩ <;> subst e <;> revert h <;> decide
section
variable {O : Orc} {σ : Sto} {c : Bool}
theorem bind2_some {α β γ : Type} {f : α → β → Option γ} {x : α} {y : β} : bind2 f (some x) (some y) = f x y := rfl
theorem valO_val {d : PyData} : valO (some (.val d)) = some d := rfl
theorem negV_int {i : Int} : negV (.int i) = some (.int (-i)) := rfl
theorem cmpB_eq {op : CmpOp} {a b : PyData} : cmpB op a b = (cmpV op a b).map .bool := rfl
theorem consO_eq {α : Type} {d : α} {ds : List α} : consO d ds = some (d :: ds) := rfl
theorem ite_t {α : Type} {x y : Option α} : iteO (some true) x y = x := rfl
theorem ite_f {α : Type} {x y : Option α} : iteO (some false) x y = y := rfl
theorem lenV_list {xs : List PyData} : lenV (.list xs) = if lenOk xs.length then some (.int xs.length) else none := rfl
theorem enumV_list {xs : List PyData} : enumV [.list xs] = some (.list (enumL 0 xs)) := rfl
theorem takeV_list {xs : List PyData} {k : Int} : takeV (.list xs) (.int k) = if 0 ≤ k ∧ smallI k = true ∧ lenOk xs.length = true then some (.list (xs.take k.toNat)) else none := rfl
theorem dropV_list {xs : List PyData} {k : Int} : dropV (.list xs) (.int k) = if 0 ≤ k ∧ smallI k = true ∧ lenOk xs.length = true then some (.list (xs.drop k.toNat)) else none := rfl
theorem revV_list {xs : List PyData} {k : Int} : revV (.list xs) (.int k) = if k = -1 ∧ lenOk xs.length = true then some (.list xs.reverse) else none := rfl
theorem okLV_eq {xs : List PyData} : okLV xs = if lenOk xs.length then some (.list xs) else none := rfl
theorem items_list {xs : List PyData} : itemsOf (.list xs) = some xs := rfl
theorem items_tup {xs : List PyData} : itemsOf (.tuple xs) = some xs := rfl
theorem freeS_free {y : Str} : freeS σ y .free = (valO (σ y)).map .val := rfl
theorem ev_int {i : Int} {k : Nat} {p : Pos} : evE O (.Constant (.int i) k p) c σ = some (.int i) := rfl
theorem ev_tf {i : Bool} {k : Nat} {p : Pos} : evE O (.Constant (.bool i) k p) c σ = some (.bool i) := rfl
theorem ev_none {k : Nat} {p : Pos} : evE O (.Constant .none k p) c σ = some .none := rfl
theorem ev_name {x : Str} {p : Pos} : evE O (.Name x p) c σ = valO (σ x) := rfl
theorem ev_bin {l r : Expr} {op : Operator} {p : Pos} : evE O (.BinOp l op r p) c σ = bind2 (binV op) (evE O l false σ) (evE O r false σ) := rfl
theorem ev_neg {x : Expr} {p : Pos} : evE O (.UnaryOp .USub x p) c σ = (evE O x false σ).bind negV := rfl
theorem ev_ite {t b o : Expr} {p : Pos} : evE O (.IfExp t b o p) c σ = iteO (evT O t σ) (evE O b false σ) (evE O o false σ) := rfl
theorem one_el {e : Expr} : (evL O [e] σ).bind oneOf = evE O e false σ := by
  show (bind2 consO (evE O e false σ) (some [])).bind oneOf = _
  cases evE O e false σ <;> rfl
theorem ev_cmp {l r : Expr} {op : CmpOp} {p : Pos} : evE O (.Compare l [op] [r] p) c σ = bind2 (cmpB op) (evE O l false σ) (evE O r false σ) := by
  show bind2 (cmpB op) (evE O l false σ) ((evL O [r] σ).bind oneOf) = _
  rw [one_el]
theorem ev_and {vs : List Expr} {op : BoolOp} {p : Pos} : evE O (.BoolOp op vs p) c σ = (evBs O op vs σ).map .bool := rfl
theorem ev_list {es : List Expr} {p : Pos} : evE O (.List es p) c σ = (evL O es σ).map .list := rfl
theorem ev_tup {es : List Expr} {k : Nat} {p : Pos} : evE O (.Tuple es k p) c σ = (evL O es σ).map .tuple := rfl
theorem ev_comp {e : Expr} {gs : List Comprehension} {sc : Scope} {p : Pos} : evE O (.ListComp e gs sc p) c σ = (evC O gs (evE O e false) sc σ).bind okLV := rfl
/-- what is looked into -/
noncomputable def evB (O : Orc) (b : Expr) (σ : Sto) : Option PyData := evB' b σ (evE O b false σ)
theorem evB_name {x : Str} {p : Pos} : evB O (.Name x p) σ = (σ x).map Slot.data := rfl
theorem evB_sub {b i : Expr} {p : Pos} : evB O (.Subscript b i p) σ = evE O (.Subscript b i p) false σ := rfl
theorem evB_call {f : Expr} {as : List Expr} {ks : List Keyword} {p : Pos} : evB O (.Call f as ks p) σ = evE O (.Call f as ks p) false σ := rfl
theorem evB_list {es : List Expr} {p : Pos} : evB O (.List es p) σ = evE O (.List es p) false σ := rfl
theorem evB_comp {e : Expr} {gs : List Comprehension} {sc : Scope} {p : Pos} : evB O (.ListComp e gs sc p) σ = evE O (.ListComp e gs sc p) false σ := rfl
theorem rdV_eq {x : Str} : rdV σ x = valO (σ x) := rfl
theorem ix_name {b : Expr} {x : Str} {q p : Pos} : evE O (.Subscript b (.Name x q) p) c σ = bind2 idxV (evB O b σ) (evE O (.Name x q) false σ) := rfl
theorem ix_int {b : Expr} {x : Const} {k : Nat} {q p : Pos} : evE O (.Subscript b (.Constant x k q) p) c σ = bind2 idxV (evB O b σ) (evE O (.Constant x k q) false σ) := rfl
theorem ix_neg {b x : Expr} {op : UnaryOp} {q p : Pos} : evE O (.Subscript b (.UnaryOp op x q) p) c σ = bind2 idxV (evB O b σ) (evE O (.UnaryOp op x q) false σ) := rfl
theorem ix_bin {b x y : Expr} {op : Operator} {q p : Pos} : evE O (.Subscript b (.BinOp x op y q) p) c σ = bind2 idxV (evB O b σ) (evE O (.BinOp x op y q) false σ) := rfl
theorem sl_hi {b h : Expr} {q p : Pos} : evE O (.Subscript b (.Slice none (some h) none q) p) c σ = bind2 takeV (evB O b σ) (evE O h false σ) := rfl
theorem sl_lo {b h : Expr} {q p : Pos} : evE O (.Subscript b (.Slice (some h) none none q) p) c σ = bind2 dropV (evB O b σ) (evE O h false σ) := rfl
theorem sl_st {b h : Expr} {q p : Pos} : evE O (.Subscript b (.Slice none none (some h) q) p) c σ = bind2 revV (evB O b σ) (evE O h false σ) := rfl
theorem ev_call {f : Str} {as : List Expr} {q p : Pos} (h : isB f = false) : evE O (.Call (.Name f q) as [] p) c σ = (evL O as σ).bind (O f) := by
  (refine e0_3 ?_ (isB_of h); intro h1 h2 h3)
  show callV O c f (evL O as σ) (evLen O as σ) = _
  unfold callV
  rw [if_neg h1, if_neg h2, if_neg h3]
theorem ev_len {a : Expr} {q p : Pos} : evE O (.Call (.Name "len" q) [a] [] p) c σ = (evB O a σ).bind lenV := rfl
theorem ev_range {as : List Expr} {q p : Pos} : evE O (.Call (.Name "range" q) as [] p) true σ = ((evL O as σ).bind rangeV).map .list := rfl
theorem rangeV1 {a : Int} : rangeV [.int a] = if smallI a then some (rangeL 0 a 1) else none := rfl
theorem rangeV2 {a b : Int} : rangeV [.int a, .int b] = if smallI a && smallI b then some (rangeL a b 1) else none := rfl
theorem rangeV3 {a b c : Int} : rangeV [.int a, .int b, .int c] = if smallI a && (smallI b && (decide (c ≠ 0) && (decide (-1000 ≤ c) && decide (c ≤ 1000)))) then some (rangeL a b c) else none := rfl
theorem ev_enum {as : List Expr} {q p : Pos} : evE O (.Call (.Name "enumerate" q) as [] p) true σ = (evL O as σ).bind enumV := rfl
theorem el_nil : evL O [] σ = some [] := rfl
theorem el_cons {e : Expr} {r : List Expr} : evL O (e :: r) σ = bind2 consO (evE O e false σ) (evL O r σ) := rfl
theorem et_cmp {l r : Expr} {op : CmpOp} {p : Pos} : evT O (.Compare l [op] [r] p) σ = bind2 (cmpV op) (evE O l false σ) (evE O r false σ) := by
  show bind2 (cmpV op) (evE O l false σ) ((evL O [r] σ).bind oneOf) = _
  rw [one_el]
theorem et_not {x : Expr} {p : Pos} : evT O (.UnaryOp .Not x p) σ = (evT O x σ).map (!·) := rfl
theorem et_and {vs : List Expr} {op : BoolOp} {p : Pos} : evT O (.BoolOp op vs p) σ = evTs O op vs σ := rfl
theorem et_call {f : Str} {as : List Expr} {q p : Pos} (h : isB f = false) : evT O (.Call (.Name f q) as [] p) σ = ((evL O as σ).bind (O f)).bind boolOf := by
  (refine e0_3 ?_ (isB_of h); intro h1 h2 h3)
  show (if f = "len" ∨ f = "range" ∨ f = "enumerate" then none else ((evL O as σ).bind (O f)).bind boolOf) = _
  rw [if_neg (by rintro (h | h | h) <;> contradiction)]
noncomputable def andO (x y : Option Bool) : Option Bool := x.bind fun b => boolQ .And b y
noncomputable def orO (x y : Option Bool) : Option Bool := x.bind fun b => boolQ .Or b y
theorem andO_t {y : Option Bool} : andO (some true) y = y := rfl
theorem andO_f {y : Option Bool} : andO (some false) y = some false := rfl
theorem orO_t {y : Option Bool} : orO (some true) y = some true := rfl
theorem orO_f {y : Option Bool} : orO (some false) y = y := rfl
theorem ts_nil {op : BoolOp} : evTs O op [] σ = some (op == .And) := rfl
theorem ts_and {x : Expr} {r : List Expr} : evTs O .And (x :: r) σ = andO (evT O x σ) (evTs O .And r σ) := rfl
theorem ts_or {x : Expr} {r : List Expr} : evTs O .Or (x :: r) σ = orO (evT O x σ) (evTs O .Or r σ) := rfl
theorem bs_one {op : BoolOp} {x : Expr} : evBs O op [x] σ = (evE O x false σ).bind boolOf := by
  show ((evE O x false σ).bind boolOf).bind some = _
  cases (evE O x false σ).bind boolOf <;> rfl
theorem bs_and {x y : Expr} {r : List Expr} : evBs O .And (x :: y :: r) σ = andO ((evE O x false σ).bind boolOf) (evBs O .And (y :: r) σ) := rfl
theorem bs_or {x y : Expr} {r : List Expr} : evBs O .Or (x :: y :: r) σ = orO ((evE O x false σ).bind boolOf) (evBs O .Or (y :: r) σ) := rfl
theorem compB_list {t : Expr} {f : Sto → Option Bool} {g : Sto → Option (List PyData)} {τ : Sto} {xs : List PyData} : compB t f g τ (some (.list xs)) = compItems t f g τ xs := rfl
theorem compB_tup {t : Expr} {f : Sto → Option Bool} {g : Sto → Option (List PyData)} {τ : Sto} {xs : List PyData} : compB t f g τ (some (.tuple xs)) = compItems t f g τ xs := rfl
theorem ec_cons {t i : Expr} {ifs : List Expr} {as : Int} {gs : List Comprehension} {elt : Sto → Option PyData} {sc : Scope} : evC O (⟨t, i, ifs, as⟩ :: gs) elt sc σ = compB t (evTs O .And ifs) (evG O gs elt) (compSto sc σ) (evE O i true σ) := rfl
theorem eg_cons {t i : Expr} {ifs : List Expr} {as : Int} {gs : List Comprehension} {elt : Sto → Option PyData} : evG O (⟨t, i, ifs, as⟩ :: gs) elt σ = compB t (evTs O .And ifs) (evG O gs elt) σ (evE O i true σ) := rfl
theorem eg_nil {elt : Sto → Option PyData} : evG O [] elt σ = (elt σ).map ([·]) := rfl
/-! statements -/
variable {M : List Str} {fuel : Nat}
theorem xss_nil : exSs O M fuel [] σ = some (.next, σ) := rfl
theorem xss_cons {s : Stmt} {r : List Stmt} : exSs O M fuel (s :: r) σ = (exS O M fuel s σ).bind (contF (exSs O M fuel r)) := rfl
theorem contF_next {k : Sto → Option (Fl × Sto)} : contF k (.next, σ) = k σ := rfl
theorem stoS_some {x : Str} {s : Slot} : stoS σ x (some s) = some (.next, setS σ x s) := rfl
theorem xs_name {x : Str} {v : Expr} {q p : Pos} : exS O M fuel (.Assign [.Name x q] v p) σ = stoS σ x (slotV O (M.contains x) v σ) := rfl
noncomputable def stoTs (σ : Sto) (xs : Option (List Str)) (o : Option (List Slot)) : Option (Fl × Sto) := xs.bind fun xs => o.map fun ss => (.next, setAllS σ xs ss)
theorem stoTs_some {xs : List Str} {ss : List Slot} : stoTs σ (some xs) (some ss) = some (.next, setAllS σ xs ss) := rfl
theorem xs_ret {e : Expr} {p : Pos} : exS O M fuel (.Return (some e) p) σ = (evE O e false (relS σ)).map fun d => (.ret d, σ) := rfl
theorem slotV_own {e : Expr} : slotV O true e σ = (freshV O e σ).map .own := rfl
theorem slotV_val {e : Expr} : slotV O false e σ = (evE O e false σ).map .val := rfl
theorem sv_nil : slotsV O M [] [] σ = some [] := rfl
theorem sv_cons {x : Str} {xs : List Str} {e : Expr} {es : List Expr} : slotsV O M (x :: xs) (e :: es) σ = bind2 consO (slotV O (M.contains x) e σ) (slotsV O M xs es σ) := rfl
theorem nm_nil : namesOf [] = some [] := rfl
theorem nm_cons {x : Str} {p : Pos} {r : List Expr} : namesOf (.Name x p :: r) = (namesOf r).map (x :: ·) := rfl
theorem asgT_eq {vs : List Expr} {xs : List Str} {k : Nat} {q : Pos} : asgT O M (.Tuple vs k q) σ xs = stoTs σ (some xs) (slotsV O M xs vs σ) := rfl
theorem xs_tup {ts vs : List Expr} {k k2 : Nat} {q q2 p : Pos} : exS O M fuel (.Assign [.Tuple ts k q] (.Tuple vs k2 q2) p) σ = (namesOf ts).bind (asgT O M (.Tuple vs k2 q2) σ) := rfl
noncomputable def asgE (σ : Sto) (o : Option PyData) (xs : List Str) : Option (Fl × Sto) := (o.bind tupOfD).bind fun ds => if xs.length = ds.length then some (.next, setAllS σ xs (ds.map .val)) else none
theorem asgE_tup {xs : List Str} {ds : List PyData} : asgE σ (some (.tuple ds)) xs = if xs.length = ds.length then some (.next, setAllS σ xs (ds.map .val)) else none := rfl
theorem xs_tcall {ts as : List Expr} {f : Expr} {ks : List Keyword} {k : Nat} {q q2 p : Pos} : exS O M fuel (.Assign [.Tuple ts k q] (.Call f as ks q2) p) σ = (namesOf ts).bind (asgE σ (evE O (.Call f as ks q2) false σ)) := rfl
noncomputable def setO1 (σ : Sto) (x : Str) (s : Option Slot) (d k : PyData) : Option (Fl × Sto) := bind2 (fun xs k => if 0 ≤ k ∧ k < xs.length ∧ lenOk xs.length = true then some (.next, setS σ x (.own (xs.set k.toNat d))) else none) (s.bind ownS) (intOf k)
theorem setO_own {x : Str} {xs : List PyData} {d : PyData} {k : Int} : setO1 σ x (some (.own xs)) d (.int k) = if 0 ≤ k ∧ k < xs.length ∧ lenOk xs.length = true then some (.next, setS σ x (.own (xs.set k.toNat d))) else none := rfl
theorem xs_set {x : Str} {i v : Expr} {q q2 p : Pos} : exS O M fuel (.Assign [.Subscript (.Name x q) i q2] v p) σ = bind2 (setO1 σ x (σ x)) (evE O v false σ) (evE O i false σ) := rfl
noncomputable def appO (σ : Sto) (x : Str) (s : Option Slot) (d : PyData) : Option (Fl × Sto) := (s.bind ownS).bind fun xs => if lenOk (xs.length + 1) then some (.next, setS σ x (.own (xs ++ [d]))) else none
noncomputable def extO (σ : Sto) (x : Str) (s : Option Slot) (d : PyData) : Option (Fl × Sto) := (s.bind ownS).bind fun xs => (listOfD d).bind fun ys => if lenOk (xs.length + ys.length) then some (.next, setS σ x (.own (xs ++ ys))) else none
theorem appO_own {x : Str} {xs : List PyData} {d : PyData} : appO σ x (some (.own xs)) d = if lenOk (xs.length + 1) then some (.next, setS σ x (.own (xs ++ [d]))) else none := rfl
theorem extO_own {x : Str} {xs ys : List PyData} : extO σ x (some (.own xs)) (.list ys) = if lenOk (xs.length + ys.length) then some (.next, setS σ x (.own (xs ++ ys))) else none := rfl
theorem bind2_swap {α β γ : Type} {f : α → β → Option γ} {x : Option α} {y : Option β} : bind2 f x y = y.bind fun b => x.bind fun a => f a b := by
  cases x <;> cases y <;> rfl
theorem xs_app {x : Str} {a : Expr} {q q2 q3 p : Pos} : exS O M fuel (.Expr (.Call (.Attribute (.Name x q) "append" q2) [a] [] q3) p) σ = (evE O a false σ).bind (appO σ x (σ x)) := by
  show bind2 (mthO σ x "append") ((σ x).bind ownS) ((evL O [a] σ).bind oneOf) = _
  rw [one_el, bind2_swap]; rfl
theorem xs_ext {x : Str} {a : Expr} {q q2 q3 p : Pos} : exS O M fuel (.Expr (.Call (.Attribute (.Name x q) "extend" q2) [a] [] q3) p) σ = (evE O a false σ).bind (extO σ x (σ x)) := by
  show bind2 (mthO σ x "extend") ((σ x).bind ownS) ((evL O [a] σ).bind oneOf) = _
  rw [one_el, bind2_swap]; rfl
theorem repV_int {xs : List PyData} {k : Int} : repV xs (.int k) = if smallI k = true ∧ lenOk (xs.length * k.toNat) = true then some (List.replicate k.toNat xs).flatten else none := rfl
theorem okL2_eq {xs : List PyData} : okL2 xs = if lenOk xs.length then some xs else none := rfl
theorem listOfD_list {xs : List PyData} : listOfD (.list xs) = some xs := rfl
theorem boolOf_bool {b : Bool} : boolOf (.bool b) = some b := rfl
theorem fr_mul {es : List Expr} {k : Expr} {q p : Pos} : freshV O (.BinOp (.List es q) .Mult k p) σ = bind2 repV (evL O es σ) (evE O k false σ) := rfl
theorem fr_copy {a : Expr} {q p : Pos} : freshV O (.Call (.Name "list" q) [a] [] p) σ = ((evE O a false σ).bind listOfD).bind okL2 := by
  show (((evL O [a] σ).bind oneOf).bind listOfD).bind okL2 = _
  rw [one_el]
theorem fr_list {es : List Expr} {p : Pos} : freshV O (.List es p) σ = evL O es σ := rfl
end

theorem run9 (O : Orc) (a : List Int) (p : Int) (hp : 0 < p) (hl : a.length ≤ 1000) : runF 9 O [L a, .int p] = some (L (a.map fun x => (-x) % p)) := by
  have hb : psOf (fdef 9) = [("a" : Str), "p"] := by rfl
  unfold runF
  rw [hb]
  conv => lhs; arg 1; arg 4; whnf
  show retOf ((exS O _ 1000 (.Return (some _) _) _).bind _) = _
  simp only [xs_ret, ev_comp, ec_cons, compB_list, ev_name, relS, setAllV, setS, str_inj, String.reduceEq, ↓reduceIte, eq_self, Option.map_some, valO_val, Slot.data, Option.bind_some]
  rw [compItems_all (fun d => match d with | .int x => .int ((-x) % p) | d => d)]
  · have h2 : lenOk ((a.map PyData.int).map fun d => match d with | .int x => PyData.int ((-x) % p) | d => d).length = true := lenOk_of (by simp; lia)
    simp only [Option.bind_some, okLV_eq, h2, ↓reduceIte, Option.map_some]
    show some (PyData.list _) = some (PyData.list _)
    rw [List.map_map, List.map_map]; rfl
  · intro d hd
    (refine e1_2 ?_ (List.mem_map.mp hd); intro x hx zz1; subst zz1)
    refine ⟨_, rfl, rfl, ?_⟩
    simp only [eg_nil, ev_bin, ev_neg, ev_name, setS, relS, valO_val, str_inj, String.reduceEq, ↓reduceIte, eq_self, compSto, List.lookup_cons, str_beq, String.reduceBEq, Option.bind_some, freeS_free, Option.map_some, Slot.data, negV_int, bind2_some, binMod hp, setAllV]
end Mine
end
noncomputable section
open PySem PySem.W PyProof.Rows PySem.Calls PySem.Spec
set_option Elab.async false
set_option linter.all false
namespace Mine

noncomputable def trim : List Int → List Int
  | [] => []
  | x :: t => match trim t with
    | [] => if x = 0 then [] else [x]
    | y :: r => x :: y :: r
theorem trim_cons (x : Int) (t : List Int) : trim (x :: t) = if trim t = [] ∧ x = 0 then [] else x :: trim t := by
  simp only [trim]
  split
  · rename_i h; rw [h]; by_cases hx : x = 0 <;> simp [hx]
  · rename_i y r h; rw [h]; simp
theorem trim_snoc_zero : ∀ (l : List Int), trim (l ++ [0]) = trim l
  | [] => by simp [trim]
  | x :: t => by rw [List.cons_append, trim_cons, trim_cons, trim_snoc_zero t]
theorem trim_snoc_ne {x : Int} (hx : x ≠ 0) : ∀ (l : List Int), trim (l ++ [x]) = l ++ [x]
  | [] => by simp [trim, hx]
  | y :: t => by
    rw [List.cons_append, trim_cons, trim_snoc_ne hx t]
    simp
theorem trim_length : ∀ (l : List Int), (trim l).length ≤ l.length
  | [] => Nat.le_refl _
  | x :: t => by
    rw [trim_cons]
    split
    · simp
    · simpa using trim_length t

section
variable {O : Orc} {M : List Str} {f : Nat} {σ : Sto} {R : Option PyData}
theorem go_step {st : Stmt} {r : List Stmt} {σ1 : Sto} (h : exS O M f st σ = some (.next, σ1)) (h2 : retOf (exSs O M f r σ1) = R) : retOf (exSs O M f (st :: r) σ) = R := by
  show retOf ((exS O M f st σ).bind _) = R
  rw [h]; exact h2
theorem go_ret {st : Stmt} {r : List Stmt} {σ1 : Sto} {d : PyData} (h : exS O M f st σ = some (.ret d, σ1)) : retOf (exSs O M f (st :: r) σ) = some d := by
  show retOf ((exS O M f st σ).bind _) = _
  rw [h]; rfl
theorem go_retE {e : Expr} {p : Pos} {r : List Stmt} {d : PyData} (h : evE O e false (relS σ) = some d) : retOf (exSs O M f (.Return (some e) p :: r) σ) = some d :=
  go_ret (σ1 := σ) (by rw [xs_ret, h]; rfl)
theorem whileF_run {t : Sto → Option Bool} {b : Sto → Option (Fl × Sto)} (I : Sto → Nat → Prop) (Post : Sto → Prop)
    (h : ∀ σ n, I σ n → (t σ = some false ∧ Post σ) ∨ (t σ = some true ∧ ∃ σ' m, b σ = some (.next, σ') ∧ m < n ∧ I σ' m)) : ∀ fuel σ n, I σ n → n < fuel → ∃ σ', whileF t b fuel σ = some (.next, σ') ∧ Post σ'
  | 0, _, _, _, hl => absurd hl (Nat.not_lt_zero _)
  | fuel + 1, σ, n, hI, hl => by
    rcases h σ n hI with ⟨h1, h2⟩ | ⟨h1, σ', m, h2, h3, h4⟩
    · exact ⟨σ, by show (t σ).bind _ = _; rw [h1]; rfl, h2⟩
    · (refine e1_2 ?_ (whileF_run I Post h fuel σ' m h4 (by lia)); intro σ'' h5 h6)
      exact ⟨σ'', by show (t σ).bind _ = _; rw [h1]; show (b σ).bind _ = _; rw [h2]; exact h5, h6⟩
theorem go_while {t : Expr} {b r : List Stmt} {p : Pos} {n : Nat} (I : Sto → Nat → Prop) (Post : Sto → Prop)
    (h : ∀ σ n, I σ n → (evT O t σ = some false ∧ Post σ) ∨ (evT O t σ = some true ∧ ∃ σ' m, exSs O M f b σ = some (.next, σ') ∧ m < n ∧ I σ' m)) (h0 : I σ n) (hn : n < f)
    (h2 : ∀ σ', Post σ' → retOf (exSs O M f r σ') = R) : retOf (exSs O M f (.While t b [] p :: r) σ) = R := by
  (refine e1_2 ?_ (whileF_run I Post h f σ n h0 hn); intro σ' h3 h4)
  exact go_step (σ1 := σ') h3 (h2 σ' h4)
theorem forF_run {t : Expr} {b : Sto → Option (Fl × Sto)} (items : List PyData) (I : Nat → Sto → Prop)
    (h : ∀ k d σ, items[k]? = some d → I k σ → ∃ σ1 σ', bindT t d σ = some σ1 ∧ b σ1 = some (.next, σ') ∧ I (k + 1) σ') : ∀ (l : List PyData) (k : Nat) (σ : Sto), items.drop k = l → k ≤ items.length → I k σ → ∃ σ', forF t b l σ = some (.next, σ') ∧ I items.length σ'
  | [], k, σ, hl, hle, hI => by
    have : items.length ≤ k := List.drop_eq_nil_iff.mp hl
    have hk : k = items.length := by lia
    exact ⟨σ, rfl, hk ▸ hI⟩
  | d :: l, k, σ, hl, hle, hI => by
    have hk : items[k]? = some d := by
      have := congrArg List.head? hl
      simpa [List.head?_drop] using this
    (refine e2_3 ?_ (h k d σ hk hI); intro σ1 σ' h1 h2 h3)
    have hl' : items.drop (k + 1) = l := by rw [← List.tail_drop, hl]; rfl
    (refine e1_2 ?_ (forF_run items I h l (k + 1) σ' hl' (by have := (List.getElem?_eq_some_iff.mp hk).1; lia) h3); intro σ'' h4 h5)
    exact ⟨σ'', by show (bindT t d σ).bind _ = _; rw [h1]; show (b σ1).bind _ = _; rw [h2]; exact h4, h5⟩
theorem go_for {t i : Expr} {b r : List Stmt} {p : Pos} {items : List PyData} (hi : forItems O i σ = some items) (I : Nat → Sto → Prop) (h0 : I 0 σ)
    (h : ∀ k d σ, items[k]? = some d → I k σ → ∃ σ1 σ', bindT t d σ = some σ1 ∧ exSs O M f b σ1 = some (.next, σ') ∧ I (k + 1) σ')
    (h2 : ∀ σ', I items.length σ' → retOf (exSs O M f r σ') = R) : retOf (exSs O M f (.For t i b [] p :: r) σ) = R := by
  (refine e1_2 ?_ (forF_run items I h items 0 σ rfl (Nat.zero_le _) h0); intro σ' h3 h4)
  exact go_step (σ1 := σ') (by show (forItems O i σ).bind _ = _; rw [hi]; exact h3) (h2 σ' h4)
end

theorem run4 (O : Orc) (a : List Int) (hl : a.length < 1000) (hO : ∀ xs : List Int, xs.length < 1000 → O "list" [L xs] = some (L xs)) : runF 4 O [L a] = some (L (trim a)) := by
  have hb : psOf (fdef 4) = [("a" : Str)] := by rfl
  have hlo := lenOk_of (show a.length ≤ 100000 by lia)
  unfold runF
  rw [hb, show ownsAt 4 = [] from rfl]
  conv => lhs; arg 1; arg 4; whnf
  refine go_step (by simp [bind2_some, compB_tup, valO_val, negV_int, cmpB_eq, ite_t, ite_f, lenV_list, enumV_list, takeV_list, dropV_list, revV_list, okLV_eq, okL2_eq, consO_eq, compB_list, asgT_eq, asgE_tup, setO_own, appO_own, extO_own, repV_int, stoS_some, stoTs_some, andO_t, andO_f, orO_t, orO_f, ev_int, ev_tf, ev_none, ev_name, ev_bin, ev_neg, ev_ite, ev_cmp, ev_and, ev_list, ev_tup, ev_comp, evB_name, evB_sub, evB_call, evB_list, evB_comp, rdV_eq, ix_name, ix_int, ix_neg, ix_bin, sl_hi, sl_lo, sl_st, ev_call, ev_len, ev_range, ev_enum, isB, str_beq, String.reduceBEq, Bool.or_false, Bool.or_self, eg_nil, el_nil, el_cons, et_cmp, et_not, et_and, et_call, ts_nil, ts_and, ts_or, bs_one, bs_and, bs_or, ec_cons, eg_cons, xs_name, xs_ret, xs_tup, xs_tcall, xs_set, xs_app, xs_ext, slotV_own, slotV_val, sv_nil, sv_cons, fr_list, fr_mul, fr_copy, List.contains_nil, List.contains_cons, setAllV, setS, Slot.data, hlo]; rfl) ?_
  refine go_while (fun σ n => σ "a" = some (.val (L a)) ∧ n ≤ a.length ∧ σ "many" = some (.val (.int (n : Nat))) ∧ trim (a.take n) = trim a)
    (fun σ => σ "a" = some (.val (L a)) ∧ ∃ n : Nat, n ≤ a.length ∧ σ "many" = some (.val (.int (n : Nat))) ∧ a.take n = trim a) ?_ (n := a.length) ⟨by simp [setS, str_inj], Nat.le_refl _, by simp [setS], by simp⟩ hl ?_
  · (intro σ n zz1; refine e0_4 ?_ zz1; clear zz1; intro ha hk hm ht)
    cases n with
    | zero =>
      left
      refine ⟨by simp [bind2_some, compB_tup, valO_val, negV_int, cmpB_eq, ite_t, ite_f, lenV_list, enumV_list, takeV_list, dropV_list, revV_list, okLV_eq, okL2_eq, consO_eq, compB_list, asgT_eq, asgE_tup, setO_own, appO_own, extO_own, repV_int, stoS_some, stoTs_some, andO_t, andO_f, orO_t, orO_f, ev_int, ev_tf, ev_none, ev_name, ev_bin, ev_neg, ev_ite, ev_cmp, ev_and, ev_list, ev_tup, ev_comp, evB_name, evB_sub, evB_call, evB_list, evB_comp, rdV_eq, ix_name, ix_int, ix_neg, ix_bin, sl_hi, sl_lo, sl_st, ev_call, ev_len, ev_range, ev_enum, isB, str_beq, String.reduceBEq, Bool.or_false, Bool.or_self, eg_nil, el_nil, el_cons, et_cmp, et_not, et_and, et_call, ts_nil, ts_and, ts_or, bs_one, bs_and, bs_or, ec_cons, eg_cons, xs_name, xs_ret, xs_tup, xs_tcall, xs_set, xs_app, xs_ext, slotV_own, slotV_val, sv_nil, sv_cons, fr_list, fr_mul, fr_copy, List.contains_nil, List.contains_cons, binSub, cmpGt, hm], ha, 0, Nat.zero_le _, hm, ?_⟩
      rw [← ht]; simp [trim]
    | succ k =>
      have hg := idx_nat (a := a) (k := k) (by lia) (by lia)
      have htk : a.take (k + 1) = a.take k ++ [a.getD k 0] := by
        rw [List.take_succ]
        simp [List.getD, show k < a.length by lia]
      have e1 : (((k + 1 : Nat) : Int) - 1) = (k : Int) := by lia
      have e2 : (0 : Int) < ((k + 1 : Nat) : Int) := by lia
      by_cases hz0 : a.getD k 0 = 0
      · right
        refine ⟨?_, ?_⟩
        · simp only [bind2_some, valO_val, andO_t, ev_int, ev_name, ev_bin, evB_name, ix_bin, et_cmp, et_and, ts_nil, ts_and, Slot.data, binSub, cmpGt, cmpEqI, Option.map_some, decide_true, eq_self, ha, hm, e1, e2, hg, hz0]
          rfl
        · refine ⟨_, k, by simp only [bind2_some, valO_val, stoS_some, ev_int, ev_name, ev_bin, xs_name, slotV_val, List.contains_nil, xss_nil, xss_cons, contF_next, binSub, Option.bind_eq_bind, Option.bind_some, Option.map_some, hm, e1]; rfl, Nat.lt_succ_self _, by simp only [setS, str_inj, if_false, eq_self, String.reduceEq, ha], by lia, by simp only [setS, if_true, eq_self], ?_⟩
          rw [← ht, htk, hz0, trim_snoc_zero]
      · left
        refine ⟨?_, ha, k + 1, hk, hm, ?_⟩
        · simp only [bind2_some, valO_val, andO_t, andO_f, ev_int, ev_name, ev_bin, evB_name, ix_bin, et_cmp, et_and, ts_nil, ts_and, Slot.data, binSub, cmpGt, cmpEqI, Option.map_some, decide_true, decide_false, eq_self, ha, hm, e1, e2, hg, hz0]
        · rw [← ht, htk, trim_snoc_ne hz0]
  · (intro σ zz1; refine e0_2 ?_ zz1; clear zz1; intro ha zz2; refine e1_3 ?_ zz2; clear zz2; intro n hn hm ht)
    refine go_ret (σ1 := σ) ?_
    have h3 := hO (a.take n) (by rw [List.length_take]; lia)
    rw [ht] at h3
    have hs : smallI (n : Int) = true := small_of (by lia)
    have hn0 : (0 : Int) ≤ (n : Int) := by lia
    simp only [bind2_some, valO_val, takeV_list, consO_eq, ev_name, evB_name, sl_hi, ev_call, isB, str_beq, String.reduceBEq, Bool.or_self, el_nil, el_cons, xs_ret, relS, Slot.data, Option.bind_some, Option.map_some, ↓reduceIte, eq_self, ha, hm, hlo, hs, hn0, List.length_map, and_self, Int.toNat_natCast, ← List.map_take, ht, h3]
end Mine
end
noncomputable section
open PySem PySem.W PyProof.Rows PySem.Calls PySem.Spec
set_option Elab.async false
set_option linter.all false
namespace Mine

noncomputable def TrimOk (O : Orc) : Prop := ∀ xs : List Int, xs.length < 1000 → O "mtrim" [L xs] = some (L (trim xs))
theorem rangeL_nat (n : Nat) : rangeL 0 (n : Int) 1 = (List.range n).map fun (i : Nat) => PyData.int (i : Int) := by
  unfold rangeL Builtin.Range.rangeSize
  have : (if (0 : Int) < 1 then if (0 : Int) < (n : Int) then ((n : Int) - 0 - 1) / 1 + 1 else 0 else if (n : Int) < 0 then ((0 : Int) - n - 1) / -1 + 1 else 0).toNat = n := by
    simp
    split <;> lia
  rw [this]
  simp
theorem int_lt {k n : Nat} (h : k < n) : decide ((k : Int) < (n : Int)) = true := by simp [h]
theorem int_nlt {k n : Nat} (h : ¬ k < n) : decide ((k : Int) < (n : Int)) = false := by simp; lia

section
variable (O : Orc) (a b : List Int) (p : Int)
theorem run5 (hT : TrimOk O) (hp : 0 < p) (hl : a.length < 1000) : runF 5 O [L a, .int p] = some (L (trim (a.map fun x => x % p))) := by
  have hb : psOf (fdef 5) = [("a" : Str), "p"] := by rfl
  unfold runF
  rw [hb, show ownsAt 5 = [] from rfl]
  conv => lhs; arg 1; arg 4; whnf
  have hc := hT (a.map fun x => x % p) (by rw [List.length_map]; exact hl)
  refine go_retE ?_
  simp only [valO_val, compB_list, ev_name, ev_comp, ev_call, isB, str_beq, String.reduceBEq, Bool.or_self, el_nil, el_cons, ec_cons, setAllV, setS, relS, str_inj, Slot.data, Option.map_some, ↓reduceIte, eq_self, String.reduceEq]
  rw [compItems_all (fun d => match d with | .int x => .int (x % p) | d => d)]
  · simp only [Option.bind_some, bind2_some, okLV_eq, consO_eq, List.length_map, lenOk_of (show a.length ≤ 100000 by lia), if_true, List.map_map]
    rw [show ((fun d => match d with | .int x => .int (x % p) | d => d) ∘ PyData.int) = PyData.int ∘ (fun x => x % p) from rfl, ← List.map_map, hc]
  · intro d hd
    (refine e1_2 ?_ (List.mem_map.mp hd); intro x hx zz1; subst zz1)
    exact ⟨_, rfl, rfl, by simp only [bind2_some, valO_val, ev_name, ev_bin, rdV_eq, str_beq, String.reduceBEq, eg_nil, setS, relS, str_inj, List.lookup_cons, Slot.data, compSto, freeS_free, Option.bind_some, valO_val, Option.map_some, ↓reduceIte, eq_self, String.reduceEq, binMod hp]⟩
theorem run11 (k : Int) (hT : TrimOk O) (hp : 0 < p) (hk : smallI k = true) (hl : a.length < 1000) : runF 11 O [L a, .int k, .int p] = some (L (trim (a.map fun x => x * k % p))) := by
  have hb : psOf (fdef 11) = [("a" : Str), "number", "p"] := by rfl
  unfold runF
  rw [hb, show ownsAt 11 = [] from rfl]
  conv => lhs; arg 1; arg 4; whnf
  have hc := hT (a.map fun x => x * k % p) (by rw [List.length_map]; exact hl)
  refine go_retE ?_
  simp only [valO_val, compB_list, ev_name, ev_comp, ev_call, isB, str_beq, String.reduceBEq, Bool.or_self, el_nil, el_cons, ec_cons, setAllV, setS, relS, str_inj, Slot.data, Option.map_some, ↓reduceIte, eq_self, String.reduceEq]
  rw [compItems_all (fun d => match d with | .int x => .int (x * k % p) | d => d)]
  · simp only [Option.bind_some, bind2_some, okLV_eq, consO_eq, List.length_map, lenOk_of (show a.length ≤ 100000 by lia), if_true, List.map_map]
    rw [show ((fun d => match d with | .int x => .int (x * k % p) | d => d) ∘ PyData.int) = PyData.int ∘ (fun x => x * k % p) from rfl, ← List.map_map, hc]
  · intro d hd
    (refine e1_2 ?_ (List.mem_map.mp hd); intro x hx zz1; subst zz1)
    exact ⟨_, rfl, rfl, by simp only [bind2_some, valO_val, ev_name, ev_bin, rdV_eq, str_beq, String.reduceBEq, eg_nil, setS, relS, str_inj, List.lookup_cons, Slot.data, compSto, freeS_free, Option.bind_some, valO_val, Option.map_some, ↓reduceIte, eq_self, String.reduceEq, binMul hk, binMod hp]⟩
theorem run6 (xs : List PyData) (hl : xs.length < 1000) : runF 6 O [.list xs] = some (.int (xs.length - 1)) := by
  have hb : psOf (fdef 6) = [("a" : Str)] := by rfl
  unfold runF
  rw [hb, show ownsAt 6 = [] from rfl]
  conv => lhs; arg 1; arg 4; whnf
  refine go_retE ?_
  simp only [bind2_some, lenV_list, ev_int, ev_bin, evB_name, ev_len, setAllV, setS, relS, Slot.data, binSub, Option.bind_some, Option.map_some, ↓reduceIte, eq_self, lenOk_of (show xs.length ≤ 100000 by lia)]
theorem run7 (hl : a.length < 1000) : runF 7 O [L a] = some (.int (a.getLastD 0)) := by
  have hb : psOf (fdef 7) = [("a" : Str)] := by rfl
  have hlo := lenOk_of (show a.length ≤ 100000 by lia)
  unfold runF
  rw [hb, show ownsAt 7 = [] from rfl]
  conv => lhs; arg 1; arg 4; whnf
  refine go_retE ?_
  rcases List.eq_nil_or_concat a with rfl | ⟨a', l, rfl⟩
  · simp only [bind2_some, negV_int, lenV_list, ev_int, ev_neg, ev_ite, evB_name, ix_neg, ev_len, et_cmp, setAllV, setS, relS, Slot.data, cmpGt, Option.bind_some, Option.map_some, ↓reduceIte, eq_self, List.map_nil, List.length_nil, lenOk_of (show 0 ≤ 100000 by lia)]
    rfl
  · have h1 : (0 : Int) < ((a'.concat l).length : Nat) := by rw [List.length_concat]; lia
    simp only [List.concat_eq_append] at *
    have hi := idx_last (a := a') (l := l) (by simp at hl; lia)
    simp only [bind2_some, negV_int, ite_t, lenV_list, ev_int, ev_neg, ev_ite, evB_name, ix_neg, ev_len, et_cmp, setAllV, setS, relS, Slot.data, cmpGt, Option.bind_some, Option.map_some, decide_true, ↓reduceIte, eq_self, List.length_map, hlo, h1, hi]
    simp
theorem run10 (nb c : List Int) (h1 : O "mneg" [L b, .int p] = some (L nb)) (h2 : O "madd" [L a, L nb, .int p] = some (L c)) : runF 10 O [L a, L b, .int p] = some (L c) := by
  have hb : psOf (fdef 10) = [("a" : Str), "b", "p"] := by rfl
  unfold runF
  rw [hb, show ownsAt 10 = [] from rfl]
  conv => lhs; arg 1; arg 4; whnf
  refine go_retE ?_
  simp only [bind2_some, valO_val, consO_eq, ev_name, ev_call, isB, str_beq, String.reduceBEq, Bool.or_self, el_nil, el_cons, setAllV, setS, relS, str_inj, Slot.data, Option.bind_some, Option.map_some, ↓reduceIte, eq_self, String.reduceEq, h1, h2]
theorem run14 (q r : List Int) (h1 : O "mdivmod" [L a, L b, .int p] = some (.tuple [L q, L r])) : runF 14 O [L a, L b, .int p] = some (L r) := by
  have hb : psOf (fdef 14) = [("a" : Str), "b", "p"] := by rfl
  unfold runF
  rw [hb, show ownsAt 14 = [] from rfl]
  conv => lhs; arg 1; arg 4; whnf
  refine go_retE ?_
  simp only [bind2_some, valO_val, consO_eq, ev_int, ev_name, evB_call, ix_int, ev_call, isB, str_beq, String.reduceBEq, Bool.or_self, el_nil, el_cons, setAllV, setS, relS, str_inj, Slot.data, Option.bind_some, Option.map_some, ↓reduceIte, eq_self, String.reduceEq, h1]
  rfl
theorem run15 (q r : List Int) (h1 : O "mdivmod" [L a, L b, .int p] = some (.tuple [L q, L r])) : runF 15 O [L a, L b, .int p] = some (L q) := by
  have hb : psOf (fdef 15) = [("a" : Str), "b", "p"] := by rfl
  unfold runF
  rw [hb, show ownsAt 15 = [] from rfl]
  conv => lhs; arg 1; arg 4; whnf
  refine go_retE ?_
  simp only [bind2_some, valO_val, consO_eq, ev_int, ev_name, evB_call, ix_int, ev_call, isB, str_beq, String.reduceBEq, Bool.or_self, el_nil, el_cons, setAllV, setS, relS, str_inj, Slot.data, Option.bind_some, Option.map_some, ↓reduceIte, eq_self, String.reduceEq, h1]
  rfl
theorem run16 (l i : Int) (r : List Int) (hl : a.length < 900) (h1 : O "inverse_mod" [.int l, .int p] = some (.int i)) (h2 : O "mscale" [L (a ++ [l]), .int i, .int p] = some (L r)) : runF 16 O [L (a ++ [l]), .int p] = some (L r) := by
  have hb : psOf (fdef 16) = [("a" : Str), "p"] := by rfl
  have hlo := lenOk_of (show (a ++ [l]).length ≤ 100000 by simp; lia)
  unfold runF
  rw [hb, show ownsAt 16 = [] from rfl]
  conv => lhs; arg 1; arg 4; whnf
  refine go_retE ?_
  have h3 : (0 : Int) < ((a ++ [l]).length : Nat) := by rw [List.length_append, List.length_singleton]; lia
  have hi := idx_last (a := a) (l := l) (by lia)
  simp only [bind2_some, valO_val, negV_int, ite_t, lenV_list, consO_eq, ev_int, ev_name, ev_neg, ev_ite, ev_list, evB_name, ix_neg, ev_call, ev_len, isB, str_beq, String.reduceBEq, Bool.or_self, el_nil, el_cons, et_cmp, setAllV, setS, relS, str_inj, Slot.data, cmpGt, Option.bind_some, Option.map_some, decide_true, ↓reduceIte, eq_self, String.reduceEq, List.length_map, hlo, h3, hi, h1, h2]
theorem run16n : runF 16 O [L [], .int p] = some (L []) := by
  have hb : psOf (fdef 16) = [("a" : Str), "p"] := by rfl
  unfold runF
  rw [hb, show ownsAt 16 = [] from rfl]
  conv => lhs; arg 1; arg 4; whnf
  refine go_retE ?_
  simp only [bind2_some, valO_val, negV_int, lenV_list, consO_eq, ev_int, ev_name, ev_neg, ev_ite, ev_list, evB_name, ix_neg, ev_call, ev_len, isB, str_beq, String.reduceBEq, Bool.or_self, el_nil, el_cons, et_cmp, setAllV, setS, relS, str_inj, Slot.data, cmpGt, Option.bind_some, Option.map_some, ↓reduceIte, eq_self, String.reduceEq, List.map_nil, List.length_nil, lenOk_of (show 0 ≤ 100000 by lia)]
  rfl
theorem run21 (hl : a.length < 1000) : runF 21 O [L a] = some (.tuple [.int a.length, L a.reverse]) := by
  have hb : psOf (fdef 21) = [("a" : Str)] := by rfl
  have hlo := lenOk_of (show a.length ≤ 100000 by lia)
  unfold runF
  rw [hb, show ownsAt 21 = [] from rfl]
  conv => lhs; arg 1; arg 4; whnf
  refine go_retE ?_
  simp only [bind2_some, negV_int, lenV_list, revV_list, consO_eq, ev_int, ev_neg, ev_tup, evB_name, sl_st, ev_len, el_nil, el_cons, setAllV, setS, relS, Slot.data, Option.bind_some, Option.map_some, ↓reduceIte, eq_self, List.length_map, hlo, and_self]
  simp

theorem run8 (hT : TrimOk O) (hM : ∀ x y : Int, O "max" [.int x, .int y] = some (.int (if y > x then y else x))) (hp : 0 < p) (hl : a.length < 1000) (hl2 : b.length < 1000) :
    runF 8 O [L a, L b, .int p] = some (L (trim ((List.range (max a.length b.length)).map fun k => (a.getD k 0 + b.getD k 0) % p))) := by
  have hb : psOf (fdef 8) = [("a" : Str), "b", "p"] := by rfl
  have hlo := lenOk_of (show a.length ≤ 100000 by lia)
  have hlo2 := lenOk_of (show b.length ≤ 100000 by lia)
  unfold runF
  rw [hb, show ownsAt 8 = [("found" : Str)] from rfl]
  conv => lhs; arg 1; arg 4; whnf
  have hmx : (if (b.length : Int) > (a.length : Int) then (b.length : Int) else (a.length : Int)) = ((max a.length b.length : Nat) : Int) := by
    split <;> lia
  have hsm : smallI ((max a.length b.length : Nat) : Int) = true := small_of (by lia)
  refine go_step (σ1 := _) (by simp only [stoS_some, str_beq, String.reduceBEq, Bool.or_false, el_nil, xs_name, slotV_own, fr_list, List.contains_nil, List.contains_cons, setAllV, Option.map_some]; rfl) ?_
  refine go_for (items := (List.range (max a.length b.length)).map fun (i : Nat) => PyData.int (i : Int)) (by simp only [bind2_some, lenV_list, consO_eq, evB_name, ev_call, ev_len, ev_range, isB, str_beq, String.reduceBEq, Bool.or_self, el_nil, el_cons, setS, str_inj, Slot.data, items_list, items_tup, forItems, Option.bind_some, Option.map_some, ↓reduceIte, eq_self, String.reduceEq, List.length_map, hlo, hlo2, hM, hmx, rangeV1, rangeV2, rangeV3, hsm, rangeL_nat])
    (fun k σ => σ "a" = some (.val (L a)) ∧ σ "b" = some (.val (L b)) ∧ σ "p" = some (.val (.int p)) ∧ σ "found" = some (.own (((List.range k).map fun k => (a.getD k 0 + b.getD k 0) % p).map .int))) ?_ ?_ ?_
  · simp only [setS, str_inj, ↓reduceIte, eq_self, String.reduceEq, List.range_zero, List.map_nil, and_self]
  · (intro k d σ hd zz1; refine e0_4 ?_ zz1; clear zz1; intro ha hb hp' hf)
    have hk : k < max a.length b.length := by have := (List.getElem?_eq_some_iff.mp hd).1; simpa using this
    have hd' : d = .int (k : Int) := by
      rw [List.getElem?_map, List.getElem?_range hk] at hd; exact (Option.some.inj hd).symm
    subst hd'
    have hfl : lenOk (k + 1) = true := lenOk_of (by lia)
    refine ⟨_, setS (setS σ "at" (.val (.int k))) "found" (.own (((List.range (k + 1)).map fun k => (a.getD k 0 + b.getD k 0) % p).map .int)), rfl, ?_, ?_⟩
    · have hrs : (List.range (k + 1)).map (fun k => (a.getD k 0 + b.getD k 0) % p) = (List.range k).map (fun k => (a.getD k 0 + b.getD k 0) % p) ++ [(a.getD k 0 + b.getD k 0) % p] := by
        rw [List.range_succ, List.map_append]; rfl
      rw [hrs, List.map_append]
      by_cases h1 : k < a.length <;> by_cases h2 : k < b.length
      · simp only [bind2_some, valO_val, ite_t, lenV_list, appO_own, ev_int, ev_name, ev_bin, ev_ite, evB_name, ix_name, ev_len, et_cmp, xs_app, xss_nil, xss_cons, contF_next, setS, str_inj, Slot.data, binAdd, cmpLt, Option.bind_eq_bind, Option.bind_some, Option.map_some, ↓reduceIte, eq_self, String.reduceEq, ha, hb, hp', hf, List.length_map, List.length_range, hlo, hlo2, hfl, int_lt h1, int_lt h2, idx_nat h1 (show a.length ≤ 100000 by lia), idx_nat h2 (show b.length ≤ 100000 by lia), binMod hp]
        rfl
      · have : b.getD k 0 = 0 := by simp [List.getD]; rw [List.getElem?_eq_none (by lia)]; rfl
        simp only [bind2_some, valO_val, ite_t, ite_f, lenV_list, appO_own, ev_int, ev_name, ev_bin, ev_ite, evB_name, ix_name, ev_len, et_cmp, xs_app, xss_nil, xss_cons, contF_next, setS, str_inj, Slot.data, binAdd, cmpLt, Option.bind_eq_bind, Option.bind_some, Option.map_some, ↓reduceIte, eq_self, String.reduceEq, ha, hb, hp', hf, List.length_map, List.length_range, hlo, hlo2, hfl, int_lt h1, int_nlt h2, idx_nat h1 (show a.length ≤ 100000 by lia), binMod hp, this]
        rfl
      · have : a.getD k 0 = 0 := by simp [List.getD]; rw [List.getElem?_eq_none (by lia)]; rfl
        simp only [bind2_some, valO_val, ite_t, ite_f, lenV_list, appO_own, ev_int, ev_name, ev_bin, ev_ite, evB_name, ix_name, ev_len, et_cmp, xs_app, xss_nil, xss_cons, contF_next, setS, str_inj, Slot.data, binAdd, cmpLt, Option.bind_eq_bind, Option.bind_some, Option.map_some, ↓reduceIte, eq_self, String.reduceEq, ha, hb, hp', hf, List.length_map, List.length_range, hlo, hlo2, hfl, int_nlt h1, int_lt h2, idx_nat h2 (show b.length ≤ 100000 by lia), binMod hp, this]
        rfl
      · lia
    · simp only [setS, str_inj, ↓reduceIte, eq_self, String.reduceEq, ha, hb, hp', and_self]
  · (intro σ zz1; refine e0_4 ?_ zz1; clear zz1; intro ha hb hp' hf)
    refine go_retE ?_
    have hc := hT ((List.range (max a.length b.length)).map fun k => (a.getD k 0 + b.getD k 0) % p) (by simp; lia)
    rw [List.length_map, List.length_range] at hf
    simp only [bind2_some, valO_val, consO_eq, ev_name, ev_call, isB, str_beq, String.reduceBEq, Bool.or_self, el_nil, el_cons, relS, Slot.data, Option.bind_some, Option.map_some, eq_self, hf, hc]
end
end Mine
end
noncomputable section
set_option Elab.async false
set_option linter.all false
namespace Mine

/-! polynomials as lists of whole numbers -/
noncomputable def ev : List Int → Int → Int
  | [], _ => 0
  | x :: t, n => x + n * ev t n
noncomputable def padd : List Int → List Int → List Int
  | [], b => b
  | a, [] => a
  | x :: a, y :: b => (x + y) :: padd a b
noncomputable def pmul : List Int → List Int → List Int
  | [], _ => []
  | x :: a, b => padd (b.map (x * ·)) (0 :: pmul a b)
theorem ev_nil (n : Int) : ev [] n = 0 := rfl
theorem ev_cons (x : Int) (t : List Int) (n : Int) : ev (x :: t) n = x + n * ev t n := rfl
theorem ev_padd : ∀ (a b : List Int) (n : Int), ev (padd a b) n = ev a n + ev b n
  | [], b, n => by simp [padd, ev]
  | x :: a, [], n => by simp [padd, ev]
  | x :: a, y :: b, n => by simp only [padd, ev, ev_padd a b n]; grind
theorem ev_map (k : Int) : ∀ (a : List Int) (n : Int), ev (a.map (k * ·)) n = k * ev a n
  | [], n => by simp [ev]
  | x :: a, n => by simp only [List.map_cons, ev, ev_map k a n]; grind
theorem ev_pmul : ∀ (a b : List Int) (n : Int), ev (pmul a b) n = ev a n * ev b n
  | [], b, n => by simp [pmul, ev]
  | x :: a, b, n => by simp only [pmul, ev_padd, ev_map, ev, ev_pmul a b n]; grind
theorem ev_append : ∀ (a b : List Int) (n : Int), ev (a ++ b) n = ev a n + n ^ a.length * ev b n
  | [], b, n => by simp [ev]
  | x :: a, b, n => by
    simp only [List.cons_append, ev, ev_append a b n, List.length_cons, Int.pow_succ]; grind
theorem ev_trim : ∀ (a : List Int) (n : Int), ev (trim a) n = ev a n
  | [], n => rfl
  | x :: t, n => by
    have ih := ev_trim t n
    rw [trim_cons]
    split
    · rename_i h
      rw [h.1] at ih
      simp only [ev, h.2, ← ih]; simp
    · simp only [ev, ih]
theorem ev_mod (p : Int) : ∀ (a : List Int) (n : Int), ev a n = ev (a.map (· % p)) n + p * ev (a.map (· / p)) n
  | [], n => by simp [ev]
  | x :: a, n => by
    simp only [List.map_cons, ev, ev_mod p a n]
    have := Int.emod_add_mul_ediv x p
    grind

/-- in the range of the rests, no zeros at the end -/
structure Good (p : Int) (a : List Int) : Prop where
  rng : ∀ x ∈ a, 0 ≤ x ∧ x < p
  tr : trim a = a
theorem trim_mem : ∀ (a : List Int) (x : Int), x ∈ trim a → x ∈ a
  | [], _, h => h
  | y :: t, x, h => by
    rw [trim_cons] at h
    split at h
    · cases h
    · rcases List.mem_cons.mp h with h | h
      · simp [h]
      · simp [trim_mem t x h]
theorem trim_trim : ∀ (a : List Int), trim (trim a) = trim a
  | [] => rfl
  | y :: t => by
    by_cases h : trim t = [] ∧ y = 0
    · rw [trim_cons, if_pos h]; rfl
    · rw [trim_cons, if_neg h, trim_cons, trim_trim t, if_neg h]
theorem good_trim {p : Int} {a : List Int} (h : ∀ x ∈ a, 0 ≤ x ∧ x < p) : Good p (trim a) := ⟨fun x hx => h x (trim_mem a x hx), trim_trim a⟩
noncomputable def nf (p : Int) (a : List Int) : List Int := trim (a.map (· % p))
theorem good_nf {p : Int} (hp : 0 < p) (a : List Int) : Good p (nf p a) := good_trim fun x hx => by
  (refine e1_2 ?_ (List.mem_map.mp hx); intro y _ zz1; subst zz1)
  exact ⟨Int.emod_nonneg _ (by lia), Int.emod_lt_of_pos _ hp⟩

/-- a polynomial whose values are all 0 has nothing but zeros -/
theorem ev_zero : ∀ (a : List Int) (N : Int), (∀ n, N < n → ev a n = 0) → ∀ x ∈ a, x = 0
  | [], _, _, _, h => nomatch h
  | y :: t, N, h, x, hx => by
    have hy : y = 0 := by
      have h1 := h ((N.natAbs + y.natAbs + 1 : Nat) : Int) (by lia)
      simp only [ev] at h1
      have h2 : ((N.natAbs + y.natAbs + 1 : Nat) : Int) ∣ y := ⟨- ev t ((N.natAbs + y.natAbs + 1 : Nat) : Int), by grind⟩
      have h3 := Int.natAbs_dvd_natAbs.mpr h2
      apply Classical.byContradiction
      intro hne
      have h4 := Nat.le_of_dvd (by lia) h3
      lia
    have ht : ∀ n, (if N < 0 then 0 else N) < n → ev t n = 0 := fun n hn => by
      have h1 := h n (by split at hn <;> lia)
      simp only [ev, hy, Int.zero_add] at h1
      rcases Int.mul_eq_zero.mp h1 with h2 | h2
      · split at hn <;> lia
      · exact h2
    rcases List.mem_cons.mp hx with rfl | hx
    · exact hy
    · exact ev_zero t _ ht x hx
theorem trim_zero : ∀ (a : List Int), (∀ x ∈ a, x = 0) → trim a = []
  | [], _ => rfl
  | x :: t, h => by rw [trim_cons, trim_zero t fun y hy => h y (by simp [hy]), if_pos ⟨rfl, h x (by simp)⟩]

noncomputable def Cong (p : Int) (f g : Int → Int) : Prop := ∃ c : List Int, ∀ n, f n = g n + p * ev c n
theorem zero_of_dvd {p x : Int} (h1 : 0 ≤ x) (h2 : x < p) (h : p ∣ x) : x = 0 := by
  apply Classical.byContradiction
  intro hne
  have := Int.le_of_dvd (by lia) h
  lia
theorem ev_all_zero : ∀ (l : List Int), (∀ x ∈ l, x = 0) → ∀ n, ev l n = 0
  | [], _, n => rfl
  | x :: l, hl, n => by simp only [ev]; rw [hl x (by simp), ev_all_zero l (fun y hy => hl y (by simp [hy]))]; simp
theorem coef_zero (p : Int) : ∀ (b c : List Int), (∀ x ∈ b, 0 ≤ x ∧ x < p) → (∀ x ∈ padd b (c.map (p * ·)), x = 0) → ∀ x ∈ b, x = 0
  | [], _, _, _, _, hx => nomatch hx
  | y :: b, [], _, hz, x, hx => by
    simp only [List.map_nil, padd] at hz
    exact hz x hx
  | y :: b, z :: c, hb, hz, x, hx => by
    simp only [List.map_cons, padd, List.mem_cons, forall_eq_or_imp] at hz
    rcases List.mem_cons.mp hx with rfl | hx
    · (refine e0_2 ?_ (hb x (by simp)); intro h1 h2)
      have h3 := hz.1
      exact zero_of_dvd h1 h2 ⟨-z, by grind⟩
    · exact coef_zero p b c (fun x hx => hb x (by simp [hx])) hz.2 x hx
/-- coefficients of the difference -/
theorem coef_eq (p : Int) (hp : 1 < p) : ∀ (a b c : List Int), (∀ x ∈ a, 0 ≤ x ∧ x < p) → (∀ x ∈ b, 0 ≤ x ∧ x < p) → (∀ n, ev a n = ev b n + p * ev c n) → trim a = trim b
  | [], b, c, _, hb, h => by
    have hz := ev_zero (padd b (c.map (p * ·))) 0 fun n _ => by rw [ev_padd, ev_map]; have := h n; simp only [ev] at this; lia
    rw [trim_zero b (coef_zero p b c hb hz)]; rfl
  | x :: a, [], c, ha, hb, h => by
    have hz := ev_zero (padd (x :: a) ((c.map ((-1) * ·)).map (p * ·))) 0 fun n _ => by rw [ev_padd, ev_map, ev_map]; have := h n; simp only [ev_nil] at this; grind
    rw [trim_zero (x :: a) (coef_zero p (x :: a) (c.map ((-1) * ·)) ha hz)]; rfl
  | x :: a, y :: b, c, ha, hb, h => by
    have h0 := h 0
    simp only [ev, Int.zero_mul, Int.add_zero] at h0
    (refine e0_2 ?_ (ha x (by simp)); intro hx1 hx2)
    (refine e0_2 ?_ (hb y (by simp)); intro hy1 hy2)
    cases c with
    | nil =>
      simp only [ev, Int.mul_zero, Int.add_zero] at h0 h
      have hxy : x = y := h0
      have : ∀ n, n ≠ 0 → ev a n = ev b n := fun n hn => by
        have := h n
        rw [hxy] at this
        exact Int.eq_of_mul_eq_mul_left hn (by lia)
      have hz := ev_zero (padd a (b.map ((-1) * ·))) 0 fun n hn => by rw [ev_padd, ev_map, this n (by lia)]; lia
      have h2 : ∀ n, ev a n = ev b n := fun n => by
        have h3 := ev_all_zero _ hz n
        rw [ev_padd, ev_map] at h3; lia
      have ih := coef_eq p hp a b [] (fun x hx => ha x (by simp [hx])) (fun x hx => hb x (by simp [hx])) fun n => by rw [h2 n]; simp [ev]
      rw [trim_cons, trim_cons, ih, hxy]
    | cons z c =>
      simp only [ev, Int.zero_mul, Int.add_zero] at h0
      have hd : p ∣ x - y := ⟨z, by lia⟩
      have hxy : x = y := by
        (refine e1_1 ?_ hd; clear hd; intro k hk)
        have h1 : k = 0 := by
          apply Classical.byContradiction
          intro hne
          rcases Int.lt_or_gt_of_ne hne with h1 | h1
          · have : p * k ≤ p * (-1) := Int.mul_le_mul_of_nonneg_left (by lia) (by lia)
            lia
          · have : p * 1 ≤ p * k := Int.mul_le_mul_of_nonneg_left (by lia) (by lia)
            lia
        rw [h1] at hk; lia
      have hz0 : z = 0 := by
        rw [hxy] at h0
        have : p * z = 0 := by lia
        rcases Int.mul_eq_zero.mp this with h1 | h1
        · lia
        · exact h1
      have : ∀ n, n ≠ 0 → ev a n = ev b n + p * ev c n := fun n hn => by
        have := h n
        simp only [ev] at this
        rw [hxy, hz0] at this
        exact Int.eq_of_mul_eq_mul_left hn (by grind)
      have hzz := ev_zero (padd (padd a (b.map ((-1) * ·))) (c.map (-p * ·))) 0 fun n hn => by rw [ev_padd, ev_padd, ev_map, ev_map, this n (by lia)]; grind
      have h2 : ∀ n, ev a n = ev b n + p * ev c n := fun n => by
        have h3 := ev_all_zero _ hzz n
        rw [ev_padd, ev_padd, ev_map, ev_map] at h3; grind
      have ih := coef_eq p hp a b c (fun x hx => ha x (by simp [hx])) (fun x hx => hb x (by simp [hx])) h2
      rw [trim_cons, trim_cons, ih, hxy]
theorem good_uniq {p : Int} (hp : 1 < p) {a b : List Int} (ha : Good p a) (hb : Good p b) (h : Cong p (ev a) (ev b)) : a = b := by
  (refine e1_1 ?_ h; clear h; intro c hc)
  have := coef_eq p hp a b c ha.rng hb.rng hc
  rwa [ha.tr, hb.tr] at this
end Mine
end
noncomputable section
set_option Elab.async false
set_option linter.all false
namespace Mine

noncomputable def accAt (p c : Int) : List Int → Nat → List Int → List Int
  | r, _, [] => r
  | r, k, y :: b => accAt p c (r.set k ((r.getD k 0 + c * y) % p)) (k + 1) b
theorem accAt_s {p c : Int} {r b : List Int} {k : Nat} {y : Int} : accAt p c r k (y :: b) = accAt p c (r.set k ((r.getD k 0 + c * y) % p)) (k + 1) b := rfl
theorem accAt_z {p c : Int} {r : List Int} {k : Nat} : accAt p c r k [] = r := rfl
noncomputable def InR (p : Int) (a : List Int) : Prop := ∀ x ∈ a, 0 ≤ x ∧ x < p
theorem accAt_length (p c : Int) : ∀ (b r : List Int) (k : Nat), (accAt p c r k b).length = r.length
  | [], _, _ => rfl
  | y :: b, r, k => by rw [accAt_s, accAt_length p c b]; simp
theorem inR_set {p : Int} {r : List Int} {k : Nat} {v : Int} (h : InR p r) (hv : 0 ≤ v ∧ v < p) : InR p (r.set k v) := fun x hx => by
  rcases List.mem_or_eq_of_mem_set hx with h1 | h1
  · exact h x h1
  · rw [h1]; exact hv
theorem inR_mod {p : Int} (hp : 0 < p) (x : Int) : 0 ≤ x % p ∧ x % p < p := ⟨Int.emod_nonneg _ (by lia), Int.emod_lt_of_pos _ hp⟩
theorem accAt_inR {p : Int} (hp : 0 < p) (c : Int) : ∀ (b r : List Int) (k : Nat), InR p r → InR p (accAt p c r k b)
  | [], _, _, h => h
  | y :: b, r, k, h => accAt_inR hp c b _ _ (inR_set h (inR_mod hp _))
theorem ev_set : ∀ (r : List Int) (k : Nat) (v n : Int), k < r.length → ev (r.set k v) n = ev r n + n ^ k * (v - r.getD k 0)
  | [], _, _, _, h => by simp at h
  | x :: r, 0, v, n, _ => by simp only [List.set_cons_zero, ev, List.getD_cons_zero, Int.pow_zero]; grind
  | x :: r, k + 1, v, n, h => by
    simp only [List.set_cons_succ, ev, List.getD_cons_succ, Int.pow_succ]
    rw [ev_set r k v n (by simpa using h)]; grind
theorem ev_one (k : Nat) (z n : Int) : ev (List.replicate k 0 ++ [z]) n = n ^ k * z := by
  rw [ev_append]
  have : ev (List.replicate k 0) n = 0 := ev_all_zero _ (by simp) n
  rw [this]; simp [ev]
theorem accAt_ev (p c : Int) : ∀ (b r : List Int) (k : Nat), k + b.length ≤ r.length → ∃ w : List Int, ∀ n, ev (accAt p c r k b) n = ev r n + c * n ^ k * ev b n + p * ev w n
  | [], r, k, _ => ⟨[], fun n => by simp [accAt_s, accAt_z, ev]⟩
  | y :: b, r, k, h => by
    simp only [List.length_cons] at h
    (refine e1_1 ?_ (accAt_ev p c b (r.set k ((r.getD k 0 + c * y) % p)) (k + 1) (by simp; lia)); intro w hw)
    refine ⟨padd w (List.replicate k 0 ++ [-((r.getD k 0 + c * y) / p)]), fun n => ?_⟩
    rw [accAt_s, hw, ev_set r k _ n (by lia), ev_padd, ev_one]
    have := Int.emod_add_mul_ediv (r.getD k 0 + c * y) p
    simp only [ev, Int.pow_succ]
    generalize (r.getD k 0 + c * y) / p = d at *
    generalize (r.getD k 0 + c * y) % p = e at *
    have he : e = r.getD k 0 + c * y - p * d := by lia
    rw [he]; grind
theorem accAt_get (p c : Int) : ∀ (b r : List Int) (k i : Nat), (i < k ∨ k + b.length ≤ i) → (accAt p c r k b).getD i 0 = r.getD i 0
  | [], r, k, i, _ => rfl
  | y :: b, r, k, i, h => by
    simp only [List.length_cons] at h
    rw [accAt_s, accAt_get p c b _ (k + 1) i (by lia)]
    simp only [List.getD_eq_getElem?_getD]
    rw [List.getElem?_set_ne (by lia)]
theorem accAt_at (p c : Int) : ∀ (b r : List Int) (k j : Nat), j < b.length → k + b.length ≤ r.length → (accAt p c r k b).getD (k + j) 0 = (r.getD (k + j) 0 + c * b.getD j 0) % p
  | [], r, k, j, h, _ => by simp at h
  | y :: b, r, k, 0, h, h2 => by
    simp only [List.length_cons] at h2
    rw [accAt_s, accAt_get p c b _ (k + 1) (k + 0) (by lia)]
    simp only [List.getD_eq_getElem?_getD, Nat.add_zero]
    rw [List.getElem?_set_self (by lia)]
    simp
  | y :: b, r, k, j + 1, h, h2 => by
    simp only [List.length_cons] at h h2
    have := accAt_at p c b (r.set k ((r.getD k 0 + c * y) % p)) (k + 1) j (by lia) (by simp; lia)
    rw [accAt_s, show k + (j + 1) = k + 1 + j by lia, this]
    simp only [List.getD_eq_getElem?_getD, List.getElem?_cons_succ]
    rw [List.getElem?_set_ne (by lia)]

noncomputable def mulLoop (p : Int) (b : List Int) : List Int → Nat → List Int → List Int
  | r, _, [] => r
  | r, k, x :: a => mulLoop p b (if x ≠ 0 then accAt p x r k b else r) (k + 1) a
theorem mulLoop_s {p : Int} {b r a : List Int} {k : Nat} {x : Int} : mulLoop p b r k (x :: a) = mulLoop p b (if x ≠ 0 then accAt p x r k b else r) (k + 1) a := rfl
theorem mulLoop_z {p : Int} {b r : List Int} {k : Nat} : mulLoop p b r k [] = r := rfl
noncomputable def mulL (p : Int) (a b : List Int) : List Int := if a = [] ∨ b = [] then [] else trim (mulLoop p b (List.replicate (a.length + b.length - 1) 0) 0 a)
theorem mulLoop_length (p : Int) (b : List Int) : ∀ (a r : List Int) (k : Nat), (mulLoop p b r k a).length = r.length
  | [], _, _ => rfl
  | x :: a, r, k => by
    rw [mulLoop_s, mulLoop_length p b a]
    split
    · exact accAt_length ..
    · rfl
theorem mulLoop_inR {p : Int} (hp : 0 < p) (b : List Int) : ∀ (a r : List Int) (k : Nat), InR p r → InR p (mulLoop p b r k a)
  | [], _, _, h => h
  | x :: a, r, k, h => by
    rw [mulLoop_s]
    refine mulLoop_inR hp b a _ _ ?_
    split
    · exact accAt_inR hp _ _ _ _ h
    · exact h
theorem mulLoop_ev (p : Int) (b : List Int) : ∀ (a r : List Int) (k : Nat), k + a.length + b.length ≤ r.length + 1 → 0 < a.length → ∃ w : List Int, ∀ n, ev (mulLoop p b r k a) n = ev r n + n ^ k * ev a n * ev b n + p * ev w n := by
  intro a
  induction a with
  | nil => intro r k _ h; simp at h
  | cons x a ih =>
    intro r k h _
    simp only [List.length_cons] at h
    have h1 : ∃ w : List Int, ∀ n, ev (if x ≠ 0 then accAt p x r k b else r) n = ev r n + x * n ^ k * ev b n + p * ev w n := by
      by_cases hx : x = 0
      · exact ⟨[], fun n => by simp [hx, ev]⟩
      · rw [if_pos hx]; exact accAt_ev p x b r k (by lia)
    (refine e1_1 ?_ h1; clear h1; intro w1 hw1)
    cases a with
    | nil =>
      refine ⟨w1, fun n => ?_⟩
      rw [mulLoop_s, mulLoop_z, hw1]
      simp only [ev]; grind
    | cons y a =>
      (refine e1_1 ?_ (ih (if x ≠ 0 then accAt p x r k b else r) (k + 1) (by
        have : (if x ≠ 0 then accAt p x r k b else r).length = r.length := by split <;> first | exact accAt_length .. | rfl
        rw [this]; simp only [List.length_cons] at h ⊢; lia) (by simp)); intro w2 hw2)
      refine ⟨padd w1 w2, fun n => ?_⟩
      rw [mulLoop_s, hw2, hw1, ev_padd]
      simp only [ev, Int.pow_succ]; grind
theorem mulL_good {p : Int} (hp : 0 < p) (a b : List Int) : Good p (mulL p a b) := by
  unfold mulL
  split
  · exact ⟨fun _ h => by simp at h, rfl⟩
  · refine good_trim (mulLoop_inR hp _ _ _ _ fun x hx => ?_)
    rw [List.eq_of_mem_replicate hx]; lia
theorem mulL_ev (p : Int) (a b : List Int) : ∃ w : List Int, ∀ n, ev (mulL p a b) n = ev a n * ev b n + p * ev w n := by
  unfold mulL
  split
  · rename_i h
    refine ⟨[], fun n => ?_⟩
    rcases h with h | h <;> simp [h, ev]
  · rename_i h
    have ha : 0 < a.length := by cases a <;> simp_all
    have hb : 0 < b.length := by cases b <;> simp_all
    (refine e1_1 ?_ (mulLoop_ev p b a (List.replicate (a.length + b.length - 1) 0) 0 (by simp; lia) ha); intro w hw)
    refine ⟨w, fun n => ?_⟩
    rw [ev_trim, hw, ev_all_zero _ (by simp)]
    simp
theorem mulL_length (p : Int) (a b : List Int) : (mulL p a b).length ≤ a.length + b.length := by
  unfold mulL
  split
  · simp
  · refine Nat.le_trans (trim_length _) ?_
    rw [mulLoop_length]; simp

noncomputable def divLoop (p turn : Int) (b : List Int) : Nat → List Int → List Int → List Int × List Int
  | 0, r, q => (q, r)
  | k + 1, r, q => divLoop p turn b k (if r.getD (k + b.length - 1) 0 * turn % p ≠ 0 then accAt p (-(r.getD (k + b.length - 1) 0 * turn % p)) r k b else r) (q.set k (r.getD (k + b.length - 1) 0 * turn % p))
theorem divLoop_s {p turn : Int} {b : List Int} {k : Nat} {r q : List Int} : divLoop p turn b (k + 1) r q = divLoop p turn b k (if r.getD (k + b.length - 1) 0 * turn % p ≠ 0 then accAt p (-(r.getD (k + b.length - 1) 0 * turn % p)) r k b else r) (q.set k (r.getD (k + b.length - 1) 0 * turn % p)) := rfl
theorem divLoop_z {p turn : Int} {b : List Int} {r q : List Int} : divLoop p turn b 0 r q = (q, r) := rfl
noncomputable def divL (p turn : Int) (a b : List Int) : List Int × List Int :=
  let z := divLoop p turn b (a.length + 1 - b.length) a (List.replicate (a.length + 1 - b.length) 0)
  (trim z.1, trim (z.2.take (b.length - 1)))
theorem getD_of_le {r : List Int} {i : Nat} (h : r.length ≤ i) : r.getD i 0 = 0 := by
  simp [List.getD_eq_getElem?_getD, List.getElem?_eq_none h]
theorem divLoop_spec {p turn : Int} (hp : 0 < p) (b : List Int) (hb : 0 < b.length) (ht : (b.getD (b.length - 1) 0 * turn) % p = 1 % p) : ∀ (k : Nat) (r q : List Int), k + b.length ≤ r.length + 1 → k ≤ q.length → InR p r → InR p q →
    (∀ i, i < k → q.getD i 0 = 0) → (∀ i, k + b.length - 1 ≤ i → r.getD i 0 = 0) →
    ∃ w : List Int, (∀ n, ev (divLoop p turn b k r q).1 n * ev b n + ev (divLoop p turn b k r q).2 n = ev q n * ev b n + ev r n + p * ev w n) ∧ InR p (divLoop p turn b k r q).1 ∧ InR p (divLoop p turn b k r q).2 ∧ (∀ i, b.length - 1 ≤ i → (divLoop p turn b k r q).2.getD i 0 = 0)
  | 0, r, q, _, _, hr, hq, _, hz => ⟨[], fun n => by simp [divLoop_s, divLoop_z, ev], hq, hr, fun i hi => hz i (by lia)⟩
  | k + 1, r, q, h1, h2, hr, hq, hq0, hz => by
    rw [divLoop_s]
    generalize hn : r.getD (k + b.length - 1) 0 * turn % p = num
    have hnum : 0 ≤ num ∧ num < p := hn ▸ inR_mod hp _
    have hlen : (if num ≠ 0 then accAt p (-num) r k b else r).length = r.length := by split <;> first | exact accAt_length .. | rfl
    have hin : InR p (if num ≠ 0 then accAt p (-num) r k b else r) := by split <;> first | exact accAt_inR hp _ _ _ _ hr | exact hr
    have htop : ∀ i, k + b.length - 1 ≤ i → (if num ≠ 0 then accAt p (-num) r k b else r).getD i 0 = 0 := by
      intro i hi
      by_cases hi2 : i = k + b.length - 1
      · subst hi2
        have e1 : k + b.length - 1 = k + (b.length - 1) := by lia
        rw [e1] at hn ⊢
        obtain ⟨d, hd⟩ : ∃ d, b.getD (b.length - 1) 0 * turn = 1 + p * d := by
          have h3 : p ∣ b.getD (b.length - 1) 0 * turn - 1 := by
            apply Int.dvd_of_emod_eq_zero
            rw [Int.sub_emod, ht]; simp
          (refine e1_1 ?_ h3; clear h3; intro d hd)
          exact ⟨d, by lia⟩
        by_cases h0 : num = 0
        · rw [if_neg (by simpa using h0)]
          have h4 : p ∣ r.getD (k + (b.length - 1)) 0 := by
            have h5 : p ∣ r.getD (k + (b.length - 1)) 0 * turn := Int.dvd_of_emod_eq_zero (by rw [hn, h0])
            (refine e1_1 ?_ h5; clear h5; intro e he)
            refine ⟨b.getD (b.length - 1) 0 * e - r.getD (k + (b.length - 1)) 0 * d, ?_⟩
            grind
          by_cases hlt : k + (b.length - 1) < r.length
          · have hm : r.getD (k + (b.length - 1)) 0 ∈ r := by
              rw [List.getD_eq_getElem?_getD, List.getElem?_eq_getElem hlt]; simp
            (refine e0_2 ?_ (hr _ hm); intro h6 h7)
            exact zero_of_dvd h6 h7 h4
          · exact getD_of_le (by lia)
        · rw [if_pos h0]
          by_cases hlt : k + b.length ≤ r.length
          · rw [accAt_at p (-num) b r k (b.length - 1) (by lia) hlt]
            apply Int.emod_eq_zero_of_dvd
            have h5 := Int.emod_add_mul_ediv (r.getD (k + (b.length - 1)) 0 * turn) p
            rw [hn] at h5
            refine ⟨b.getD (b.length - 1) 0 * (r.getD (k + (b.length - 1)) 0 * turn / p) - r.getD (k + (b.length - 1)) 0 * d, ?_⟩
            generalize r.getD (k + (b.length - 1)) 0 * turn / p = e at *
            generalize r.getD (k + (b.length - 1)) 0 = x at *
            generalize b.getD (b.length - 1) 0 = y at *
            have : num = x * turn - p * e := by lia
            rw [this]; grind
          · exfalso; lia
      · have hz' := hz i (by lia)
        split
        · rw [accAt_get p (-num) b r k i (by lia)]; exact hz'
        · exact hz'
    have hqs : InR p (q.set k num) := inR_set hq hnum
    (refine e1_4 ?_ (divLoop_spec hp b hb ht k _ (q.set k num) (by rw [hlen]; lia) (by simp; lia) hin hqs (fun i hi => by
      simp only [List.getD_eq_getElem?_getD] at hq0 ⊢
      rw [List.getElem?_set_ne (by lia)]; exact hq0 i (by lia)) htop); intro w hw hA hB hC)
    have h7 : ∃ w1 : List Int, ∀ n, ev (if num ≠ 0 then accAt p (-num) r k b else r) n = ev r n - num * n ^ k * ev b n + p * ev w1 n := by
      by_cases h0 : num = 0
      · exact ⟨[], fun n => by simp [h0, ev]⟩
      · rw [if_pos h0]
        (refine e1_1 ?_ (accAt_ev p (-num) b r k (by lia)); intro w1 hw1)
        exact ⟨w1, fun n => by rw [hw1]; grind⟩
    (refine e1_1 ?_ h7; clear h7; intro w1 hw1)
    refine ⟨padd w w1, fun n => ?_, hA, hB, hC⟩
    rw [hw, hw1, ev_set q k num n (by lia), hq0 k (by lia), ev_padd]
    grind
end Mine
end
noncomputable section
open PySem PySem.W PyProof.Rows PySem.Calls PySem.Spec
set_option Elab.async false
set_option linter.all false
namespace Mine

noncomputable def NextP (r : Option (Fl × Sto)) (P : Sto → Prop) : Prop := ∃ σ', r = some (.next, σ') ∧ P σ'
section
variable {O : Orc} {M : List Str} {f : Nat} {σ : Sto} {R : Option PyData} {P : Sto → Prop}
theorem nx_nil (h : P σ) : NextP (exSs O M f [] σ) P := ⟨σ, rfl, h⟩
theorem nx_cons {st : Stmt} {r : List Stmt} (h : NextP (exS O M f st σ) fun σ' => NextP (exSs O M f r σ') P) : NextP (exSs O M f (st :: r) σ) P := by
  (refine e1_2 ?_ h; clear h; intro σ1 h1 zz1; refine e1_2 ?_ zz1; clear zz1; intro σ2 h2 h3)
  exact ⟨σ2, by show (exS O M f st σ).bind _ = _; rw [h1]; exact h2, h3⟩
theorem nx_step {st : Stmt} {r : List Stmt} {σ1 : Sto} (h : exS O M f st σ = some (.next, σ1)) (h2 : NextP (exSs O M f r σ1) P) : NextP (exSs O M f (st :: r) σ) P := nx_cons ⟨σ1, h, h2⟩
theorem nx_if {t : Expr} {b o : List Stmt} {p : Pos} {c : Bool} (h : evT O t σ = some c) (h2 : NextP (if c then exSs O M f b σ else exSs O M f o σ) P) : NextP (exS O M f (.If t b o p) σ) P := by
  (refine e1_2 ?_ h2; clear h2; intro σ1 h1 h3)
  refine ⟨σ1, ?_, h3⟩
  show (evT O t σ).bind _ = _
  rw [h]
  cases c <;> exact h1
theorem nx_for {t i : Expr} {b : List Stmt} {p : Pos} {items : List PyData} (hi : forItems O i σ = some items) (I : Nat → Sto → Prop) (h0 : I 0 σ)
    (h : ∀ k d σ, items[k]? = some d → I k σ → ∃ σ1, bindT t d σ = some σ1 ∧ NextP (exSs O M f b σ1) (I (k + 1)))
    (h2 : ∀ σ', I items.length σ' → P σ') : NextP (exS O M f (.For t i b [] p) σ) P := by
  (refine e1_2 ?_ (forF_run (t := t) (b := exSs O M f b) items I (fun k d σ hd hI => let ⟨σ1, a, σ', b, c⟩ := h k d σ hd hI; ⟨σ1, σ', a, b, c⟩) items 0 σ rfl (Nat.zero_le _) h0); intro σ' h3 h4)
  exact ⟨σ', by show (forItems O i σ).bind _ = _; rw [hi]; exact h3, h2 σ' h4⟩
theorem nx_mono {r : Option (Fl × Sto)} {P' : Sto → Prop} (h : NextP r P) (k : ∀ σ, P σ → P' σ) : NextP r P' := let ⟨σ', a, b⟩ := h; ⟨σ', a, k σ' b⟩
theorem go_next {st : Stmt} {r : List Stmt} (h : NextP (exS O M f st σ) fun σ' => retOf (exSs O M f r σ') = R) : retOf (exSs O M f (st :: r) σ) = R := by
  (refine e1_2 ?_ h; clear h; intro σ1 h1 h2)
  exact go_step h1 h2
theorem go_if {t : Expr} {b o r : List Stmt} {p : Pos} {c : Bool} (h : evT O t σ = some c) (h2 : retOf (exSs O M f ((if c then b else o) ++ r) σ) = R) : retOf (exSs O M f (.If t b o p :: r) σ) = R := by
  have app : ∀ (b r : List Stmt) (σ : Sto), exSs O M f (b ++ r) σ = (exSs O M f b σ).bind (contF (exSs O M f r)) := by
    intro b
    induction b with
    | nil => intro r σ; rfl
    | cons s b ih =>
      intro r σ
      show (exS O M f s σ).bind (contF (exSs O M f (b ++ r))) = ((exS O M f s σ).bind (contF (exSs O M f b))).bind _
      cases exS O M f s σ with
      | none => rfl
      | some x =>
        obtain ⟨fl, σ1⟩ := x
        cases fl with
        | next => exact ih r σ1
        | ret d => rfl
  rw [app] at h2
  rw [← h2]
  show retOf (((evT O t σ).bind _).bind _) = _
  rw [h]
  cases c <;> rfl
end

theorem accAt_snoc (p c : Int) : ∀ (b r : List Int) (k : Nat) (y : Int), accAt p c r k (b ++ [y]) = (accAt p c r k b).set (k + b.length) (((accAt p c r k b).getD (k + b.length) 0 + c * y) % p)
  | [], r, k, y => by simp [accAt_s, accAt_z]
  | x :: b, r, k, y => by
    rw [List.cons_append, accAt_s, accAt_snoc p c b _ (k + 1) y, accAt_s, List.length_cons, show k + (b.length + 1) = k + 1 + b.length by lia]
theorem mulLoop_snoc (p : Int) (b : List Int) : ∀ (a r : List Int) (k : Nat) (x : Int), mulLoop p b r k (a ++ [x]) = if x ≠ 0 then accAt p x (mulLoop p b r k a) (k + a.length) b else mulLoop p b r k a
  | [], r, k, x => by simp [mulLoop_s, mulLoop_z]
  | y :: a, r, k, x => by
    rw [List.cons_append, mulLoop_s, mulLoop_snoc p b a _ (k + 1) x, mulLoop_s, List.length_cons, show k + (a.length + 1) = k + 1 + a.length by lia]
theorem enum_ints {a : List Int} {k : Nat} {d : PyData} (h : (enumL 0 (a.map .int))[k]? = some d) : k < a.length ∧ d = .tuple [.int (k : Int), .int (a.getD k 0)] := by
  (refine e1_2 ?_ (enumL_get _ 0 k d h); intro x h1 h2)
  rw [List.getElem?_map] at h1
  (refine e1_2 ?_ (Option.map_eq_some_iff.mp h1); intro y h3 zz1; subst zz1)
  have h4 := (List.getElem?_eq_some_iff.mp h3).1
  refine ⟨h4, ?_⟩
  rw [h2, List.getD_eq_getElem?_getD, h3]
  simp
theorem take_succ_getD {a : List Int} {k : Nat} (h : k < a.length) : a.take (k + 1) = a.take k ++ [a.getD k 0] := by
  rw [List.take_succ, List.getD_eq_getElem?_getD, List.getElem?_eq_getElem h]
  simp

section
variable (O : Orc) (a b : List Int) (p : Int)
theorem run12n (h : a = [] ∨ b = []) (hl : a.length < 1000) (hl2 : b.length < 1000) : runF 12 O [L a, L b, .int p] = some (L []) := by
  have hb : psOf (fdef 12) = [("a" : Str), "b", "p"] := by rfl
  have hlo := lenOk_of (show a.length ≤ 100000 by lia)
  have hlo2 := lenOk_of (show b.length ≤ 100000 by lia)
  have hc : (decide ((a.length : Int) = 0) || decide ((b.length : Int) = 0)) = true := by rcases h with rfl | rfl <;> simp
  unfold runF
  rw [hb, show ownsAt 12 = [("found" : Str)] from rfl]
  conv => lhs; arg 1; arg 4; whnf
  refine go_if (c := true) ?_ ?_
  · by_cases h1 : a = []
    · subst h1
      simp only [bind2_some, lenV_list, ev_int, evB_name, ev_len, et_cmp, et_and, ts_nil, ts_or, setAllV, setS, str_inj, Slot.data, cmpEqI, Option.bind_some, Option.map_some, ↓reduceIte, eq_self, String.reduceEq, List.map_nil, List.length_nil, lenOk_of (show 0 ≤ 100000 by lia)]
      rfl
    · have h2 : b = [] := h.resolve_left h1
      subst h2
      have h3 : ¬ ((a.length : Int) = 0) := by cases a <;> simp_all; lia
      simp only [bind2_some, lenV_list, orO_f, ev_int, evB_name, ev_len, et_cmp, et_and, ts_nil, ts_or, setAllV, setS, str_inj, Slot.data, cmpEqI, Option.bind_some, Option.map_some, decide_false, ↓reduceIte, eq_self, String.reduceEq, List.map_nil, List.length_map, List.length_nil, hlo, h3, lenOk_of (show 0 ≤ 100000 by lia)]
      rfl
  · exact go_retE (by simp only [ev_list, el_nil, Option.map_some]; rfl)
theorem run12 (hT : TrimOk O) (ha : a ≠ []) (hb' : b ≠ []) (hp : 0 < p) (hr : InR 1000 a) (hr2 : InR 1000 b) (hl : a.length < 400) (hl2 : b.length < 400) : runF 12 O [L a, L b, .int p] = some (L (mulL p a b)) := by
  have hb : psOf (fdef 12) = [("a" : Str), "b", "p"] := by rfl
  have hlo := lenOk_of (show a.length ≤ 100000 by lia)
  have hlo2 := lenOk_of (show b.length ≤ 100000 by lia)
  have h3 : ¬ ((a.length : Int) = 0) := by cases a <;> simp_all; lia
  have h4 : ¬ ((b.length : Int) = 0) := by cases b <;> simp_all; lia
  have h3' : 0 < a.length := by lia
  have h4' : 0 < b.length := by lia
  unfold runF
  rw [hb, show ownsAt 12 = [("found" : Str)] from rfl]
  conv => lhs; arg 1; arg 4; whnf
  refine go_if (c := false) (by simp only [bind2_some, lenV_list, orO_f, ev_int, evB_name, ev_len, et_cmp, et_and, ts_nil, ts_or, setAllV, setS, str_inj, Slot.data, cmpEqI, Option.bind_some, Option.map_some, decide_false, ↓reduceIte, eq_self, String.reduceEq, List.length_map, hlo, hlo2, h3, h4]; rfl) ?_
  have e1 : ((a.length : Int) + (b.length : Int) - 1) = ((a.length + b.length - 1 : Nat) : Int) := by lia
  have e2 : smallI ((a.length + b.length - 1 : Nat) : Int) = true := small_of (by lia)
  have e3 : lenOk (0 + (a.length + b.length - 1)) = true := lenOk_of (by lia)
  have e4 : lenOk (1 * (a.length + b.length - 1)) = true := lenOk_of (by lia)
  have e5 : (List.replicate (a.length + b.length - 1) [PyData.int 0]).flatten = (List.replicate (a.length + b.length - 1) (0 : Int)).map .int := by
    generalize a.length + b.length - 1 = n
    induction n with
    | zero => rfl
    | succ n ih => rw [List.replicate_succ, List.flatten_cons, ih]; rfl
  refine go_step (σ1 := setS (setAllV (fun _ => none) [("a" : Str), "b", "p"] [L a, L b, .int p]) "found" (.own ((List.replicate (a.length + b.length - 1) (0 : Int)).map .int))) ?_ ?_
  · simp only [bind2_some, lenV_list, consO_eq, repV_int, stoS_some, ev_int, ev_bin, evB_name, ev_len, Bool.or_false, el_nil, el_cons, xs_name, slotV_own, fr_mul, List.contains_nil, List.contains_cons, setAllV, setS, str_inj, Slot.data, binAdd, binSub, Option.bind_some, Option.map_some, ↓reduceIte, eq_self, String.reduceEq, List.length_map, hlo, hlo2, e1, e2, Int.toNat_natCast, List.length_cons, List.length_nil, Nat.zero_add, e4, and_self, e5, BEq.rfl]
  refine go_next (nx_for (items := enumL 0 (a.map .int)) (by simp only [bind2_some, valO_val, enumV_list, consO_eq, ev_name, ev_enum, el_nil, el_cons, setAllV, setS, str_inj, items_list, items_tup, forItems, Option.bind_some, ↓reduceIte, eq_self, String.reduceEq])
    (fun k σ => σ "b" = some (.val (L b)) ∧ σ "p" = some (.val (.int p)) ∧ σ "found" = some (.own ((mulLoop p b (List.replicate (a.length + b.length - 1) 0) 0 (a.take k)).map .int))) ?_ ?_ ?_)
  · simp only [setAllV, setS, str_inj, ↓reduceIte, eq_self, String.reduceEq, List.take_zero, mulLoop_s, mulLoop_z, and_self]
  · (intro k d σ hd zz1; refine e0_3 ?_ zz1; clear zz1; intro hσb hσp hσf)
    (refine e0_2 ?_ (enum_ints hd); intro hk zz1; subst zz1)
    have hx := hr _ (by rw [List.getD_eq_getElem?_getD, List.getElem?_eq_getElem hk]; exact List.getElem_mem hk : a.getD k 0 ∈ a)
    generalize hxx : a.getD k 0 = x at hx ⊢
    refine ⟨setS (setS σ "at" (.val (.int (k : Int)))) "one" (.val (.int x)), rfl, ?_⟩
    rw [take_succ_getD hk, hxx, mulLoop_snoc, List.length_take, Nat.min_eq_left (by lia), Nat.zero_add]
    generalize hr0 : mulLoop p b (List.replicate (a.length + b.length - 1) 0) 0 (a.take k) = r at hσf ⊢
    have hrl : r.length = a.length + b.length - 1 := by rw [← hr0, mulLoop_length]; simp
    refine nx_cons (nx_if (c := decide (x ≠ 0)) (by simp only [bind2_some, valO_val, ev_int, ev_name, et_cmp, setS, cmpNeI, ↓reduceIte, eq_self, ne_eq, decide_not]) ?_)
    by_cases h0 : x = 0
    · simp only [h0, ne_eq, not_true_eq_false, decide_false, Bool.false_eq_true, if_false]
      exact nx_nil (nx_nil ⟨by simp only [setS, str_inj, if_false, eq_self, String.reduceEq, hσb], by simp only [setS, str_inj, if_false, eq_self, String.reduceEq, hσp], by simp only [setS, str_inj, if_false, eq_self, String.reduceEq, hσf]⟩)
    · simp only [h0, ne_eq, not_false_eq_true, decide_true, if_true]
      refine nx_cons (nx_for (items := enumL 0 (b.map .int)) (by simp only [bind2_some, valO_val, enumV_list, consO_eq, ev_name, ev_enum, el_nil, el_cons, setS, str_inj, items_list, items_tup, forItems, Option.bind_some, ↓reduceIte, eq_self, String.reduceEq, hσb])
        (fun j σ => σ "b" = some (.val (L b)) ∧ σ "p" = some (.val (.int p)) ∧ σ "at" = some (.val (.int (k : Int))) ∧ σ "one" = some (.val (.int x)) ∧ σ "found" = some (.own ((accAt p x r k (b.take j)).map .int))) ?_ ?_ ?_)
      · simp only [setS, str_inj, ↓reduceIte, eq_self, String.reduceEq, hσb, hσp, hσf, List.take_zero, accAt_s, accAt_z, and_self]
      · (intro j d σ hd zz1; refine e0_5 ?_ zz1; clear zz1; intro h1 h2 h3 h4 h5)
        (refine e0_2 ?_ (enum_ints hd); intro hj zz1; subst zz1)
        have hy := hr2 _ (by rw [List.getD_eq_getElem?_getD, List.getElem?_eq_getElem hj]; exact List.getElem_mem hj : b.getD j 0 ∈ b)
        generalize hyy : b.getD j 0 = y at hy ⊢
        refine ⟨setS (setS σ "spot" (.val (.int (j : Int)))) "other" (.val (.int y)), rfl, ?_⟩
        rw [take_succ_getD hj, hyy, accAt_snoc, List.length_take, Nat.min_eq_left (by lia)]
        generalize hr1 : accAt p x r k (b.take j) = r' at h5 ⊢
        have hrl' : r'.length = a.length + b.length - 1 := by rw [← hr1, accAt_length, hrl]
        have e6 : ((k : Int) + (j : Int)) = ((k + j : Nat) : Int) := by lia
        have e7 : k + j < r'.length := by lia
        have e8 : (0 : Int) ≤ ((k + j : Nat) : Int) := by lia
        have e9 : ((k + j : Nat) : Int) < (r'.length : Int) := by lia
        have e10 : lenOk r'.length = true := lenOk_of (by lia)
        have e11 : smallI y = true := small_of (by lia)
        refine nx_step (σ1 := setS (setS (setS σ "spot" (.val (.int (j : Int)))) "other" (.val (.int y))) "found" (.own ((r'.set (k + j) ((r'.getD (k + j) 0 + x * y) % p)).map .int))) ?_ (nx_nil ?_)
        · simp only [bind2_some, valO_val, setO_own, ev_name, ev_bin, evB_name, ix_bin, xs_set, setS, str_inj, Slot.data, binAdd, Option.map_some, ↓reduceIte, eq_self, String.reduceEq, h2, h3, h4, h5, e6, idx_nat e7 (show r'.length ≤ 100000 by lia), binMul e11, binMod hp, List.length_map, e8, e9, e10, and_self, Int.toNat_natCast, List.map_set]
        · simp only [setS, str_inj, ↓reduceIte, eq_self, String.reduceEq, h1, h2, h3, h4, and_self]
      · (intro σ' zz1; refine e0_5 ?_ zz1; clear zz1; intro h1 h2 h3 h4 h5)
        rw [enumL_length, List.length_map, List.take_length] at h5
        exact nx_nil (nx_nil ⟨h1, h2, h5⟩)
  · (intro σ' zz1; refine e0_3 ?_ zz1; clear zz1; intro h1 h2 h5)
    rw [enumL_length, List.length_map, List.take_length] at h5
    have hml : (mulLoop p b (List.replicate (a.length + b.length - 1) 0) 0 a).length = a.length + b.length - 1 := by rw [mulLoop_length]; simp
    refine go_retE ?_
    have hc := hT _ (show (mulLoop p b (List.replicate (a.length + b.length - 1) 0) 0 a).length < 1000 by lia)
    simp only [bind2_some, valO_val, consO_eq, ev_name, ev_call, isB, str_beq, String.reduceBEq, Bool.or_self, el_nil, el_cons, relS, Slot.data, Option.bind_some, Option.map_some, h5, hc]
    rw [mulL, if_neg (by simp [ha, hb'])]
end
end Mine
end
noncomputable section
open PySem PySem.W PyProof.Rows PySem.Calls PySem.Spec
set_option Elab.async false
set_option linter.all false
namespace Mine

theorem rangeL_down (n : Nat) (a : Int) (h : n = (a + 1).toNat) : rangeL a (-1) (-1) = (List.range n).map fun (i : Nat) => PyData.int (a - (i : Int)) := by
  unfold rangeL Builtin.Range.rangeSize
  have : (if (0 : Int) < -1 then if a < -1 then (-1 - a - 1) / -1 + 1 else 0 else if (-1 : Int) < a then (a - -1 - 1) / - -1 + 1 else 0).toNat = n := by
    rw [if_neg (by decide), show - -(1 : Int) = 1 from rfl, Int.ediv_one]
    split <;> lia
  rw [this]
  apply List.map_congr_left
  intro i _
  congr 1
  lia
theorem divLoop_len {p turn : Int} {b : List Int} : ∀ (k : Nat) (r q : List Int), (divLoop p turn b k r q).1.length = q.length ∧ (divLoop p turn b k r q).2.length = r.length
  | 0, r, q => ⟨rfl, rfl⟩
  | k + 1, r, q => by
    rw [divLoop_s]
    have := divLoop_len (p := p) (turn := turn) (b := b) k (if r.getD (k + b.length - 1) 0 * turn % p ≠ 0 then accAt p (-(r.getD (k + b.length - 1) 0 * turn % p)) r k b else r) (q.set k (r.getD (k + b.length - 1) 0 * turn % p))
    refine ⟨by rw [this.1]; simp, by rw [this.2]; split <;> first | exact accAt_length .. | rfl⟩

section
variable (O : Orc) (a b : List Int) (p : Int)
theorem run13 (l turn : Int) (hbl : b = b.take (b.length - 1) ++ [l]) (hT : TrimOk O) (hM : ∀ x y : Int, O "max" [.int x, .int y] = some (.int (if y > x then y else x))) (hI : O "inverse_mod" [.int l, .int p] = some (.int turn)) (hp : 0 < p) (hp2 : p < 100) (ht : 0 ≤ turn ∧ turn < 100)
    (hr : InR p a) (hr2 : InR p b) (hl : a.length < 400) (hl2 : b.length < 400) : runF 13 O [L a, L b, .int p] = some (.tuple [L (divL p turn a b).1, L (divL p turn a b).2]) := by
  have hb : psOf (fdef 13) = [("a" : Str), "b", "p"] := by rfl
  have hlo := lenOk_of (show a.length ≤ 100000 by lia)
  have hlo2 := lenOk_of (show b.length ≤ 100000 by lia)
  have hb0 : 0 < b.length := by rw [hbl]; simp
  have hil := idx_last (a := b.take (b.length - 1)) (l := l) (by simp; lia)
  rw [← hbl] at hil
  have hst := small_of (a := turn) (by lia)
  unfold runF
  rw [hb, show ownsAt 13 = [("rest" : Str), "quotient"] from rfl]
  conv => lhs; arg 1; arg 4; whnf
  generalize hK : a.length + 1 - b.length = K
  have e1 : (if ((a.length : Int) - (b.length : Int) + 1) > 0 then ((a.length : Int) - (b.length : Int) + 1) else 0) = (K : Int) := by split <;> lia
  have e2 : smallI (K : Int) = true := small_of (by lia)
  have e4 : lenOk (1 * K) = true := lenOk_of (by lia)
  have e5 : (List.replicate K [PyData.int 0]).flatten = (List.replicate K (0 : Int)).map .int := by
    clear hK e1 e2 e4
    induction K with
    | zero => rfl
    | succ n ih => rw [List.replicate_succ, List.flatten_cons, ih]; rfl
  refine go_step (σ1 := setS (setS (setAllV (fun _ => none) [("a" : Str), "b", "p"] [L a, L b, .int p]) "rest" (.own (a.map .int))) "quotient" (.own ((List.replicate K (0 : Int)).map .int))) ?_ ?_
  · simp only [bind2_some, valO_val, lenV_list, okL2_eq, consO_eq, asgT_eq, repV_int, stoTs_some, ev_int, ev_name, ev_bin, evB_name, ev_call, ev_len, isB, str_beq, String.reduceBEq, Bool.or_false, Bool.or_self, el_nil, el_cons, xs_tup, slotV_own, sv_nil, sv_cons, fr_mul, fr_copy, List.contains_nil, List.contains_cons, setAllV, setAllS, setS, str_inj, Slot.data, nm_nil, nm_cons, listOfD_list, binAdd, binSub, Option.bind_some, Option.map_some, ↓reduceIte, eq_self, String.reduceEq, Bool.or_true, List.length_map, hlo, hlo2, hM, e1, e2, Int.toNat_natCast, List.length_cons, List.length_nil, Nat.zero_add, e4, and_self, e5, BEq.rfl]
  refine go_step (σ1 := setS (setS (setS (setAllV (fun _ => none) [("a" : Str), "b", "p"] [L a, L b, .int p]) "rest" (.own (a.map .int))) "quotient" (.own ((List.replicate K (0 : Int)).map .int))) "turn" (.val (.int turn))) ?_ ?_
  · simp only [bind2_some, valO_val, negV_int, consO_eq, stoS_some, ev_int, ev_name, ev_neg, evB_name, ix_neg, ev_call, isB, str_beq, String.reduceBEq, Bool.or_self, el_nil, el_cons, xs_name, slotV_val, List.contains_nil, List.contains_cons, setAllV, setS, str_inj, Slot.data, Option.bind_some, Option.map_some, ↓reduceIte, eq_self, String.reduceEq, hil, hI]
  have e6 : (smallI ((a.length : Int) - (b.length : Int)) && smallI (-1) && (decide ((-1 : Int) ≠ 0) && decide ((-1000 : Int) ≤ -1) && decide ((-1 : Int) ≤ 1000))) = true := by
    rw [small_of (a := (a.length : Int) - (b.length : Int)) (by lia)]; decide
  refine go_next (nx_for (items := (List.range K).map fun (i : Nat) => PyData.int ((a.length : Int) - (b.length : Int) - (i : Int))) ?_
    (fun i σ => σ "b" = some (.val (L b)) ∧ σ "p" = some (.val (.int p)) ∧ σ "turn" = some (.val (.int turn)) ∧ ∃ r q, σ "rest" = some (.own (r.map .int)) ∧ σ "quotient" = some (.own (q.map .int)) ∧ r.length = a.length ∧ q.length = K ∧
      divLoop p turn b (K - i) r q = divLoop p turn b K a (List.replicate K 0)) ?_ ?_ ?_)
  · simp only [bind2_some, negV_int, lenV_list, consO_eq, ev_int, ev_bin, ev_neg, evB_name, ev_len, ev_range, el_nil, el_cons, setAllV, setS, str_inj, Slot.data, forItems, binSub, Option.bind_some, Option.map_some, ↓reduceIte, eq_self, String.reduceEq, List.length_map, hlo, hlo2, Int.reduceNeg]
    simp only [rangeV1, rangeV2, rangeV3, ← Int.reduceNeg, Int.reduceNeg, rangeL_down K ((a.length : Int) - (b.length : Int)) (by lia)]
    rw [if_pos (by simpa using e6)]
    rfl
  · refine ⟨by simp only [setAllV, setS, str_inj, ↓reduceIte, eq_self, String.reduceEq], by simp only [setAllV, setS, str_inj, ↓reduceIte, eq_self, String.reduceEq], by simp only [setS, ↓reduceIte, eq_self], a, List.replicate K 0, by simp only [setS, str_inj, ↓reduceIte, eq_self, String.reduceEq], by simp only [setS, str_inj, ↓reduceIte, eq_self, String.reduceEq], rfl, by simp, by simp⟩
  · (intro i d σ hd zz1; refine e0_4 ?_ zz1; clear zz1; intro hσb hσp hσt zz2; refine e2_5 ?_ zz2; clear zz2; intro r q hσr hσq hrl hql hdv)
    have hi : i < K := by have := (List.getElem?_eq_some_iff.mp hd).1; simpa using this
    have hd' : d = .int ((K - 1 - i : Nat) : Int) := by
      rw [List.getElem?_map, List.getElem?_range hi] at hd
      have e : ((a.length : Int) - (b.length : Int) - (i : Int)) = ((K - 1 - i : Nat) : Int) := by lia
      rw [← Option.some.inj hd]
      show PyData.int _ = _
      rw [e]
    subst hd'
    have hKi : K - i = (K - 1 - i) + 1 := by lia
    rw [hKi, divLoop_s] at hdv
    have hKi2 : K - (i + 1) = K - 1 - i := by lia
    have hbd : K - 1 - i + b.length ≤ a.length := by lia
    have hbd2 : K - 1 - i < K := by lia
    rw [hKi2]
    generalize K - 1 - i = k at hdv hbd hbd2 ⊢
    generalize hnum : r.getD (k + b.length - 1) 0 * turn % p = num at hdv ⊢
    have hnr : 0 ≤ num ∧ num < p := hnum ▸ inR_mod hp _
    refine ⟨setS σ "at" (.val (.int (k : Int))), rfl, ?_⟩
    have e7 : ((k : Int) + (b.length : Int) - 1) = ((k + b.length - 1 : Nat) : Int) := by lia
    have e8 : k + b.length - 1 < r.length := by lia
    refine nx_step (σ1 := setS (setS σ "at" (.val (.int (k : Int)))) "number" (.val (.int num))) ?_ ?_
    · simp only [bind2_some, valO_val, lenV_list, stoS_some, ev_int, ev_name, ev_bin, evB_name, ix_bin, ev_len, str_beq, String.reduceBEq, Bool.or_self, xs_name, slotV_val, List.contains_nil, List.contains_cons, setS, str_inj, Slot.data, binAdd, binSub, Option.bind_some, Option.map_some, ↓reduceIte, eq_self, String.reduceEq, hσr, hσb, hσt, hσp, List.length_map, hlo2, e7, idx_nat e8 (show r.length ≤ 100000 by lia), binMul hst, binMod hp, hnum]
    have e9 : (0 : Int) ≤ (k : Int) := by lia
    have e10 : (k : Int) < (q.length : Int) := by lia
    have e11 : lenOk q.length = true := lenOk_of (by lia)
    refine nx_step (σ1 := setS (setS (setS σ "at" (.val (.int (k : Int)))) "number" (.val (.int num))) "quotient" (.own ((q.set k num).map .int))) ?_ ?_
    · simp only [bind2_some, valO_val, setO_own, ev_name, xs_set, setS, str_inj, ↓reduceIte, eq_self, String.reduceEq, hσq, List.length_map, e9, e10, e11, and_self, Int.toNat_natCast, List.map_set]
    refine nx_cons (nx_if (c := decide (num ≠ 0)) (by simp only [bind2_some, valO_val, ev_int, ev_name, et_cmp, setS, str_inj, cmpNeI, ↓reduceIte, eq_self, String.reduceEq, ne_eq, decide_not]) ?_)
    by_cases h0 : num = 0
    · simp only [h0, ne_eq, not_true_eq_false, decide_false, Bool.false_eq_true, if_false] at hdv ⊢
      exact nx_nil (nx_nil ⟨by simp only [setS, str_inj, if_false, eq_self, String.reduceEq, hσb], by simp only [setS, str_inj, if_false, eq_self, String.reduceEq, hσp], by simp only [setS, str_inj, if_false, eq_self, String.reduceEq, hσt], r, q.set k 0, by simp only [setS, str_inj, if_false, eq_self, String.reduceEq, hσr], by simp only [setS, ↓reduceIte, eq_self], hrl, by simpa using hql, hdv⟩)
    · simp only [h0, ne_eq, not_false_eq_true, decide_true, if_true] at hdv ⊢
      refine nx_cons (nx_for (items := enumL 0 (b.map .int)) (by simp only [bind2_some, valO_val, enumV_list, consO_eq, ev_name, ev_enum, el_nil, el_cons, setS, str_inj, items_list, items_tup, forItems, Option.bind_some, ↓reduceIte, eq_self, String.reduceEq, hσb])
        (fun j σ => σ "b" = some (.val (L b)) ∧ σ "p" = some (.val (.int p)) ∧ σ "turn" = some (.val (.int turn)) ∧ σ "at" = some (.val (.int (k : Int))) ∧ σ "number" = some (.val (.int num)) ∧ σ "quotient" = some (.own ((q.set k num).map .int)) ∧ σ "rest" = some (.own ((accAt p (-num) r k (b.take j)).map .int))) ?_ ?_ ?_)
      · simp only [setS, str_inj, ↓reduceIte, eq_self, String.reduceEq, hσb, hσp, hσt, hσr, List.take_zero, accAt_s, accAt_z, and_self]
      · (intro j d σ hd zz1; refine e0_7 ?_ zz1; clear zz1; intro h1 h2 h3 h4 h5 h6 h7)
        (refine e0_2 ?_ (enum_ints hd); intro hj zz1; subst zz1)
        have hy := hr2 _ (by rw [List.getD_eq_getElem?_getD, List.getElem?_eq_getElem hj]; exact List.getElem_mem hj : b.getD j 0 ∈ b)
        generalize hyy : b.getD j 0 = y at hy ⊢
        refine ⟨setS (setS σ "spot" (.val (.int (j : Int)))) "other" (.val (.int y)), rfl, ?_⟩
        rw [take_succ_getD hj, hyy, accAt_snoc, List.length_take, Nat.min_eq_left (by lia)]
        generalize hr1 : accAt p (-num) r k (b.take j) = r' at h7 ⊢
        have hrl' : r'.length = a.length := by rw [← hr1, accAt_length, hrl]
        have e16 : ((k : Int) + (j : Int)) = ((k + j : Nat) : Int) := by lia
        have e17 : k + j < r'.length := by lia
        have e18 : (0 : Int) ≤ ((k + j : Nat) : Int) := by lia
        have e19 : ((k + j : Nat) : Int) < (r'.length : Int) := by lia
        have e20 : lenOk r'.length = true := lenOk_of (by lia)
        have e21 : smallI y = true := small_of (by lia)
        have e22 : r'.getD (k + j) 0 + -num * y = r'.getD (k + j) 0 - num * y := by rw [Int.neg_mul]; lia
        rw [e22]
        refine nx_step (σ1 := setS (setS (setS σ "spot" (.val (.int (j : Int)))) "other" (.val (.int y))) "rest" (.own ((r'.set (k + j) ((r'.getD (k + j) 0 - num * y) % p)).map .int))) ?_ (nx_nil ?_)
        · simp only [bind2_some, valO_val, setO_own, ev_name, ev_bin, evB_name, ix_bin, xs_set, setS, str_inj, Slot.data, binAdd, binSub, Option.map_some, ↓reduceIte, eq_self, String.reduceEq, h2, h4, h5, h7, e16, idx_nat e17 (show r'.length ≤ 100000 by lia), binMul e21, binMod hp, List.length_map, e18, e19, e20, and_self, Int.toNat_natCast, List.map_set]
        · simp only [setS, str_inj, ↓reduceIte, eq_self, String.reduceEq, h1, h2, h3, h4, h5, h6, and_self]
      · (intro σ' zz1; refine e0_7 ?_ zz1; clear zz1; intro h1 h2 h3 h4 h5 h6 h7)
        rw [enumL_length, List.length_map, List.take_length] at h7
        exact nx_nil (nx_nil ⟨h1, h2, h3, _, _, h7, h6, by rw [accAt_length, hrl], by simpa using hql, hdv⟩)
  · (intro σ' zz1; refine e0_4 ?_ zz1; clear zz1; intro h1 h2 h3 zz2; refine e2_5 ?_ zz2; clear zz2; intro r q h4 h5 hrl hql hdv)
    rw [List.length_map, List.length_range, Nat.sub_self, divLoop_z] at hdv
    have hq : q = (divLoop p turn b K a (List.replicate K 0)).1 := by rw [← hdv]
    have hr' : r = (divLoop p turn b K a (List.replicate K 0)).2 := by rw [← hdv]
    refine go_retE ?_
    have hc := hT q (by lia)
    have hc2 := hT (r.take (b.length - 1)) (by simp; lia)
    have e30 : ((b.length : Int) - 1) = ((b.length - 1 : Nat) : Int) := by lia
    have e31 : (0 : Int) ≤ ((b.length - 1 : Nat) : Int) := by lia
    have e32 : smallI ((b.length - 1 : Nat) : Int) = true := small_of (by lia)
    have e33 : lenOk r.length = true := lenOk_of (by lia)
    simp only [bind2_some, valO_val, lenV_list, takeV_list, consO_eq, ev_int, ev_name, ev_bin, ev_tup, evB_name, sl_hi, ev_call, ev_len, isB, str_beq, String.reduceBEq, Bool.or_self, el_nil, el_cons, relS, Slot.data, binSub, Option.bind_some, Option.map_some, ↓reduceIte, eq_self, h1, h4, h5, List.length_map, hlo2, e30, e31, e32, e33, and_self, Int.toNat_natCast, ← List.map_take, hc, hc2]
    simp only [divL, hK]
    rw [hq, hr']
end
end Mine
end
noncomputable section
open PySem PySem.W PyProof.Rows PySem.Calls PySem.Spec
set_option Elab.async false
set_option linter.all false
namespace Mine

noncomputable def PP (p : Int) : Prop := p = 2 ∨ p = 3 ∨ p = 5
noncomputable def invP (p l : Int) : Int := l ^ (p - 2).toNat % p
theorem PP.pos {p : Int} (h : PP p) : 1 < p ∧ p < 6 := by rcases h with rfl | rfl | rfl <;> lia
theorem invP_spec {p l : Int} (h : PP p) (hl : 0 < l ∧ l < p) : l * invP p l % p = 1 ∧ 0 < invP p l ∧ invP p l < p := by
  rcases h with rfl | rfl | rfl
  · have : l = 1 := by lia
    subst this; decide
  · have : l = 1 ∨ l = 2 := by lia
    rcases this with rfl | rfl <;> decide
  · have : l = 1 ∨ l = 2 ∨ l = 3 ∨ l = 4 := by lia
    rcases this with rfl | rfl | rfl | rfl <;> decide
noncomputable def lead (a : List Int) : Int := a.getLastD 0
noncomputable def quotL (p : Int) (a b : List Int) : List Int := (divL p (invP p (lead b)) a b).1
noncomputable def restL (p : Int) (a b : List Int) : List Int := (divL p (invP p (lead b)) a b).2
noncomputable def scaleL (p : Int) (a : List Int) (k : Int) : List Int := trim (a.map fun x => x * k % p)
noncomputable def monicL (p : Int) (a : List Int) : List Int := if a = [] then [] else scaleL p a (invP p (lead a))
noncomputable def addL (p : Int) (a b : List Int) : List Int := trim ((List.range (max a.length b.length)).map fun k => (a.getD k 0 + b.getD k 0) % p)
noncomputable def negL (p : Int) (a : List Int) : List Int := a.map fun x => (-x) % p
noncomputable def subL (p : Int) (a b : List Int) : List Int := addL p a (negL p b)
noncomputable def gcdF (p : Int) : Nat → List Int → List Int → List Int
  | 0, a, _ => a
  | n + 1, a, b => if b = [] then a else gcdF p n b (restL p a b)
theorem gcdF_s {p : Int} {n : Nat} {a b : List Int} : gcdF p (n + 1) a b = if b = [] then a else gcdF p n b (restL p a b) := rfl
noncomputable def gcdL (p : Int) (a b : List Int) : List Int := monicL p (gcdF p 1000 a b)

theorem good_nil {p : Int} : Good p [] := ⟨fun _ h => by simp at h, rfl⟩
theorem good_last {p : Int} {a : List Int} (h : Good p a) (hn : a ≠ []) : a = a.take (a.length - 1) ++ [lead a] ∧ 0 < lead a ∧ lead a < p := by
  rcases List.eq_nil_or_concat a with rfl | ⟨a', l, rfl⟩
  · exact absurd rfl hn
  · simp only [List.concat_eq_append] at *
    have h1 : lead (a' ++ [l]) = l := by simp [lead]
    have h2 := h.rng l (by simp)
    have h3 : l ≠ 0 := by
      intro h0
      have := h.tr
      rw [h0, trim_snoc_zero] at this
      have h4 := congrArg List.length this
      have h5 := trim_length a'
      simp at h4; lia
    rw [h1]
    refine ⟨by simp, by lia, h2.2⟩
theorem scale_good {p : Int} (hp : 0 < p) (a : List Int) (k : Int) : Good p (scaleL p a k) := good_trim fun x hx => by
  (refine e1_2 ?_ (List.mem_map.mp hx); intro y _ zz1; subst zz1)
  exact inR_mod hp _
theorem mod_ev (p : Int) (l : List Int) : ∃ w : List Int, ∀ n, ev (l.map (· % p)) n = ev l n + p * ev w n :=
  ⟨(l.map (· / p)).map ((-1) * ·), fun n => by rw [ev_map]; have := ev_mod p l n; grind⟩
theorem scale_ev (p : Int) (a : List Int) (k : Int) : ∃ w : List Int, ∀ n, ev (scaleL p a k) n = k * ev a n + p * ev w n := by
  (refine e1_1 ?_ (mod_ev p (a.map (k * ·))); intro w hw)
  refine ⟨w, fun n => ?_⟩
  have : (fun x => x * k % p) = (fun x => x % p) ∘ (k * ·) := by funext x; simp [Int.mul_comm]
  rw [scaleL, ev_trim, this, ← List.map_map, hw, ev_map]
theorem neg_good {p : Int} (hp : 1 < p) {a : List Int} (h : Good p a) : Good p (negL p a) := by
  refine ⟨fun x hx => ?_, ?_⟩
  · (refine e1_2 ?_ (List.mem_map.mp hx); intro y _ zz1; subst zz1)
    exact inR_mod (by lia) _
  · by_cases hn : a = []
    · subst hn; rfl
    · (refine e0_3 ?_ (good_last h hn); intro h1 h2 h3)
      rw [negL, h1, List.map_append]
      have : (-(lead a)) % p = p - lead a := by
        rw [show (-(lead a)) = (p - lead a) + p * (-1) by lia, Int.add_mul_emod_self_left]
        exact Int.emod_eq_of_lt (by lia) (by lia)
      simp only [List.map_cons, List.map_nil, this]
      exact trim_snoc_ne (by lia) _
theorem neg_ev (p : Int) (a : List Int) : ∃ w : List Int, ∀ n, ev (negL p a) n = - ev a n + p * ev w n := by
  (refine e1_1 ?_ (mod_ev p (a.map ((-1) * ·))); intro w hw)
  refine ⟨w, fun n => ?_⟩
  have : (fun x : Int => -x % p) = (fun x => x % p) ∘ ((-1) * ·) := by funext x; simp
  rw [negL, this, ← List.map_map, hw, ev_map]
  lia
theorem add_good {p : Int} (hp : 0 < p) (a b : List Int) : Good p (addL p a b) := good_trim fun x hx => by
  (refine e1_2 ?_ (List.mem_map.mp hx); intro y _ zz1; subst zz1)
  exact inR_mod hp _
theorem add_list : ∀ (a b : List Int), (List.range (max a.length b.length)).map (fun k => a.getD k 0 + b.getD k 0) = padd a b
  | [], b => by
    simp only [padd, List.length_nil, Nat.zero_max]
    apply List.ext_getElem
    · simp
    · intro i h1 h2; simp at h1; simp [List.getD_eq_getElem?_getD, h2]
  | x :: a, [] => by
    simp only [padd, List.length_nil, Nat.max_zero]
    apply List.ext_getElem
    · simp
    · intro i h1 h2
      simp only [List.getElem_map, List.getElem_range, List.getD_eq_getElem?_getD, List.getElem?_nil, Option.getD_none, Int.add_zero]
      rw [List.getElem?_eq_getElem h2]; rfl
  | x :: a, y :: b => by
    have ih := add_list a b
    simp only [List.length_cons, padd]
    rw [show max (a.length + 1) (b.length + 1) = max a.length b.length + 1 by lia, List.range_succ_eq_map, List.map_cons, List.map_map, ← ih]
    simp only [List.getD_cons_zero]
    congr 1
theorem add_ev (p : Int) (a b : List Int) : ∃ w : List Int, ∀ n, ev (addL p a b) n = ev a n + ev b n + p * ev w n := by
  (refine e1_1 ?_ (mod_ev p (padd a b)); intro w hw)
  refine ⟨w, fun n => ?_⟩
  have : (List.range (max a.length b.length)).map (fun k => (a.getD k 0 + b.getD k 0) % p) = (padd a b).map (· % p) := by rw [← add_list, List.map_map]; rfl
  rw [addL, ev_trim, this, hw, ev_padd]
theorem add_length (p : Int) (a b : List Int) : (addL p a b).length ≤ max a.length b.length := by
  refine Nat.le_trans (trim_length _) ?_; simp
theorem neg_length (p : Int) (a : List Int) : (negL p a).length = a.length := by simp [negL]

theorem ev_take_zero : ∀ (r : List Int) (k : Nat), (∀ i, k ≤ i → r.getD i 0 = 0) → ∀ n, ev (r.take k) n = ev r n
  | [], k, _, n => by simp [ev]
  | x :: r, 0, h, n => by
    rw [List.take_zero]
    refine (ev_all_zero (x :: r) (fun y hy => ?_) n).symm
    (refine e1_1 ?_ (List.getElem_of_mem hy); intro i zz1; refine e1_1 ?_ zz1; clear zz1; intro hi zz2; subst zz2)
    have := h i (Nat.zero_le _)
    rwa [List.getD_eq_getElem?_getD, List.getElem?_eq_getElem hi] at this
  | x :: r, k + 1, h, n => by
    rw [List.take_succ_cons, ev, ev, ev_take_zero r k (fun i hi => by have := h (i + 1) (by lia); simpa using this) n]

/-- what a division leaves -/
theorem div_spec {p : Int} (hp : PP p) {a b : List Int} (ha : Good p a) (hb : Good p b) (hn : b ≠ []) :
    Good p (quotL p a b) ∧ Good p (restL p a b) ∧ (restL p a b).length < b.length ∧ (quotL p a b).length ≤ a.length ∧ (restL p a b).length ≤ a.length ∧ ∃ w : List Int, ∀ n, ev a n = ev (quotL p a b) n * ev b n + ev (restL p a b) n + p * ev w n := by
  have hpp := hp.pos
  (refine e0_2 ?_ (good_last hb hn); intro h1 h2)
  have hbl : 0 < b.length := List.length_pos_iff.mpr hn
  have hlead : b.getD (b.length - 1) 0 = lead b := by
    have h3 : (b.take (b.length - 1)).length = b.length - 1 := by rw [List.length_take]; lia
    conv => lhs; arg 1; rw [h1]
    rw [List.getD_eq_getElem?_getD, List.getElem?_append_right (by lia), h3]
    simp
  have hinv := invP_spec hp h2
  have ht : b.getD (b.length - 1) 0 * invP p (lead b) % p = 1 % p := by
    rw [hlead, hinv.1]; exact (Int.emod_eq_of_lt (by lia) (by lia)).symm
  by_cases hle : a.length + 1 ≤ b.length
  · have hk : a.length + 1 - b.length = 0 := by lia
    have hq : quotL p a b = [] := by simp [quotL, divL, hk, divLoop_s, divLoop_z, trim]
    have hr : restL p a b = a := by
      simp only [restL, divL, hk, divLoop_s, divLoop_z]
      rw [List.take_of_length_le (by lia), ha.tr]
    rw [hq, hr]
    exact ⟨good_nil, ha, by lia, by simp, Nat.le_refl _, [], fun n => by simp [ev]⟩
  · (refine e1_4 ?_ (divLoop_spec (turn := invP p (lead b)) (by lia) b hbl ht (a.length + 1 - b.length) a (List.replicate (a.length + 1 - b.length) 0) (by lia) (by simp) ha.rng (fun x hx => by rw [List.eq_of_mem_replicate hx]; lia)
      (fun i hi => by simp [List.getD_eq_getElem?_getD, hi]) (fun i hi => getD_of_le (by lia))); intro w hw hA hB hC)
    have hlen := divLoop_len (p := p) (turn := invP p (lead b)) (b := b) (a.length + 1 - b.length) a (List.replicate (a.length + 1 - b.length) 0)
    refine ⟨good_trim hA, good_trim fun x hx => hB x (List.mem_of_mem_take hx), ?_, ?_, ?_, w.map ((-1) * ·), fun n => ?_⟩
    · refine Nat.lt_of_le_of_lt (trim_length _) ?_
      rw [List.length_take]; lia
    · refine Nat.le_trans (trim_length _) ?_
      rw [hlen.1]; simp; lia
    · refine Nat.le_trans (trim_length _) ?_
      rw [List.length_take, hlen.2]; lia
    · have h3 := hw n
      rw [ev_all_zero (List.replicate _ 0) (by simp) n] at h3
      simp only [quotL, restL, divL]
      rw [ev_trim, ev_trim, ev_take_zero _ _ hC, ev_map]
      grind
end Mine
end
noncomputable section
open PySem PySem.W PyProof.Rows PySem.Calls PySem.Spec
set_option Elab.async false
set_option linter.all false
namespace Mine

noncomputable def derL (p : Int) (a : List Int) : List Int := trim (((List.range a.length).map fun (k : Nat) => (k : Int) * a.getD k 0 % p).drop 1)
noncomputable def matL (p x : Int) : List Int → Int
  | [] => 0
  | y :: t => (matL p x t * x + y) % p
noncomputable def rootL (p : Nat) (a : List Int) : List Int := (List.range ((a.length + p - 1) / p)).map fun k => a.getD (k * p) 0
noncomputable def wholeL (a : List Int) : Int := ev a 1000

noncomputable def derG (p : Int) : PyData → PyData := pairG fun k x => k * x % p
theorem derG_eq {p k x : Int} : derG p (.tuple [.int k, .int x]) = .int (k * x % p) := rfl
noncomputable def RestOk (p : Int) (O : Orc) : Prop := ∀ a b, Good p a → Good p b → b ≠ [] → a.length < 400 → b.length < 400 → O "mrest" [L a, L b, .int p] = some (L (restL p a b))
noncomputable def QuotOk (p : Int) (O : Orc) : Prop := ∀ a b, Good p a → Good p b → b ≠ [] → a.length < 400 → b.length < 400 → O "mquotient" [L a, L b, .int p] = some (L (quotL p a b))
noncomputable def DivOk (p : Int) (O : Orc) : Prop := ∀ a b, Good p a → Good p b → b ≠ [] → a.length < 400 → b.length < 400 → O "mdivmod" [L a, L b, .int p] = some (.tuple [L (quotL p a b), L (restL p a b)])
noncomputable def MonicOk (p : Int) (O : Orc) : Prop := ∀ a, Good p a → a.length < 400 → O "mmonic" [L a, .int p] = some (L (monicL p a))
noncomputable def MulOk (p : Int) (O : Orc) : Prop := ∀ a b, Good p a → Good p b → a.length < 400 → b.length < 400 → O "mmul" [L a, L b, .int p] = some (L (mulL p a b))
noncomputable def ScaleOk (p : Int) (O : Orc) : Prop := ∀ a (k : Int), Good p a → 0 ≤ k → k < 100 → a.length < 400 → O "mscale" [L a, .int k, .int p] = some (L (scaleL p a k))
noncomputable def SubOk (p : Int) (O : Orc) : Prop := ∀ a b, Good p a → Good p b → a.length < 400 → b.length < 400 → O "msub" [L a, L b, .int p] = some (L (subL p a b))
noncomputable def GcdOk (p : Int) (O : Orc) : Prop := ∀ a b, Good p a → Good p b → a.length < 400 → b.length < 400 → O "mgcd" [L a, L b, .int p] = some (L (gcdL p a b))
noncomputable def DerOk (p : Int) (O : Orc) : Prop := ∀ a, Good p a → a.length < 400 → O "mderive" [L a, .int p] = some (L (derL p a))
noncomputable def DegOk (O : Orc) : Prop := ∀ xs : List PyData, xs.length < 400 → O "mdegree" [.list xs] = some (.int (xs.length - 1))
noncomputable def InvOk (p : Int) (O : Orc) : Prop := ∀ l, 0 < l → l < p → O "inverse_mod" [.int l, .int p] = some (.int (invP p l))

theorem gcdF_stable {p : Int} (hp : PP p) : ∀ (n m : Nat) (a b : List Int), Good p a → Good p b → b.length < n → b.length < m → gcdF p n a b = gcdF p m a b
  | 0, _, _, _, _, _, h, _ => absurd h (Nat.not_lt_zero _)
  | _, 0, _, _, _, _, _, h => absurd h (Nat.not_lt_zero _)
  | n + 1, m + 1, a, b, ha, hb, h1, h2 => by
    rw [gcdF_s, gcdF_s]
    by_cases hn : b = []
    · rw [if_pos hn, if_pos hn]
    · rw [if_neg hn, if_neg hn]
      (refine e0_4 ?_ (div_spec hp ha hb hn); intro _ g l _)
      exact gcdF_stable hp n m b _ hb g (by lia) (by lia)
theorem gcdF_good {p : Int} (hp : PP p) : ∀ (n : Nat) (a b : List Int), Good p a → Good p b → a.length < 400 → b.length < 400 → Good p (gcdF p n a b) ∧ (gcdF p n a b).length < 400
  | 0, a, b, ha, hb, h, _ => ⟨ha, h⟩
  | n + 1, a, b, ha, hb, h1, h2 => by
    rw [gcdF_s]
    by_cases hn : b = []
    · rw [if_pos hn]; exact ⟨ha, h1⟩
    · rw [if_neg hn]
      (refine e0_4 ?_ (div_spec hp ha hb hn); intro _ g l _)
      exact gcdF_good hp n b _ hb g h2 (by lia)

section
variable (O : Orc) (a b : List Int) (p : Int)
theorem run24 (hp : PP p) (hR : RestOk p O) (hM : MonicOk p O) (ha : Good p a) (hb : Good p b) (hl : a.length < 400) (hl2 : b.length < 400) : runF 24 O [L a, L b, .int p] = some (L (gcdL p a b)) := by
  have hps : psOf (fdef 24) = [("a" : Str), "b", "p"] := by rfl
  unfold runF
  rw [hps, show ownsAt 24 = [] from rfl]
  conv => lhs; arg 1; arg 4; whnf
  refine go_while (fun σ n => ∃ a' b', σ "a" = some (.val (L a')) ∧ σ "b" = some (.val (L b')) ∧ σ "p" = some (.val (.int p)) ∧ Good p a' ∧ Good p b' ∧ a'.length < 400 ∧ b'.length < 400 ∧ n = b'.length ∧ gcdF p 1000 a' b' = gcdF p 1000 a b)
    (fun σ => σ "p" = some (.val (.int p)) ∧ ∃ g, σ "a" = some (.val (L g)) ∧ g = gcdF p 1000 a b ∧ Good p g ∧ g.length < 400) ?_ (n := b.length) ⟨a, b, by simp only [setAllV, setS, str_inj, ↓reduceIte, eq_self, String.reduceEq], by simp only [setAllV, setS, str_inj, ↓reduceIte, eq_self, String.reduceEq], by simp only [setAllV, setS, ↓reduceIte, eq_self], ha, hb, hl, hl2, rfl, rfl⟩ (by lia) ?_
  · (intro σ n zz1; refine e2_9 ?_ zz1; clear zz1; intro a' b' h1 h2 h3 g1 g2 l1 l2 zz2 hg; subst zz2)
    have hlo := lenOk_of (show b'.length ≤ 100000 by lia)
    by_cases hn : b' = []
    · left
      subst hn
      refine ⟨by simp only [bind2_some, lenV_list, ev_int, evB_name, ev_len, et_cmp, Slot.data, cmpGt, Option.bind_some, Option.map_some, ↓reduceIte, eq_self, h2, List.map_nil, List.length_nil, lenOk_of (show 0 ≤ 100000 by lia)]; rfl, h3, a', h1, ?_, g1, l1⟩
      rw [← hg]; rfl
    · right
      have h0 : (0 : Int) < (b'.length : Int) := by have := List.length_pos_iff.mpr hn; lia
      (refine e0_4 ?_ (div_spec hp g1 g2 hn); intro _ g l _)
      refine ⟨by simp only [bind2_some, lenV_list, ev_int, evB_name, ev_len, et_cmp, Slot.data, cmpGt, Option.bind_some, Option.map_some, decide_true, ↓reduceIte, eq_self, h2, List.length_map, hlo, h0], setS (setS σ "a" (.val (L b'))) "b" (.val (L (restL p a' b'))), (restL p a' b').length, ?_, l, b', restL p a' b', by simp only [setS, str_inj, ↓reduceIte, eq_self, String.reduceEq], by simp only [setS, ↓reduceIte, eq_self], by simp only [setS, str_inj, if_false, eq_self, String.reduceEq, h3], g2, g, l2, by lia, rfl, ?_⟩
      · simp only [bind2_some, valO_val, consO_eq, asgT_eq, stoTs_some, ev_name, ev_call, isB, str_beq, String.reduceBEq, Bool.or_self, el_nil, el_cons, xs_tup, slotV_val, sv_nil, sv_cons, List.contains_nil, xss_nil, xss_cons, contF_next, setAllS, nm_nil, nm_cons, Option.bind_eq_bind, Option.bind_some, Option.map_some, eq_self, h1, h2, h3, hR a' b' g1 g2 hn l1 l2]
      · rw [← hg]
        conv => rhs; rw [gcdF_s, if_neg hn]
        exact gcdF_stable hp 1000 999 b' _ g2 g (by lia) (by lia)
  · (intro σ zz1; refine e0_2 ?_ zz1; clear zz1; intro h1 zz2; refine e1_4 ?_ zz2; clear zz2; intro g h2 zz3 g1 l1; subst zz3)
    refine go_retE ?_
    simp only [bind2_some, valO_val, consO_eq, ev_name, ev_call, isB, str_beq, String.reduceBEq, Bool.or_self, el_nil, el_cons, relS, Slot.data, Option.bind_some, Option.map_some, eq_self, h1, h2, hM _ g1 l1, gcdL]
theorem run17 (hT : TrimOk O) (hp : PP p) (ha : Good p a) (hl : a.length < 400) : runF 17 O [L a, .int p] = some (L (derL p a)) := by
  have hb : psOf (fdef 17) = [("a" : Str), "p"] := by rfl
  have hpp := hp.pos
  unfold runF
  rw [hb, show ownsAt 17 = [] from rfl]
  conv => lhs; arg 1; arg 4; whnf
  have hc := hT (((List.range a.length).map fun (k : Nat) => (k : Int) * a.getD k 0 % p).drop 1) (by simp; lia)
  refine go_retE ?_
  simp only [bind2_some, valO_val, enumV_list, consO_eq, compB_list, ev_int, ev_name, ev_comp, evB_comp, sl_lo, ev_call, ev_enum, isB, str_beq, String.reduceBEq, Bool.or_self, el_nil, el_cons, ec_cons, setAllV, setS, relS, str_inj, Slot.data, Option.bind_some, Option.map_some, ↓reduceIte, eq_self, String.reduceEq]
  rw [compItems_all (derG p)]
  · have e1 : (enumL 0 (a.map .int)).map (derG p) = ((List.range a.length).map fun (k : Nat) => (k : Int) * a.getD k 0 % p).map .int := by
      apply List.ext_getElem?
      intro i
      rw [List.getElem?_map, List.map_map, List.getElem?_map]
      by_cases hi : i < a.length
      · have : (enumL 0 (a.map .int))[i]? = some ((enumL 0 (a.map .int))[i]'(by rw [enumL_length]; simpa using hi)) := List.getElem?_eq_getElem _
        (refine e0_2 ?_ (enum_ints this); intro _ h2)
        rw [this, h2, List.getElem?_range hi]; rfl
      · rw [List.getElem?_eq_none (by rw [enumL_length]; simpa using hi), List.getElem?_eq_none (by simpa using hi)]; rfl
    rw [e1]
    have hlo := lenOk_of (show a.length ≤ 100000 by lia)
    simp only [Option.bind_some, bind2_some, dropV_list, okLV_eq, List.length_map, List.length_range, hlo, if_true, and_true, true_and, Int.reduceLE]
    rw [if_pos (show smallI 1 = true by decide), ← List.map_drop, show (1 : Int).toNat = 1 from rfl]
    simp only [Option.bind_some, bind2_some, consO_eq, hc]
    rfl
  · intro d hd
    (refine e1_1 ?_ (List.mem_iff_getElem?.mp hd); intro i hi)
    (refine e0_2 ?_ (enum_ints hi); intro h1 zz1; subst zz1)
    have hx := ha.rng _ (by rw [List.getD_eq_getElem?_getD, List.getElem?_eq_getElem h1]; exact List.getElem_mem h1 : a.getD i 0 ∈ a)
    have hs : smallI (a.getD i 0) = true := small_of (by lia)
    exact ⟨_, rfl, rfl, by simp only [bind2_some, valO_val, ev_name, ev_bin, rdV_eq, str_beq, String.reduceBEq, eg_nil, setAllV, setS, relS, str_inj, List.lookup_cons, Slot.data, compSto, freeS_free, Option.bind_some, valO_val, Option.map_some, ↓reduceIte, eq_self, String.reduceEq, binMul hs, binMod (show 0 < p by lia), derG_eq]⟩
end
end Mine
end
noncomputable section
open PySem PySem.W PyProof.Rows PySem.Calls PySem.Spec
set_option Elab.async false
set_option linter.all false
namespace Mine

noncomputable def sqfL (p : Int) (f : List Int) : Bool := if f.length > 1 then decide ((gcdL p f (derL p f)).length = 1) else decide (0 < f.length)
theorem monic_good {p : Int} (hp : PP p) {a : List Int} (ha : Good p a) : Good p (monicL p a) := by
  have := hp.pos
  unfold monicL
  split
  · exact good_nil
  · exact scale_good (by lia) _ _
theorem scale_length (p : Int) (a : List Int) (k : Int) : (scaleL p a k).length ≤ a.length := by
  refine Nat.le_trans (trim_length _) ?_; simp
theorem monic_length (p : Int) (a : List Int) : (monicL p a).length ≤ a.length := by
  unfold monicL
  split
  · simp
  · exact scale_length ..
theorem der_good {p : Int} (hp : PP p) (a : List Int) : Good p (derL p a) := good_trim fun x hx => by
  (refine e1_2 ?_ (List.mem_map.mp (List.mem_of_mem_drop hx)); intro y _ zz1; subst zz1)
  exact inR_mod (by have := hp.pos; lia) _
theorem der_length (p : Int) (a : List Int) : (derL p a).length ≤ a.length - 1 := by
  refine Nat.le_trans (trim_length _) ?_; simp
theorem gcd_good {p : Int} (hp : PP p) {a b : List Int} (ha : Good p a) (hb : Good p b) (hl : a.length < 400) (hl2 : b.length < 400) : Good p (gcdL p a b) ∧ (gcdL p a b).length < 400 := by
  (refine e0_2 ?_ (gcdF_good hp 1000 a b ha hb hl hl2); intro h1 h2)
  have := monic_length p (gcdF p 1000 a b)
  exact ⟨monic_good hp h1, by rw [gcdL]; lia⟩

section
variable (O : Orc) (a b f : List Int) (p x : Int)
theorem run27 (hp : PP p) (hD : DegOk O) (hG : GcdOk p O) (hDe : DerOk p O) (hf : Good p f) (hl : f.length < 400) : runF 27 O [L f, .int p] = some (.bool (sqfL p f)) := by
  have hb : psOf (fdef 27) = [("f" : Str), "p"] := by rfl
  have hlo := lenOk_of (show f.length ≤ 100000 by lia)
  unfold runF
  rw [hb, show ownsAt 27 = [] from rfl]
  conv => lhs; arg 1; arg 4; whnf
  refine go_retE ?_
  have h1 := hD (f.map .int) (by rw [List.length_map]; exact hl)
  have h2 := der_length p f
  have h3 := hDe f hf hl
  have h4 := hG f (derL p f) hf (der_good hp f) hl (by lia)
  have h5 := gcd_good hp hf (der_good hp f) hl (by lia)
  have h6 := hD ((gcdL p f (derL p f)).map .int) (by rw [List.length_map]; exact h5.2)
  rw [List.length_map] at h1 h6
  unfold sqfL
  by_cases hc : f.length > 1
  · have e1 : (0 : Int) < (f.length : Int) - 1 := by lia
    rw [if_pos hc]
    simp only [bind2_some, valO_val, cmpB_eq, ite_t, lenV_list, consO_eq, ev_int, ev_name, ev_ite, ev_cmp, evB_name, ev_call, ev_len, isB, str_beq, String.reduceBEq, Bool.or_self, el_nil, el_cons, et_cmp, setAllV, setS, relS, str_inj, Slot.data, cmpGt, cmpEqI, Option.bind_some, Option.map_some, decide_true, ↓reduceIte, eq_self, String.reduceEq, h1, h3, h4, h6, e1]
    congr 2
    simp only [decide_eq_decide]; lia
  · have e1 : ¬ (0 : Int) < (f.length : Int) - 1 := by lia
    rw [if_neg hc]
    simp only [bind2_some, valO_val, cmpB_eq, ite_f, lenV_list, consO_eq, ev_int, ev_name, ev_ite, ev_cmp, evB_name, ev_call, ev_len, isB, str_beq, String.reduceBEq, Bool.or_self, el_nil, el_cons, et_cmp, setAllV, setS, relS, str_inj, Slot.data, cmpGt, Option.bind_some, Option.map_some, decide_false, ↓reduceIte, eq_self, String.reduceEq, h1, e1, List.length_map, hlo]
    congr 2
    simp only [decide_eq_decide]; lia

theorem run18 (hp : 0 < p) (hx : smallI x = true) (hl : a.length < 1000) : runF 18 O [L a, .int x, .int p] = some (.int (matL p x a)) := by
  have hb : psOf (fdef 18) = [("a" : Str), "x", "p"] := by rfl
  have hlo := lenOk_of (show a.length ≤ 100000 by lia)
  unfold runF
  rw [hb, show ownsAt 18 = [] from rfl]
  conv => lhs; arg 1; arg 4; whnf
  refine go_step (σ1 := setS (setAllV (fun _ => none) [("a" : Str), "x", "p"] [L a, .int x, .int p]) "found" (.val (.int 0))) (by simp only [stoS_some, ev_int, xs_name, slotV_val, List.contains_nil, setAllV, Option.map_some, eq_self]) ?_
  refine go_next (nx_for (items := (a.reverse).map .int) (by simp only [bind2_some, negV_int, revV_list, ev_int, ev_neg, evB_name, sl_st, setAllV, setS, str_inj, Slot.data, items_list, items_tup, forItems, Option.bind_some, Option.map_some, ↓reduceIte, eq_self, String.reduceEq, List.length_map, hlo, and_self, List.map_reverse, Int.reduceNeg])
    (fun k σ => σ "x" = some (.val (.int x)) ∧ σ "p" = some (.val (.int p)) ∧ σ "found" = some (.val (.int (matL p x (a.drop (a.length - k)))))) ?_ ?_ ?_)
  · simp only [setAllV, setS, str_inj, ↓reduceIte, eq_self, String.reduceEq, Nat.sub_zero, List.drop_length, matL, and_self]
  · (intro k d σ hd zz1; refine e0_3 ?_ zz1; clear zz1; intro h1 h2 h3)
    rw [List.getElem?_map] at hd
    (refine e1_2 ?_ (Option.map_eq_some_iff.mp hd); intro y hy zz1; subst zz1)
    have hk : k < a.length := by have := (List.getElem?_eq_some_iff.mp hy).1; simpa using this
    have e1 : a.drop (a.length - (k + 1)) = y :: a.drop (a.length - k) := by
      have e2 : a.length - (k + 1) < a.length := by lia
      rw [List.drop_eq_getElem_cons e2]
      have e3 : a.length - (k + 1) + 1 = a.length - k := by lia
      rw [e3]
      congr 1
      rw [List.getElem?_reverse (by lia)] at hy
      have e4 : a.length - 1 - k = a.length - (k + 1) := by lia
      rw [e4, List.getElem?_eq_getElem e2] at hy
      exact Option.some.inj hy
    refine ⟨setS σ "number" (.val (.int y)), rfl, ?_⟩
    rw [e1, matL]
    exact nx_step (σ1 := setS (setS σ "number" (.val (.int y))) "found" (.val (.int ((matL p x (a.drop (a.length - k)) * x + y) % p)))) (by simp only [bind2_some, valO_val, stoS_some, ev_name, ev_bin, xs_name, slotV_val, List.contains_nil, setS, str_inj, binAdd, Option.map_some, ↓reduceIte, eq_self, String.reduceEq, h1, h2, h3, binMul hx, binMod hp]) (nx_nil ⟨by simp only [setS, str_inj, if_false, eq_self, String.reduceEq, h1], by simp only [setS, str_inj, if_false, eq_self, String.reduceEq, h2], by simp only [setS, ↓reduceIte, eq_self]⟩)
  · (intro σ zz1; refine e0_3 ?_ zz1; clear zz1; intro h1 h2 h3)
    refine go_retE ?_
    rw [List.length_map, List.length_reverse, Nat.sub_self, List.drop_zero] at h3
    simp only [valO_val, ev_name, relS, Slot.data, Option.map_some, eq_self, h3]

noncomputable def prodL (p : Int) (some' : List (List Int)) : List Int := some'.foldl (fun f o => mulL p f o) [1]
theorem run20 (hp : PP p) (hM : MulOk p O) (some' : List (List Int)) (hg : ∀ o ∈ some', Good p o) (hl : ∀ k, k ≤ some'.length → (prodL p (some'.take k)).length < 400) (hl2 : ∀ o ∈ some', o.length < 400) : runF 20 O [.list (some'.map L), .int p] = some (L (prodL p some')) := by
  have hb : psOf (fdef 20) = [("some" : Str), "p"] := by rfl
  have hpp := hp.pos
  unfold runF
  rw [hb, show ownsAt 20 = [] from rfl]
  conv => lhs; arg 1; arg 4; whnf
  refine go_step (σ1 := setS (setAllV (fun _ => none) [("some" : Str), "p"] [.list (some'.map L), .int p]) "found" (.val (L [1]))) (by simp only [bind2_some, consO_eq, stoS_some, ev_int, ev_list, el_nil, el_cons, xs_name, slotV_val, List.contains_nil, setAllV, Option.map_some]; rfl) ?_
  refine go_next (nx_for (items := some'.map L) (by simp only [valO_val, ev_name, setAllV, setS, str_inj, items_list, items_tup, forItems, Option.bind_some, ↓reduceIte, eq_self, String.reduceEq])
    (fun k σ => σ "p" = some (.val (.int p)) ∧ σ "found" = some (.val (L (prodL p (some'.take k)))) ∧ Good p (prodL p (some'.take k))) ?_ ?_ ?_)
  · refine ⟨by simp only [setAllV, setS, str_inj, ↓reduceIte, eq_self, String.reduceEq], by simp only [setS, ↓reduceIte, eq_self]; rfl, ?_⟩
    refine ⟨fun x hx => ?_, rfl⟩
    simp [prodL] at hx; lia
  · (intro k d σ hd zz1; refine e0_3 ?_ zz1; clear zz1; intro h1 h2 h3)
    rw [List.getElem?_map] at hd
    (refine e1_2 ?_ (Option.map_eq_some_iff.mp hd); intro o ho zz1; subst zz1)
    have hk := (List.getElem?_eq_some_iff.mp ho).1
    have hmem := List.mem_of_getElem? ho
    have e1 : prodL p (some'.take (k + 1)) = mulL p (prodL p (some'.take k)) o := by
      rw [List.take_succ, ho]; simp [prodL, List.foldl_append]
    refine ⟨setS σ "one" (.val (L o)), rfl, ?_⟩
    rw [e1]
    have hc := hM _ o h3 (hg o hmem) (hl k (by lia)) (hl2 o hmem)
    exact nx_step (σ1 := setS (setS σ "one" (.val (L o))) "found" (.val (L (mulL p (prodL p (some'.take k)) o)))) (by simp only [bind2_some, valO_val, consO_eq, stoS_some, ev_name, ev_call, isB, str_beq, String.reduceBEq, Bool.or_self, el_nil, el_cons, xs_name, slotV_val, List.contains_nil, setS, str_inj, Option.bind_some, Option.map_some, ↓reduceIte, eq_self, String.reduceEq, h1, h2, hc]) (nx_nil ⟨by simp only [setS, str_inj, if_false, eq_self, String.reduceEq, h1], by simp only [setS, ↓reduceIte, eq_self], mulL_good (by lia) _ _⟩)
  · (intro σ zz1; refine e0_3 ?_ zz1; clear zz1; intro h1 h2 h3)
    refine go_retE ?_
    rw [List.length_map, List.take_length] at h2
    simp only [valO_val, ev_name, relS, Slot.data, Option.map_some, eq_self, h2]
theorem run22 (q : Nat) (hq : 0 < q) (hq2 : q < 100) (hl : a.length < 1000) : runF 22 O [L a, .int (q : Int)] = some (L (rootL q a)) := by
  have hb : psOf (fdef 22) = [("a" : Str), "p"] := by rfl
  have hlo := lenOk_of (show a.length ≤ 100000 by lia)
  unfold runF
  rw [hb, show ownsAt 22 = [] from rfl]
  conv => lhs; arg 1; arg 4; whnf
  refine go_retE ?_
  have hs : (smallI 0 && smallI (a.length : Int) && (decide ((q : Int) ≠ 0) && decide ((-1000 : Int) ≤ (q : Int)) && decide ((q : Int) ≤ 1000))) = true := by
    rw [small_of (a := 0) (by lia), small_of (a := (a.length : Int)) (by lia)]
    simp; lia
  have hrl : rangeL 0 (a.length : Int) (q : Int) = (List.range ((a.length + q - 1) / q)).map fun (i : Nat) => PyData.int ((i * q : Nat) : Int) := by
    unfold rangeL Builtin.Range.rangeSize
    have : (if (0 : Int) < (q : Int) then if (0 : Int) < (a.length : Int) then ((a.length : Int) - 0 - 1) / (q : Int) + 1 else 0 else if (a.length : Int) < 0 then ((0 : Int) - a.length - 1) / -(q : Int) + 1 else 0).toNat = (a.length + q - 1) / q := by
      rw [if_pos (by lia)]
      split
      · have e1 : a.length + q - 1 = a.length - 1 + q := by lia
        rw [e1, Nat.add_div_right _ hq]
        have : ((a.length : Int) - 0 - 1) / (q : Int) = ((a.length - 1) / q : Nat) := by
          rw [show (a.length : Int) - 0 - 1 = ((a.length - 1 : Nat) : Int) by lia]; rfl
        rw [this]
        generalize (a.length - 1) / q = z
        lia
      · have : a.length = 0 := by lia
        rw [this, Nat.zero_add, Nat.div_eq_of_lt (by lia)]; rfl
    rw [this]
    apply List.map_congr_left
    intro i _
    congr 1; simp
  simp only [bind2_some, valO_val, lenV_list, consO_eq, ev_int, ev_name, ev_comp, evB_name, ev_len, ev_range, el_nil, el_cons, ec_cons, setAllV, setS, relS, str_inj, Slot.data, Option.bind_some, Option.map_some, ↓reduceIte, eq_self, String.reduceEq, List.length_map, hlo]
  simp only [rangeV1, rangeV2, rangeV3]
  rw [if_pos (by simpa [and_assoc] using hs), hrl]
  simp only [compB_list, Option.map_some]
  rw [compItems_all (fun d => match d with | .int k => .int (a.getD k.toNat 0) | d => d)]
  · have : lenOk ((a.length + q - 1) / q) = true := lenOk_of (by have := Nat.div_le_self (a.length + q - 1) q; lia)
    simp only [Option.bind_some, okLV_eq, List.length_map, List.length_range, this, if_true, List.map_map, L, rootL]
    congr 2
  · intro d hd
    (refine e1_2 ?_ (List.mem_map.mp hd); intro i hi zz1; subst zz1)
    have hi' := List.mem_range.mp hi
    have h2 : i * q < a.length := by
      have h3 : i + 1 ≤ (a.length + q - 1) / q := hi'
      have h4 := (Nat.le_div_iff_mul_le hq).mp h3
      rw [Nat.add_mul] at h4; lia
    exact ⟨_, rfl, rfl, by simp only [bind2_some, valO_val, ev_name, evB_name, rdV_eq, ix_name, str_beq, String.reduceBEq, eg_nil, setS, relS, str_inj, List.lookup_cons, Slot.data, compSto, freeS_free, Option.bind_some, valO_val, Option.map_some, ↓reduceIte, eq_self, String.reduceEq, idx_nat h2 (show a.length ≤ 100000 by lia), Int.toNat_natCast]⟩
end
end Mine
end
noncomputable section
open PySem PySem.W PyProof.Rows PySem.Calls PySem.Spec
set_option Elab.async false
set_option linter.all false
namespace Mine

noncomputable def powF (p : Int) (f : List Int) : Nat → List Int → List Int → Nat → List Int
  | 0, found, _, _ => found
  | k + 1, found, sq, n => if n = 0 then found else
    powF p f k (if n % 2 = 1 then restL p (mulL p found sq) f else found) (if 0 < n / 2 then restL p (mulL p sq sq) f else sq) (n / 2)
theorem powF_s {p : Int} {f : List Int} {k : Nat} {found sq : List Int} {n : Nat} : powF p f (k + 1) found sq n = if n = 0 then found else
    powF p f k (if n % 2 = 1 then restL p (mulL p found sq) f else found) (if 0 < n / 2 then restL p (mulL p sq sq) f else sq) (n / 2) := rfl
noncomputable def powL (p : Int) (a : List Int) (n : Nat) (f : List Int) : List Int := powF p f 1000 (restL p [1] f) (restL p a f) n
noncomputable abbrev T3 := List Int × List Int × List Int
noncomputable def extF (p : Int) : Nat → T3 → T3 → T3
  | 0, o, _ => o
  | k + 1, (r0, s0, t0), (r1, s1, t1) => if r1 = [] then (r0, s0, t0) else
    extF p k (r1, s1, t1) (restL p r0 r1, subL p s0 (mulL p (quotL p r0 r1) s1), subL p t0 (mulL p (quotL p r0 r1) t1))
theorem extF_s {p : Int} {k : Nat} {r0 s0 t0 r1 s1 t1 : List Int} : extF p (k + 1) (r0, s0, t0) (r1, s1, t1) = if r1 = [] then (r0, s0, t0) else
    extF p k (r1, s1, t1) (restL p r0 r1, subL p s0 (mulL p (quotL p r0 r1) s1), subL p t0 (mulL p (quotL p r0 r1) t1)) := rfl
noncomputable def extL (p : Int) (a b : List Int) : T3 :=
  let z := extF p 1000 (a, [1], []) (b, [], [1])
  if z.1 = [] then ([], [], []) else (scaleL p z.1 (invP p (lead z.1)), scaleL p z.2.1 (invP p (lead z.1)), scaleL p z.2.2 (invP p (lead z.1)))
noncomputable def t3 (z : T3) : PyData := .tuple [L z.1, L z.2.1, L z.2.2]
theorem sub_good {p : Int} (hp : PP p) (a b : List Int) : Good p (subL p a b) := add_good (by have := hp.pos; lia) _ _
theorem sub_length (p : Int) (a b : List Int) : (subL p a b).length ≤ max a.length b.length := by
  have := add_length p a (negL p b); rw [neg_length] at this; exact this
theorem good_one {p : Int} (hp : PP p) : Good p [1] := ⟨fun x hx => by have := hp.pos; simp at hx; lia, rfl⟩

section
variable (O : Orc) (a b f : List Int) (p : Int)
theorem run25 (hp : PP p) (hD : DivOk p O) (hM : MulOk p O) (hS : SubOk p O) (hI : InvOk p O) (hC : ScaleOk p O) (ha : Good p a) (hb : Good p b) (hl : a.length ≤ 12) (hl2 : b.length ≤ 12) : runF 25 O [L a, L b, .int p] = some (t3 (extL p a b)) := by
  have hps : psOf (fdef 25) = [("a" : Str), "b", "p"] := by rfl
  have hpp := hp.pos
  unfold runF
  rw [hps, show ownsAt 25 = [] from rfl]
  conv => lhs; arg 1; arg 4; whnf
  refine go_step (σ1 := setS (setS (setAllV (fun _ => none) [("a" : Str), "b", "p"] [L a, L b, .int p]) "one" (.val (t3 (a, [1], [])))) "other" (.val (t3 (b, [], [1])))) (by simp only [bind2_some, valO_val, consO_eq, asgT_eq, stoTs_some, ev_int, ev_name, ev_list, ev_tup, el_nil, el_cons, xs_tup, slotV_val, sv_nil, sv_cons, List.contains_nil, setAllV, setAllS, setS, str_inj, nm_nil, nm_cons, Option.bind_some, Option.map_some, ↓reduceIte, eq_self, String.reduceEq]; rfl) ?_
  refine go_while (fun σ n => ∃ o o' : T3, σ "one" = some (.val (t3 o)) ∧ σ "other" = some (.val (t3 o')) ∧ σ "p" = some (.val (.int p)) ∧ n = o'.1.length ∧ Good p o.1 ∧ Good p o'.1 ∧ Good p o.2.1 ∧ Good p o.2.2 ∧ Good p o'.2.1 ∧ Good p o'.2.2 ∧ o.1.length ≤ 12 ∧ o'.1.length ≤ 12 ∧
      (o.2.1.length + 13 * o'.1.length ≤ 200 ∧ o.2.2.length + 13 * o'.1.length ≤ 200 ∧ o'.2.1.length + 13 * o'.1.length ≤ 200 ∧ o'.2.2.length + 13 * o'.1.length ≤ 200) ∧ ∃ k, o'.1.length < k ∧ extF p k o o' = extF p 1000 (a, [1], []) (b, [], [1]))
    (fun σ => σ "p" = some (.val (.int p)) ∧ ∃ o : T3, σ "one" = some (.val (t3 o)) ∧ o = extF p 1000 (a, [1], []) (b, [], [1]) ∧ Good p o.1 ∧ Good p o.2.1 ∧ Good p o.2.2 ∧ o.1.length ≤ 12 ∧ o.2.1.length ≤ 200 ∧ o.2.2.length ≤ 200) ?_ (n := b.length)
    ⟨(a, [1], []), (b, [], [1]), by simp only [setS, str_inj, ↓reduceIte, eq_self, String.reduceEq], by simp only [setS, ↓reduceIte, eq_self], by simp only [setAllV, setS, str_inj, ↓reduceIte, eq_self, String.reduceEq], rfl, ha, hb, good_one hp, good_nil, good_nil, good_one hp, hl, hl2, ⟨by simp; lia, by simp; lia, by simp; lia, by simp; lia⟩, 1000, by simp; lia, rfl⟩ (by lia) ?_
  · (intro σ n zz1; refine e2_10 ?_ zz1; clear zz1; intro zz2 zz3 h1 h2 h3 hn g1 g2 g3 g4 g5 zz4; rcases zz2 with ⟨r0, s0, t0⟩; rcases zz3 with ⟨r1, s1, t1⟩; refine e0_5 ?_ zz4; clear zz4; intro g6 l1 l2 zz5 zz6; refine e0_4 ?_ zz5; clear zz5; intro b1 b2 b3 b4; refine e1_2 ?_ zz6; clear zz6; intro k hk he)
    simp only at hn g1 g2 g3 g4 g5 g6 l1 l2 b1 b2 b3 b4 hk
    subst hn
    have hlo := lenOk_of (show r1.length ≤ 100000 by lia)
    have i0 : ∀ x y z : PyData, idxV (.tuple [x, y, z]) (.int 0) = some x := fun x y z => rfl
    have i1 : ∀ x y z : PyData, idxV (.tuple [x, y, z]) (.int 1) = some y := fun x y z => rfl
    have i2 : ∀ x y z : PyData, idxV (.tuple [x, y, z]) (.int 2) = some z := fun x y z => rfl
    cases k with
    | zero => lia
    | succ k =>
    rw [extF_s] at he
    by_cases hr : r1 = []
    · left
      subst hr
      rw [if_pos rfl] at he
      exact ⟨by simp only [bind2_some, lenV_list, ev_int, evB_name, evB_sub, ix_int, ev_len, et_cmp, Slot.data, cmpGt, Option.bind_some, Option.map_some, ↓reduceIte, eq_self, h2, t3, i0, List.map_nil, List.length_nil, lenOk_of (show 0 ≤ 100000 by lia)]; rfl, h3, _, h1, he, g1, g3, g4, l1, by lia, by lia⟩
    · right
      rw [if_neg hr] at he
      have h0 : (0 : Int) < (r1.length : Int) := by have := List.length_pos_iff.mpr hr; lia
      have h0' : 0 < r1.length := List.length_pos_iff.mpr hr
      (refine e0_6 ?_ (div_spec hp g1 g2 hr); intro d1 d2 d3 d4 d5 _)
      have m1 := mulL_length p (quotL p r0 r1) s1
      have m2 := mulL_length p (quotL p r0 r1) t1
      have mg1 := mulL_good (p := p) (by lia) (quotL p r0 r1) s1
      have mg2 := mulL_good (p := p) (by lia) (quotL p r0 r1) t1
      have c1 := hD r0 r1 g1 g2 hr (by lia) (by lia)
      have c2 := hM (quotL p r0 r1) s1 d1 g5 (by lia) (by lia)
      have c3 := hM (quotL p r0 r1) t1 d1 g6 (by lia) (by lia)
      have c4 := hS s0 _ g3 mg1 (by lia) (by lia)
      have c5 := hS t0 _ g4 mg2 (by lia) (by lia)
      have n1 := sub_length p s0 (mulL p (quotL p r0 r1) s1)
      have n2 := sub_length p t0 (mulL p (quotL p r0 r1) t1)
      generalize hq : quotL p r0 r1 = q at *
      generalize hrr : restL p r0 r1 = r at *
      generalize hu : subL p s0 (mulL p q s1) = u at *
      generalize hv : subL p t0 (mulL p q t1) = v at *
      refine ⟨by simp only [bind2_some, lenV_list, ev_int, evB_name, evB_sub, ix_int, ev_len, et_cmp, Slot.data, cmpGt, Option.bind_some, Option.map_some, decide_true, ↓reduceIte, eq_self, h2, t3, i0, List.length_map, hlo, h0], setS (setS (setS (setS (setS σ "quotient" (.val (L q))) "rest" (.val (L r))) "later" (.val (t3 (r, u, v)))) "one" (.val (t3 (r1, s1, t1)))) "other" (.val (t3 (r, u, v))), r.length, ?_, d3, (r1, s1, t1), (r, u, v), by simp only [setS, str_inj, ↓reduceIte, eq_self, String.reduceEq], by simp only [setS, ↓reduceIte, eq_self], by simp only [setS, str_inj, if_false, eq_self, String.reduceEq, h3], rfl, g2, d2, g5, g6, hu ▸ sub_good hp _ _, hv ▸ sub_good hp _ _, l2, by simp; lia, ⟨by simp; lia, by simp; lia, by simp; lia, by simp; lia⟩, k, by simp; lia, he⟩
      simp only [bind2_some, valO_val, consO_eq, asgT_eq, asgE_tup, stoS_some, stoTs_some, ev_int, ev_name, ev_tup, evB_name, ix_int, ev_call, isB, str_beq, String.reduceBEq, Bool.or_self, el_nil, el_cons, xs_name, xs_tup, xs_tcall, slotV_val, sv_nil, sv_cons, List.contains_nil, xss_nil, xss_cons, contF_next, setAllS, setS, str_inj, Slot.data, nm_nil, nm_cons, Option.bind_eq_bind, Option.bind_some, Option.map_some, ↓reduceIte, eq_self, String.reduceEq, h1, h2, h3, t3, i0, i1, i2, c1, c2, c3, c4, c5, List.length_cons, List.length_nil, List.map_cons, List.map_nil]
  · (intro σ zz1; refine e0_2 ?_ zz1; clear zz1; intro h1 zz2; refine e1_8 ?_ zz2; clear zz2; intro zz3 h2 he g1 g2 g3 l1 l2 l3; rcases zz3 with ⟨r0, s0, t0⟩)
    simp only at g1 g2 g3 l1 l2 l3
    have hlo := lenOk_of (show r0.length ≤ 100000 by lia)
    have i0 : ∀ x y z : PyData, idxV (.tuple [x, y, z]) (.int 0) = some x := fun x y z => rfl
    have i1 : ∀ x y z : PyData, idxV (.tuple [x, y, z]) (.int 1) = some y := fun x y z => rfl
    have i2 : ∀ x y z : PyData, idxV (.tuple [x, y, z]) (.int 2) = some z := fun x y z => rfl
    unfold extL
    rw [← he]
    by_cases hr : r0 = []
    · subst hr
      refine go_if (c := true) (by simp only [bind2_some, lenV_list, ev_int, evB_name, evB_sub, ix_int, ev_len, et_cmp, Slot.data, cmpEqI, Option.bind_some, Option.map_some, ↓reduceIte, eq_self, h2, t3, i0, List.map_nil, List.length_nil, lenOk_of (show 0 ≤ 100000 by lia)]; rfl) ?_
      exact go_retE (by simp only [bind2_some, consO_eq, ev_list, ev_tup, el_nil, el_cons, Option.map_some, if_true, eq_self]; rfl)
    · have h0 : ¬ ((r0.length : Int) = 0) := by have := List.length_pos_iff.mpr hr; lia
      refine go_if (c := false) (by simp only [bind2_some, lenV_list, ev_int, evB_name, evB_sub, ix_int, ev_len, et_cmp, Slot.data, cmpEqI, Option.bind_some, Option.map_some, decide_false, ↓reduceIte, eq_self, h2, t3, i0, List.length_map, hlo, h0]) ?_
      simp only [hr, if_false]
      (refine e0_2 ?_ (good_last g1 hr); intro e1 e2)
      have hil := idx_last (a := r0.take (r0.length - 1)) (l := lead r0) (by simp; lia)
      rw [← e1] at hil
      have hin := invP_spec hp e2
      have c1 := hI (lead r0) e2.1 e2.2
      have c2 := hC r0 (invP p (lead r0)) g1 (by lia) (by lia) (by lia)
      have c3 := hC s0 (invP p (lead r0)) g2 (by lia) (by lia) (by lia)
      have c4 := hC t0 (invP p (lead r0)) g3 (by lia) (by lia) (by lia)
      refine go_step (σ1 := setS σ "turn" (.val (.int (invP p (lead r0))))) (by simp only [bind2_some, valO_val, negV_int, consO_eq, stoS_some, ev_int, ev_name, ev_neg, evB_name, evB_sub, ix_int, ix_neg, ev_call, isB, str_beq, String.reduceBEq, Bool.or_self, el_nil, el_cons, xs_name, slotV_val, List.contains_nil, Slot.data, Option.bind_some, Option.map_some, eq_self, h1, h2, t3, i0, hil, c1]) ?_
      refine go_retE ?_
      simp only [bind2_some, valO_val, consO_eq, ev_int, ev_name, ev_tup, evB_name, ix_int, ev_call, isB, str_beq, String.reduceBEq, Bool.or_self, el_nil, el_cons, setS, relS, str_inj, Slot.data, Option.bind_some, Option.map_some, ↓reduceIte, eq_self, String.reduceEq, h1, h2, t3, i0, i1, i2, c2, c3, c4]
end
end Mine
end
noncomputable section
open PySem PySem.W PyProof.Rows PySem.Calls PySem.Spec
set_option Elab.async false
set_option linter.all false
namespace Mine

noncomputable def ExtOk (p : Int) (O : Orc) : Prop := ∀ a b, Good p a → Good p b → a.length ≤ 12 → b.length ≤ 12 → O "mextended" [L a, L b, .int p] = some (t3 (extL p a b))
noncomputable def minvL (p : Int) (a f : List Int) : Option (List Int) := if (extL p (restL p a f) f).1 = [1] then some (restL p (extL p (restL p a f) f).2.1 f) else none
noncomputable def optD : Option (List Int) → PyData
  | some r => L r
  | none => .none
theorem ext_bounds {p : Int} (hp : PP p) : ∀ (k : Nat) (o o' : T3), o'.1.length < k → Good p o.1 → Good p o'.1 → Good p o.2.1 → Good p o.2.2 → Good p o'.2.1 → Good p o'.2.2 → o.1.length ≤ 12 → o'.1.length ≤ 12 →
    (o.2.1.length + 13 * o'.1.length ≤ 200 ∧ o.2.2.length + 13 * o'.1.length ≤ 200 ∧ o'.2.1.length + 13 * o'.1.length ≤ 200 ∧ o'.2.2.length + 13 * o'.1.length ≤ 200) →
    Good p (extF p k o o').1 ∧ Good p (extF p k o o').2.1 ∧ Good p (extF p k o o').2.2 ∧ (extF p k o o').1.length ≤ 12 ∧ (extF p k o o').2.1.length ≤ 200 ∧ (extF p k o o').2.2.length ≤ 200
  | 0, o, o', h, _, _, _, _, _, _, _, _, _ => absurd h (Nat.not_lt_zero _)
  | k + 1, (r0, s0, t0), (r1, s1, t1), h, g1, g2, g3, g4, g5, g6, l1, l2, ⟨b1, b2, b3, b4⟩ => by
    have hpp := hp.pos
    simp only at h g1 g2 g3 g4 g5 g6 l1 l2 b1 b2 b3 b4
    rw [extF_s]
    by_cases hr : r1 = []
    · rw [if_pos hr]; exact ⟨g1, g3, g4, l1, by simp; lia, by simp; lia⟩
    · rw [if_neg hr]
      have h0' : 0 < r1.length := List.length_pos_iff.mpr hr
      (refine e0_6 ?_ (div_spec hp g1 g2 hr); intro d1 d2 d3 d4 d5 _)
      have m1 := mulL_length p (quotL p r0 r1) s1
      have m2 := mulL_length p (quotL p r0 r1) t1
      have n1 := sub_length p s0 (mulL p (quotL p r0 r1) s1)
      have n2 := sub_length p t0 (mulL p (quotL p r0 r1) t1)
      exact ext_bounds hp k _ _ (by simp; lia) g2 d2 g5 g6 (sub_good hp _ _) (sub_good hp _ _) l2 (by simp; lia) ⟨by simp; lia, by simp; lia, by simp; lia, by simp; lia⟩
theorem extL_bounds {p : Int} (hp : PP p) {a b : List Int} (ha : Good p a) (hb : Good p b) (hl : a.length ≤ 12) (hl2 : b.length ≤ 12) :
    Good p (extL p a b).1 ∧ Good p (extL p a b).2.1 ∧ Good p (extL p a b).2.2 ∧ (extL p a b).1.length ≤ 12 ∧ (extL p a b).2.1.length ≤ 200 ∧ (extL p a b).2.2.length ≤ 200 := by
  have hpp := hp.pos
  (refine e0_6 ?_ (ext_bounds hp 1000 (a, [1], []) (b, [], [1]) (by simp; lia) ha hb (good_one hp) good_nil good_nil (good_one hp) hl hl2 ⟨by simp; lia, by simp; lia, by simp; lia, by simp; lia⟩); intro h1 h2 h3 h4 h5 h6)
  unfold extL
  generalize extF p 1000 (a, [1], []) (b, [], [1]) = z at *
  by_cases hz : z.1 = []
  · simp only [hz, if_true]; exact ⟨good_nil, good_nil, good_nil, by simp, by simp, by simp⟩
  · simp only [hz, if_false]
    exact ⟨scale_good (by lia) _ _, scale_good (by lia) _ _, scale_good (by lia) _ _, Nat.le_trans (scale_length ..) h4, Nat.le_trans (scale_length ..) h5, Nat.le_trans (scale_length ..) h6⟩

section
variable (O : Orc) (a b f : List Int) (p : Int)
theorem run26 (hp : PP p) (hR : RestOk p O) (hE : ExtOk p O) (ha : Good p a) (hf : Good p f) (hn : f ≠ []) (hl : a.length ≤ 12) (hl2 : f.length ≤ 12) : runF 26 O [L a, L f, .int p] = some (optD (minvL p a f)) := by
  have hps : psOf (fdef 26) = [("a" : Str), "f", "p"] := by rfl
  have hpp := hp.pos
  unfold runF
  rw [hps, show ownsAt 26 = [] from rfl]
  conv => lhs; arg 1; arg 4; whnf
  (refine e0_6 ?_ (div_spec hp ha hf hn); intro d1 d2 d3 d4 d5 _)
  have c1 := hR a f ha hf hn (by lia) (by lia)
  have c2 := hE _ f d2 hf (by lia) hl2
  (refine e0_6 ?_ (extL_bounds hp d2 hf (by lia) hl2); intro e1 e2 e3 e4 e5 e6)
  unfold minvL
  generalize extL p (restL p a f) f = z at *
  obtain ⟨g, s, t⟩ := z
  have c3 := hR s f e2 hf hn (by simp at e5; lia) (by lia)
  refine go_step (σ1 := setS (setS (setS (setAllV (fun _ => none) [("a" : Str), "f", "p"] [L a, L f, .int p]) "common" (.val (L g))) "s" (.val (L s))) "t" (.val (L t))) ?_ ?_
  · simp only [bind2_some, valO_val, consO_eq, asgE_tup, ev_name, ev_call, isB, str_beq, String.reduceBEq, Bool.or_self, el_nil, el_cons, xs_tcall, setAllV, setAllS, setS, str_inj, nm_nil, nm_cons, Option.bind_some, Option.map_some, ↓reduceIte, eq_self, String.reduceEq, c1, c2, t3, List.length_cons, List.length_nil, List.map_cons, List.map_nil]
  · refine go_retE ?_
    have h1 : cmpV .Eq (L g) (.list [.int 1]) = some (decide (g = [1])) := cmpEqL (b := [1])
    by_cases hg : g = [1]
    · have h1' : cmpV .Eq (L g) (.list [.int 1]) = some true := by rw [h1]; simp [hg]
      simp only []
      rw [if_pos hg]
      simp only [bind2_some, valO_val, ite_t, consO_eq, ev_int, ev_none, ev_name, ev_ite, ev_list, ev_call, isB, str_beq, String.reduceBEq, Bool.or_self, el_nil, el_cons, et_cmp, setAllV, setS, relS, str_inj, Slot.data, Option.bind_some, Option.map_some, ↓reduceIte, eq_self, String.reduceEq, h1', c3, optD]
    · have h1' : cmpV .Eq (L g) (.list [.int 1]) = some false := by rw [h1]; simp [hg]
      simp only []
      rw [if_neg hg]
      simp only [bind2_some, valO_val, ite_f, consO_eq, ev_int, ev_none, ev_name, ev_ite, ev_list, ev_call, isB, str_beq, String.reduceBEq, Bool.or_self, el_nil, el_cons, et_cmp, setAllV, setS, relS, str_inj, Slot.data, Option.bind_some, Option.map_some, ↓reduceIte, eq_self, String.reduceEq, h1', optD]
theorem run19 (n : Nat) (hp : PP p) (hR : RestOk p O) (hM : MulOk p O) (ha : Good p a) (hf : Good p f) (hn : f ≠ []) (hl : a.length < 100) (hl2 : f.length < 100) (hn2 : n < 900) : runF 19 O [L a, .int (n : Int), L f, .int p] = some (L (powL p a n f)) := by
  have hps : psOf (fdef 19) = [("a" : Str), "n", "f", "p"] := by rfl
  have hpp := hp.pos
  unfold runF
  rw [hps, show ownsAt 19 = [] from rfl]
  conv => lhs; arg 1; arg 4; whnf
  (refine e0_6 ?_ (div_spec hp ha hf hn); intro d1 d2 d3 d4 d5 _)
  (refine e0_6 ?_ (div_spec hp (good_one hp) hf hn); intro d1' d2' d3' d4' d5' _)
  have c1 := hR a f ha hf hn (by lia) (by lia)
  have c2 := hR [1] f (good_one hp) hf hn (by simp) (by lia)
  have c2' : O "mrest" [PyData.list [PyData.int 1], L f, .int p] = some (L (restL p [1] f)) := c2
  refine go_step (σ1 := setS (setS (setAllV (fun _ => none) [("a" : Str), "n", "f", "p"] [L a, .int (n : Int), L f, .int p]) "found" (.val (L (restL p [1] f)))) "square" (.val (L (restL p a f)))) (by simp only [bind2_some, valO_val, consO_eq, asgT_eq, stoTs_some, ev_int, ev_name, ev_list, ev_call, isB, str_beq, String.reduceBEq, Bool.or_self, el_nil, el_cons, xs_tup, slotV_val, sv_nil, sv_cons, List.contains_nil, setAllV, setAllS, setS, str_inj, nm_nil, nm_cons, Option.bind_some, Option.map_some, ↓reduceIte, eq_self, String.reduceEq, c1, c2']) ?_
  refine go_while (fun σ m => ∃ found sq, σ "n" = some (.val (.int (m : Int))) ∧ σ "f" = some (.val (L f)) ∧ σ "p" = some (.val (.int p)) ∧ σ "found" = some (.val (L found)) ∧ σ "square" = some (.val (L sq)) ∧ Good p found ∧ Good p sq ∧ found.length < f.length ∧ sq.length < f.length ∧
      ∃ k, m < k ∧ powF p f k found sq m = powL p a n f)
    (fun σ => σ "found" = some (.val (L (powL p a n f)))) ?_ (n := n) ⟨_, _, by simp only [setAllV, setS, str_inj, ↓reduceIte, eq_self, String.reduceEq], by simp only [setAllV, setS, str_inj, ↓reduceIte, eq_self, String.reduceEq], by simp only [setAllV, setS, str_inj, ↓reduceIte, eq_self, String.reduceEq], by simp only [setS, str_inj, ↓reduceIte, eq_self, String.reduceEq], by simp only [setS, ↓reduceIte, eq_self], d2', d2, d3', d3, 1000, by lia, rfl⟩ (by lia) ?_
  · (intro σ m zz1; refine e2_10 ?_ zz1; clear zz1; intro found sq h1 h2 h3 h4 h5 g1 g2 l1 l2 zz2; refine e1_2 ?_ zz2; clear zz2; intro k hk he)
    cases k with
    | zero => lia
    | succ k =>
    rw [powF_s] at he
    by_cases hm : m = 0
    · left
      rw [if_pos hm] at he
      subst hm
      exact ⟨by simp only [bind2_some, valO_val, ev_int, ev_name, et_cmp, cmpGt, h1]; rfl, he ▸ h4⟩
    · right
      rw [if_neg hm] at he
      have h0 : (0 : Int) < (m : Int) := by lia
      refine ⟨by simp only [bind2_some, valO_val, ev_int, ev_name, et_cmp, cmpGt, decide_true, eq_self, h1, h0], ?_⟩
      have e2 : (m : Int) / 2 = ((m / 2 : Nat) : Int) := by lia
      have e3 : binV .FloorDiv (.int (m : Int)) (.int 2) = some (.int ((m / 2 : Nat) : Int)) := by rw [binDiv (by lia) (by lia), e2]
      have mg1 := mulL_good (p := p) (by lia) found sq
      have ml1 := mulL_length p found sq
      have mg2 := mulL_good (p := p) (by lia) sq sq
      have ml2 := mulL_length p sq sq
      have k1 := hM found sq g1 g2 (by lia) (by lia)
      have k2 := hR _ f mg1 hf hn (by lia) (by lia)
      have k3 := hM sq sq g2 g2 (by lia) (by lia)
      have k4 := hR _ f mg2 hf hn (by lia) (by lia)
      have dd1 := div_spec hp mg1 hf hn
      have dd2 := div_spec hp mg2 hf hn
      have st1 : NextP (exS O [] 1000 (.Pass ⟨0,0,0,0⟩) σ) (fun _ => True) → True := fun _ => trivial
      suffices hs : NextP (exSs O [] 1000 _ σ) (fun σ' => σ' "n" = some (.val (.int ((m / 2 : Nat) : Int))) ∧ σ' "f" = some (.val (L f)) ∧ σ' "p" = some (.val (.int p)) ∧ σ' "found" = some (.val (L (if m % 2 = 1 then restL p (mulL p found sq) f else found))) ∧ σ' "square" = some (.val (L (if 0 < m / 2 then restL p (mulL p sq sq) f else sq)))) by
        (refine e1_6 ?_ hs; clear hs; intro σ' hσ q1 q2 q3 q4 q5)
        refine ⟨σ', m / 2, hσ, by lia, _, _, q1, q2, q3, q4, q5, ?_, ?_, ?_, ?_, k, by lia, he⟩
        · split
          · exact dd1.2.1
          · exact g1
        · split
          · exact dd2.2.1
          · exact g2
        · split
          · exact dd1.2.2.1
          · exact l1
        · split
          · exact dd2.2.2.1
          · exact l2
      have e5 : ((m : Int) % 2 = 1) ↔ m % 2 = 1 := by lia
      have e6 : ((0 : Int) < ((m / 2 : Nat) : Int)) ↔ 0 < m / 2 := by lia
      refine nx_cons (nx_if (c := decide (m % 2 = 1)) (by simp only [bind2_some, valO_val, ev_int, ev_name, ev_bin, et_cmp, cmpEqI, eq_self, h1, binMod (show (0 : Int) < 2 by lia), e5]) ?_)
      by_cases hodd : m % 2 = 1
      · simp only [hodd, decide_true, if_true]
        refine nx_step (σ1 := setS σ "found" (.val (L (restL p (mulL p found sq) f)))) (by simp only [bind2_some, valO_val, consO_eq, stoS_some, ev_name, ev_call, isB, str_beq, String.reduceBEq, Bool.or_self, el_nil, el_cons, xs_name, slotV_val, List.contains_nil, Option.bind_some, Option.map_some, eq_self, h2, h3, h4, h5, k1, k2]) (nx_nil ?_)
        refine nx_step (σ1 := setS (setS σ "found" (.val (L (restL p (mulL p found sq) f)))) "n" (.val (.int ((m / 2 : Nat) : Int)))) (by simp only [bind2_some, valO_val, stoS_some, ev_int, ev_name, ev_bin, xs_name, slotV_val, List.contains_nil, setS, str_inj, Option.map_some, ↓reduceIte, eq_self, String.reduceEq, h1, e3]) ?_
        refine nx_cons (nx_if (c := decide (0 < m / 2)) (by simp only [bind2_some, valO_val, ev_int, ev_name, et_cmp, setS, cmpGt, ↓reduceIte, eq_self, e6]) ?_)
        by_cases hp2 : 0 < m / 2
        · simp only [hp2, decide_true, if_true]
          exact nx_step (σ1 := setS (setS (setS σ "found" (.val (L (restL p (mulL p found sq) f)))) "n" (.val (.int ((m / 2 : Nat) : Int)))) "square" (.val (L (restL p (mulL p sq sq) f)))) (by simp only [bind2_some, valO_val, consO_eq, stoS_some, ev_name, ev_call, isB, str_beq, String.reduceBEq, Bool.or_self, el_nil, el_cons, xs_name, slotV_val, List.contains_nil, setS, str_inj, Option.bind_some, Option.map_some, ↓reduceIte, eq_self, String.reduceEq, h2, h3, h5, k3, k4]) (nx_nil (nx_nil ⟨by simp only [setS, str_inj, ↓reduceIte, eq_self, String.reduceEq], by simp only [setS, str_inj, if_false, eq_self, String.reduceEq, h2], by simp only [setS, str_inj, if_false, eq_self, String.reduceEq, h3], by simp only [setS, str_inj, ↓reduceIte, eq_self, String.reduceEq], by simp only [setS, ↓reduceIte, eq_self]⟩))
        · simp only [hp2, decide_false, Bool.false_eq_true, if_false]
          exact nx_nil (nx_nil ⟨by simp only [setS, ↓reduceIte, eq_self], by simp only [setS, str_inj, if_false, eq_self, String.reduceEq, h2], by simp only [setS, str_inj, if_false, eq_self, String.reduceEq, h3], by simp only [setS, str_inj, ↓reduceIte, eq_self, String.reduceEq], by simp only [setS, str_inj, if_false, eq_self, String.reduceEq, h5]⟩)
      · simp only [hodd, decide_false, Bool.false_eq_true, if_false]
        refine nx_nil ?_
        refine nx_step (σ1 := setS σ "n" (.val (.int ((m / 2 : Nat) : Int)))) (by simp only [bind2_some, valO_val, stoS_some, ev_int, ev_name, ev_bin, xs_name, slotV_val, List.contains_nil, Option.map_some, eq_self, h1, e3]) ?_
        refine nx_cons (nx_if (c := decide (0 < m / 2)) (by simp only [bind2_some, valO_val, ev_int, ev_name, et_cmp, setS, cmpGt, if_true, eq_self, e6]) ?_)
        by_cases hp2 : 0 < m / 2
        · simp only [hp2, decide_true, if_true]
          exact nx_step (σ1 := setS (setS σ "n" (.val (.int ((m / 2 : Nat) : Int)))) "square" (.val (L (restL p (mulL p sq sq) f)))) (by simp only [bind2_some, valO_val, consO_eq, stoS_some, ev_name, ev_call, isB, str_beq, String.reduceBEq, Bool.or_self, el_nil, el_cons, xs_name, slotV_val, List.contains_nil, setS, str_inj, Option.bind_some, Option.map_some, ↓reduceIte, eq_self, String.reduceEq, h2, h3, h5, k3, k4]) (nx_nil (nx_nil ⟨by simp only [setS, str_inj, ↓reduceIte, eq_self, String.reduceEq], by simp only [setS, str_inj, if_false, eq_self, String.reduceEq, h2], by simp only [setS, str_inj, if_false, eq_self, String.reduceEq, h3], by simp only [setS, str_inj, if_false, eq_self, String.reduceEq, h4], by simp only [setS, ↓reduceIte, eq_self]⟩))
        · simp only [hp2, decide_false, Bool.false_eq_true, if_false]
          exact nx_nil (nx_nil ⟨by simp only [setS, if_true, eq_self], by simp only [setS, str_inj, if_false, eq_self, String.reduceEq, h2], by simp only [setS, str_inj, if_false, eq_self, String.reduceEq, h3], by simp only [setS, str_inj, if_false, eq_self, String.reduceEq, h4], by simp only [setS, str_inj, if_false, eq_self, String.reduceEq, h5]⟩)
  · rintro σ h1
    refine go_retE ?_
    simp only [valO_val, ev_name, relS, Slot.data, Option.map_some, eq_self, h1]
end
end Mine
end
noncomputable section
set_option Elab.async false
set_option linter.all false
namespace Mine

noncomputable abbrev Prm := {p : Int // PP p}
noncomputable abbrev Rg (P : Prm) := {l : List Int // Good P.1 l}
section
variable {P : Prm}
noncomputable def mk (P : Prm) (l : List Int) : Rg P := ⟨nf P.1 l, good_nf (by have := P.2.pos; lia) l⟩
theorem nf_ev (p : Int) (l : List Int) : ∃ w : List Int, ∀ n, ev (nf p l) n = ev l n + p * ev w n := by
  (refine e1_1 ?_ (mod_ev p l); intro w hw)
  exact ⟨w, fun n => by rw [nf, ev_trim, hw]⟩
theorem mk_eq {a b : List Int} (h : ∃ w : List Int, ∀ n, ev a n = ev b n + P.1 * ev w n) : mk P a = mk P b := by
  have hp := P.2.pos
  (refine e1_1 ?_ h; clear h; intro w hw)
  (refine e1_1 ?_ (nf_ev P.1 a); intro u hu)
  (refine e1_1 ?_ (nf_ev P.1 b); intro v hv)
  refine Subtype.ext (good_uniq hp.1 (good_nf (by lia) a) (good_nf (by lia) b) ⟨padd (padd w u) (v.map ((-1) * ·)), fun n => ?_⟩)
  show ev (nf P.1 a) n = ev (nf P.1 b) n + _
  rw [ev_padd, ev_padd, ev_map, hu, hv, hw]
  grind
theorem mk_ext {a b : List Int} (h : ∀ n, ev a n = ev b n) : mk P a = mk P b := mk_eq ⟨[], fun n => by rw [h n]; simp [ev]⟩
theorem mk_val (x : Rg P) : mk P x.1 = x := by
  have hp := P.2.pos
  (refine e1_1 ?_ (nf_ev P.1 x.1); intro u hu)
  exact Subtype.ext (good_uniq hp.1 (good_nf (by lia) _) x.2 ⟨u, hu⟩)
/-- a good list is the one for its values -/
theorem val_of {a : List Int} (ha : Good P.1 a) {b : List Int} (h : ∃ w : List Int, ∀ n, ev a n = ev b n + P.1 * ev w n) : (mk P b).1 = a := by
  rw [← mk_eq h]
  exact congrArg Subtype.val (mk_val ⟨a, ha⟩)
noncomputable def pneg (a : List Int) : List Int := a.map ((-1) * ·)
theorem ev_pneg (a : List Int) (n : Int) : ev (pneg a) n = - ev a n := by rw [pneg, ev_map]; lia
noncomputable def addR (x y : Rg P) : Rg P := mk P (padd x.1 y.1)
noncomputable def mulR (x y : Rg P) : Rg P := mk P (pmul x.1 y.1)
noncomputable def negR (x : Rg P) : Rg P := mk P (pneg x.1)
theorem mk_add (a b : List Int) : addR (mk P a) (mk P b) = mk P (padd a b) := by
  (refine e1_1 ?_ (nf_ev P.1 a); intro u hu)
  (refine e1_1 ?_ (nf_ev P.1 b); intro v hv)
  refine mk_eq ⟨padd u v, fun n => ?_⟩
  show ev (padd (nf P.1 a) (nf P.1 b)) n = _
  rw [ev_padd, ev_padd, ev_padd, hu, hv]; grind
theorem mk_mul (a b : List Int) : mulR (mk P a) (mk P b) = mk P (pmul a b) := by
  (refine e1_1 ?_ (nf_ev P.1 a); intro u hu)
  (refine e1_1 ?_ (nf_ev P.1 b); intro v hv)
  refine mk_eq ⟨padd (padd (pmul u b) (pmul a v)) (pmul ((pmul u v)) [P.1]), fun n => ?_⟩
  show ev (pmul (nf P.1 a) (nf P.1 b)) n = _
  rw [ev_pmul, ev_padd, ev_padd, ev_pmul, ev_pmul, ev_pmul, ev_pmul, ev_pmul, hu, hv]
  simp only [ev]; grind
theorem mk_neg (a : List Int) : negR (mk P a) = mk P (pneg a) := by
  (refine e1_1 ?_ (nf_ev P.1 a); intro u hu)
  refine mk_eq ⟨pneg u, fun n => ?_⟩
  show ev (pneg (nf P.1 a)) n = _
  rw [ev_pneg, ev_pneg, ev_pneg, hu]; grind
noncomputable def powR (x : Rg P) : Nat → Rg P
  | 0 => mk P [1]
  | n + 1 => mulR (powR x n) x

theorem rg_ind {C : Rg P → Prop} (h : ∀ l, C (mk P l)) (x : Rg P) : C x := mk_val x ▸ h x.1

noncomputable abbrev semiR (P : Prm) : Lean.Grind.Semiring (Rg P) where
  add := addR
  mul := mulR
  natCast := ⟨fun n => mk P [(n : Int)]⟩
  ofNat := fun n => ⟨mk P [(n : Int)]⟩
  nsmul := ⟨fun n x => mulR (mk P [(n : Int)]) x⟩
  npow := ⟨fun x n => powR x n⟩
  add_zero := fun a => by
    refine rg_ind (C := fun a => addR a (mk P [((0 : Nat) : Int)]) = a) (fun l => ?_) a
    rw [mk_add]; exact mk_ext fun n => by rw [ev_padd]; simp [ev]
  add_comm := fun a b => by
    refine rg_ind (C := fun a => addR a b = addR b a) (fun l => ?_) a
    refine rg_ind (C := fun b => addR (mk P l) b = addR b (mk P l)) (fun k => ?_) b
    rw [mk_add, mk_add]; exact mk_ext fun n => by rw [ev_padd, ev_padd]; lia
  add_assoc := fun a b c => by
    refine rg_ind (C := fun a => addR (addR a b) c = addR a (addR b c)) (fun l => ?_) a
    refine rg_ind (C := fun b => addR (addR (mk P l) b) c = addR (mk P l) (addR b c)) (fun k => ?_) b
    refine rg_ind (C := fun c => addR (addR (mk P l) (mk P k)) c = addR (mk P l) (addR (mk P k) c)) (fun j => ?_) c
    rw [mk_add, mk_add, mk_add, mk_add]; exact mk_ext fun n => by rw [ev_padd, ev_padd, ev_padd, ev_padd]; lia
  mul_assoc := fun a b c => by
    refine rg_ind (C := fun a => mulR (mulR a b) c = mulR a (mulR b c)) (fun l => ?_) a
    refine rg_ind (C := fun b => mulR (mulR (mk P l) b) c = mulR (mk P l) (mulR b c)) (fun k => ?_) b
    refine rg_ind (C := fun c => mulR (mulR (mk P l) (mk P k)) c = mulR (mk P l) (mulR (mk P k) c)) (fun j => ?_) c
    rw [mk_mul, mk_mul, mk_mul, mk_mul]; exact mk_ext fun n => by rw [ev_pmul, ev_pmul, ev_pmul, ev_pmul]; grind
  mul_one := fun a => by
    refine rg_ind (C := fun a => mulR a (mk P [((1 : Nat) : Int)]) = a) (fun l => ?_) a
    rw [mk_mul]; exact mk_ext fun n => by rw [ev_pmul]; simp [ev]
  one_mul := fun a => by
    refine rg_ind (C := fun a => mulR (mk P [((1 : Nat) : Int)]) a = a) (fun l => ?_) a
    rw [mk_mul]; exact mk_ext fun n => by rw [ev_pmul]; simp [ev]
  left_distrib := fun a b c => by
    refine rg_ind (C := fun a => mulR a (addR b c) = addR (mulR a b) (mulR a c)) (fun l => ?_) a
    refine rg_ind (C := fun b => mulR (mk P l) (addR b c) = addR (mulR (mk P l) b) (mulR (mk P l) c)) (fun k => ?_) b
    refine rg_ind (C := fun c => mulR (mk P l) (addR (mk P k) c) = addR (mulR (mk P l) (mk P k)) (mulR (mk P l) c)) (fun j => ?_) c
    rw [mk_add, mk_mul, mk_mul, mk_mul, mk_add]; exact mk_ext fun n => by simp only [ev_pmul, ev_padd]; grind
  right_distrib := fun a b c => by
    refine rg_ind (C := fun a => mulR (addR a b) c = addR (mulR a c) (mulR b c)) (fun l => ?_) a
    refine rg_ind (C := fun b => mulR (addR (mk P l) b) c = addR (mulR (mk P l) c) (mulR b c)) (fun k => ?_) b
    refine rg_ind (C := fun c => mulR (addR (mk P l) (mk P k)) c = addR (mulR (mk P l) c) (mulR (mk P k) c)) (fun j => ?_) c
    rw [mk_add, mk_mul, mk_mul, mk_mul, mk_add]; exact mk_ext fun n => by simp only [ev_pmul, ev_padd]; grind
  zero_mul := fun a => by
    refine rg_ind (C := fun a => mulR (mk P [((0 : Nat) : Int)]) a = mk P [((0 : Nat) : Int)]) (fun l => ?_) a
    rw [mk_mul]; exact mk_ext fun n => by rw [ev_pmul]; simp [ev]
  mul_zero := fun a => by
    refine rg_ind (C := fun a => mulR a (mk P [((0 : Nat) : Int)]) = mk P [((0 : Nat) : Int)]) (fun l => ?_) a
    rw [mk_mul]; exact mk_ext fun n => by rw [ev_pmul]; simp [ev]
  pow_zero := fun a => rfl
  pow_succ := fun a n => rfl
  ofNat_succ := fun n => by
    show mk P [((n + 1 : Nat) : Int)] = addR (mk P [(n : Int)]) (mk P [((1 : Nat) : Int)])
    rw [mk_add]; exact mk_ext fun m => by rw [ev_padd]; simp only [ev]; push_cast; lia
  ofNat_eq_natCast := fun n => rfl
  nsmul_eq_natCast_mul := fun n a => rfl
noncomputable abbrev ringR (P : Prm) : Lean.Grind.CommRing (Rg P) :=
  letI S := semiR P
  { S with
    neg := negR
    sub := fun x y => addR x (negR y)
    intCast := ⟨fun i => mk P [i]⟩
    zsmul := ⟨fun i x => mulR (mk P [i]) x⟩
    neg_add_cancel := fun a => by
      refine rg_ind (C := fun a => addR (negR a) a = mk P [((0 : Nat) : Int)]) (fun l => ?_) a
      rw [mk_neg, mk_add]; exact mk_ext fun n => by rw [ev_padd, ev_pneg]; simp only [ev]; lia
    sub_eq_add_neg := fun a b => rfl
    neg_zsmul := fun i a => by
      refine rg_ind (C := fun a => mulR (mk P [-i]) a = negR (mulR (mk P [i]) a)) (fun l => ?_) a
      rw [mk_mul, mk_mul, mk_neg]; exact mk_ext fun n => by rw [ev_pneg, ev_pmul, ev_pmul]; simp only [ev]; grind
    zsmul_natCast_eq_nsmul := fun n a => rfl
    intCast_ofNat := fun n => rfl
    intCast_neg := fun i => by
      show mk P [-i] = negR (mk P [i])
      rw [mk_neg]; exact mk_ext fun n => by rw [ev_pneg]; simp only [ev]; lia
    mul_comm := fun a b => by
      refine rg_ind (C := fun a => mulR a b = mulR b a) (fun l => ?_) a
      refine rg_ind (C := fun b => mulR (mk P l) b = mulR b (mk P l)) (fun k => ?_) b
      rw [mk_mul, mk_mul]; exact mk_ext fun n => by rw [ev_pmul, ev_pmul]; grind }
end
end Mine
end
noncomputable section
set_option Elab.async false
set_option linter.all false
namespace Mine

set_option genInjectivity false in
set_option genSizeOf false in
structure Eu (R : Type) [Lean.Grind.CommRing R] where
  len : R → Nat
  D : R → R
  root : R → R
  p : Nat
  monic : R → Prop
  p2 : 2 ≤ p
  len0 : ∀ x, len x = 0 ↔ x = 0
  lenMul : ∀ x y, x ≠ 0 → y ≠ 0 → len (x * y) + 1 = len x + len y
  len1 : len 1 = 1
  dm : ∀ x y, y ≠ 0 → ∃ q r, x = q * y + r ∧ len r < len y
  unit : ∀ x, len x = 1 → ∃ y, x * y = 1
  monic_ne : ∀ x, monic x → x ≠ 0
  monic_cancel : ∀ x y, monic (x * y) → monic x → monic y
  monic_unit : ∀ x, monic x → len x = 1 → x = 1
  D_mul : ∀ x y, D (x * y) = D x * y + x * D y
  D_one : D 1 = 0
  D_len : ∀ x, x ≠ 0 → len (D x) < len x
  root_pow : ∀ x, D x = 0 → x = root x ^ p

section
variable {R : Type} [Lean.Grind.CommRing R] (E : Eu R)
noncomputable def Dv (a b : R) : Prop := ∃ c, b = a * c
theorem dv_refl (a : R) : Dv a a := ⟨1, by grind⟩
theorem Dv.tr {a b c : R} (h : Dv a b) (k : Dv b c) : Dv a c := by
  (refine e1_1 ?_ h; clear h; intro x zz1; subst zz1); (refine e1_1 ?_ k; clear k; intro y zz1; subst zz1); exact ⟨x * y, by grind⟩
theorem Dv.lin {a b c : R} (h : Dv a b) (k : Dv a c) (s t : R) : Dv a (s * b + t * c) := by
  (refine e1_1 ?_ h; clear h; intro x zz1; subst zz1); (refine e1_1 ?_ k; clear k; intro y zz1; subst zz1); exact ⟨s * x + t * y, by grind⟩
namespace Eu
include E
theorem ne {x : R} (h : 0 < E.len x) : x ≠ 0 := fun q => by have := (E.len0 x).mpr q; lia
theorem pos {x : R} (h : x ≠ 0) : 0 < E.len x := by
  have := (E.len0 x); by_cases h0 : E.len x = 0
  · exact absurd (this.mp h0) h
  · lia
theorem dom {x y : R} (hx : x ≠ 0) (hy : y ≠ 0) : x * y ≠ 0 := E.ne (by have := E.lenMul x y hx hy; have := E.pos hx; have := E.pos hy; lia)
theorem cancel {x y z : R} (hx : x ≠ 0) (h : x * y = x * z) : y = z := by
  apply Classical.byContradiction
  intro hne
  have h1 : y - z ≠ 0 := fun q => hne (by grind)
  exact E.dom hx h1 (by grind)
theorem dv_len {a b : R} (h : Dv a b) (hb : b ≠ 0) : E.len a ≤ E.len b := by
  (refine e1_1 ?_ h; clear h; intro c zz1; subst zz1)
  have ha : a ≠ 0 := fun q => hb (by rw [q]; grind)
  have hc : c ≠ 0 := fun q => hb (by rw [q]; grind)
  have := E.lenMul a c ha hc; have := E.pos hc; lia
theorem bez : ∀ (n : Nat) (b a : R), E.len b ≤ n → ∃ g s t, Dv g a ∧ Dv g b ∧ g = s * a + t * b
  | 0, b, a, h => by
    have hb : b = 0 := (E.len0 b).mp (by lia)
    exact ⟨a, 1, 0, dv_refl a, ⟨0, by rw [hb]; grind⟩, by grind⟩
  | n + 1, b, a, h => by
    by_cases hb : b = 0
    · exact ⟨a, 1, 0, dv_refl a, ⟨0, by rw [hb]; grind⟩, by grind⟩
    · (refine e2_2 ?_ (E.dm a b hb); intro q r h1 h2)
      (refine e3_3 ?_ (bez n r b (by lia)); intro g s t h3 h4 h5)
      refine ⟨g, t, s - t * q, ?_, h3, by rw [h5, h1]; grind⟩
      have := h3.lin h4 q 1
      have e : q * b + 1 * r = a := by rw [h1]; grind
      rwa [e] at this

/-- the monic greatest common divisor, 0 of 0 and 0 -/
structure IsG (g a b : R) : Prop where
  m : E.monic g ∨ g = 0
  l : Dv g a
  r : Dv g b
  c : ∃ s t, g = s * a + t * b
omit E in
theorem IsG.dv {E : Eu R} {g a b x : R} (h : E.IsG g a b) (ha : Dv x a) (hb : Dv x b) : Dv x g := by
  (refine e2_1 ?_ h.c; intro s t zz1; subst zz1)
  exact ha.lin hb s t
theorem assoc {g h : R} (hg : E.monic g ∨ g = 0) (hh : E.monic h ∨ h = 0) (h1 : Dv g h) (h2 : Dv h g) : g = h := by
  (refine e1_1 ?_ h1; clear h1; intro c hc); (refine e1_1 ?_ h2; clear h2; intro d hd)
  by_cases h0 : g = 0
  · rw [hc, h0]; grind
  · have hn : h ≠ 0 := fun q => h0 (by rw [hd, q]; grind)
    have mg := hg.resolve_right h0
    have mh := hh.resolve_right hn
    have hcd : c * d = 1 := E.cancel h0 (y := c * d) (z := 1) (by
      have e : g * (c * d) = g * c * d := by grind
      rw [e, ← hc, ← hd]; grind)
    have hc0 : c ≠ 0 := fun q => hn (by rw [hc, q]; grind)
    have hd0 : d ≠ 0 := fun q => h0 (by rw [hd, q]; grind)
    have hl := E.lenMul c d hc0 hd0
    rw [hcd, E.len1] at hl
    have := E.pos hc0; have := E.pos hd0
    have hc1 := E.monic_unit c (E.monic_cancel g c (hc ▸ mh) mg) (by lia)
    rw [hc, hc1]; grind
omit E in
theorem IsG.uniq {E : Eu R} {g h a b : R} (hg : E.IsG g a b) (hh : E.IsG h a b) : g = h := E.assoc hg.m hh.m (hh.dv hg.l hg.r) (hg.dv hh.l hh.r)
omit E in
theorem IsG.swap {E : Eu R} {g a b : R} (h : E.IsG g a b) : E.IsG g b a := ⟨h.m, h.r, h.l, let ⟨s, t, e⟩ := h.c; ⟨t, s, by rw [e]; grind⟩⟩
omit E in
theorem IsG.quot {E : Eu R} {g a b : R} (h : E.IsG (g) (g * a) (g * b)) (h0 : g ≠ 0) : ∃ s t, s * a + t * b = 1 := by
  (refine e2_1 ?_ h.c; intro s t e)
  exact ⟨s, t, E.cancel h0 (by grind)⟩

theorem powdv (q : R) : ∀ k, Dv (q ^ k) (E.D (q ^ (k + 1)))
  | 0 => ⟨E.D (q ^ 1), by grind⟩
  | k + 1 => by
    have ih := powdv q k
    have e : q ^ (k + 1 + 1) = q ^ (k + 1) * q := by grind
    rw [e, E.D_mul]
    (refine e1_1 ?_ ih; clear ih; intro c hc)
    exact ⟨c + E.D q, by rw [hc]; grind⟩
theorem pow_ne {q : R} (hq : q ≠ 0) : ∀ k : Nat, q ^ k ≠ 0
  | 0 => E.ne (by have : q ^ 0 = 1 := by grind
                  rw [this, E.len1]; lia)
  | k + 1 => by
    have e : q ^ (k + 1) = q ^ k * q := by grind
    rw [e]; exact E.dom (pow_ne hq k) hq
theorem pow_len {q : R} (hq : 2 ≤ E.len q) : ∀ k : Nat, k + 1 ≤ E.len (q ^ k)
  | 0 => by have : q ^ 0 = 1 := by grind
            rw [this, E.len1]; lia
  | k + 1 => by
    have hq0 := E.ne (x := q) (by lia)
    have e : q ^ (k + 1) = q ^ k * q := by grind
    have := E.lenMul (q ^ k) q (E.pow_ne hq0 k) hq0
    have := pow_len hq k
    rw [e]; lia
theorem pow_small {q : R} (hq : E.len q = 1) : ∀ k : Nat, E.len (q ^ k) = 1
  | 0 => by have : q ^ 0 = 1 := by grind
            rw [this, E.len1]
  | k + 1 => by
    have hq0 := E.ne (x := q) (by lia)
    have e : q ^ (k + 1) = q ^ k * q := by grind
    have := E.lenMul (q ^ k) q (E.pow_ne hq0 k) hq0
    have := pow_small hq k
    rw [e]; lia
theorem multi {q f : R} (hq : 2 ≤ E.len q) (hf : f ≠ 0) : ∃ e : Nat, Dv (q ^ e) f ∧ ¬ Dv (q ^ (e + 1)) f := by
  apply Classical.byContradiction
  intro h
  have all : ∀ e : Nat, Dv (q ^ e) f := by
    intro e
    induction e with
    | zero => exact ⟨f, by grind⟩
    | succ e ih =>
      apply Classical.byContradiction
      intro h2
      exact h ⟨e, ih, h2⟩
  have h1 := E.dv_len (all (E.len f)) hf
  have h2 := E.pow_len hq (E.len f)
  lia
theorem minDv (d : R) : ∀ n, (∃ q, Dv q d ∧ 2 ≤ E.len q ∧ E.len q ≤ n) → ∃ q, Dv q d ∧ 2 ≤ E.len q ∧ ∀ r, Dv r d → 2 ≤ E.len r → E.len q ≤ E.len r
  | 0, ⟨q, _, h2, h3⟩ => by lia
  | n + 1, ⟨q, h1, h2, h3⟩ => by
    by_cases h : ∃ r, Dv r d ∧ 2 ≤ E.len r ∧ E.len r ≤ n
    · exact minDv d n h
    · refine ⟨q, h1, h2, fun r h4 h5 => ?_⟩
      apply Classical.byContradiction
      intro h6
      exact h ⟨r, h4, h5, by lia⟩

/-- a part of f by its greatest divisor with the derivative has none with its own -/
theorem sqfree {f C L P : R} (hf : f ≠ 0) (hC : E.IsG C f (E.D f)) (hL : f = L * C) (hP : Dv P L) : ∃ s t, s * P + t * E.D P = 1 := by
  have hP0 : P ≠ 0 := fun q => hf (by (refine e1_1 ?_ hP; clear hP; intro c hc); rw [hL, hc, q]; grind)
  (refine e3_3 ?_ (E.bez _ (E.D P) P (Nat.le_refl _)); intro d s t h1 h2 h3)
  have hd0 : d ≠ 0 := fun q => hP0 (by (refine e1_1 ?_ h1; clear h1; intro c hc); rw [hc, q]; grind)
  by_cases hd1 : E.len d = 1
  · (refine e1_1 ?_ (E.unit d hd1); intro y hy)
    exact ⟨s * y, t * y, by rw [← hy, h3]; grind⟩
  · exfalso
    have hd2 : 2 ≤ E.len d := by have := E.pos hd0; lia
    (refine e1_3 ?_ (E.minDv d (E.len d) ⟨d, dv_refl d, hd2, Nat.le_refl _⟩); intro q q1 q2 q3)
    have hq0 := E.ne (x := q) (by lia)
    have prime : ∀ x y, Dv q (x * y) → Dv q x ∨ Dv q y := fun x y hxy => by
      (refine e3_3 ?_ (E.bez _ x q (Nat.le_refl _)); intro g u v g1 g2 g3)
      have hg0 : g ≠ 0 := fun e => hq0 (by (refine e1_1 ?_ g1; clear g1; intro c hc); rw [hc, e]; grind)
      by_cases hg1 : E.len g = 1
      · right
        (refine e1_1 ?_ (E.unit g hg1); intro z hz)
        (refine e1_1 ?_ hxy; clear hxy; intro w hw)
        refine ⟨z * (u * y + v * w), ?_⟩
        have e : y = g * z * y := by rw [hz]; grind
        rw [e, g3]
        have e2 : (u * q + v * x) * z * y = z * (u * q * y + v * (x * y)) := by grind
        rw [e2, hw]; grind
      · left
        have hg2 : 2 ≤ E.len g := by have := E.pos hg0; lia
        have hle := q3 g (g1.tr q1) hg2
        (refine e1_1 ?_ g1; clear g1; intro c hc)
        have hc0 : c ≠ 0 := fun e => hq0 (by rw [hc, e]; grind)
        have hl := E.lenMul g c hg0 hc0
        rw [← hc] at hl
        have := E.pos hc0
        (refine e1_1 ?_ (E.unit c (by lia)); intro z hz)
        have : Dv q g := ⟨z, by rw [hc]; have : g * c * z = g * (c * z) := by grind
                                rw [this, hz]; grind⟩
        exact this.tr g2
    have hqD : ¬ Dv q (E.D q) := fun h => by
      have hDq : E.D q = 0 := by
        apply Classical.byContradiction
        intro hne
        have := E.dv_len h hne
        have := E.D_len q hq0
        lia
      have hr := E.root_pow q hDq
      generalize E.root q = r at hr
      have hp2 := E.p2
      obtain ⟨k, hk⟩ : ∃ k, E.p = k + 1 + 1 := ⟨E.p - 2, by lia⟩
      rw [hk] at hr
      have e : r ^ (k + 1 + 1) = r ^ (k + 1) * r := by grind
      by_cases hr2 : 2 ≤ E.len r
      · have hr0 := E.ne (x := r) (by lia)
        have h4 := q3 r ((show Dv r q from ⟨r ^ (k + 1), by rw [hr, e]; grind⟩).tr q1) hr2
        have h5 := E.pow_len hr2 (k + 1)
        have h6 := E.lenMul (r ^ (k + 1)) r (E.pow_ne hr0 _) hr0
        rw [← e, ← hr] at h6
        lia
      · by_cases hr0 : r = 0
        · exact hq0 (by rw [hr, e, hr0]; grind)
        · have := E.pos hr0
          have h5 := E.pow_small (q := r) (by lia) (k + 1 + 1)
          rw [← hr] at h5; lia
    (refine e1_1 ?_ (q1.tr h1); intro h hh)
    have hqh : Dv q h := by
      have h5 : Dv q (E.D q * h) := by
        (refine e1_1 ?_ (q1.tr h2); intro c hc)
        rw [hh, E.D_mul] at hc
        exact ⟨c - E.D h, by grind⟩
      exact (prime _ _ h5).resolve_left hqD
    (refine e1_1 ?_ hqh; clear hqh; intro h' hh')
    (refine e1_1 ?_ hP; clear hP; intro v hv)
    have hLq : L = q * q * (h' * v) := by rw [hv, hh, hh']; grind
    (refine e1_2 ?_ (E.multi q2 hf); intro e e1 e2)
    have hfq : f = q * q * (h' * v * C) := by rw [hL, hLq]; grind
    have he2 : 2 ≤ e := by
      apply Classical.byContradiction
      intro hlt
      apply e2
      have : e = 0 ∨ e = 1 := by lia
      rcases this with rfl | rfl
      · exact ⟨q * (h' * v * C), by rw [hfq]; grind⟩
      · exact ⟨h' * v * C, by rw [hfq]; grind⟩
    obtain ⟨k, rfl⟩ : ∃ k, e = k + 1 := ⟨e - 1, by lia⟩
    (refine e1_1 ?_ e1; clear e1; intro u hu)
    have c1 : Dv (q ^ k) f := ⟨q * u, by rw [hu]; grind⟩
    have c2 : Dv (q ^ k) (E.D f) := by
      (refine e1_1 ?_ (E.powdv q k); intro c hc)
      rw [hu, E.D_mul, hc]
      exact ⟨c * u + q * E.D u, by grind⟩
    (refine e1_1 ?_ (hC.dv c1 c2); intro w hw)
    apply e2
    exact ⟨h' * v * w, by rw [hfq, hw]; grind⟩

/-- one turn of taking parts out -/
theorem turn {C L S Pt C2 : R} (hC0 : C ≠ 0) (h : Dv C (L * E.D C)) (hS : E.IsG S L C) (hL : L = S * Pt) (hC : C = S * C2) : Dv C2 (S * E.D C2) := by
  have hS0 : S ≠ 0 := fun q => hC0 (by rw [hC, q]; grind)
  rw [hL, hC] at hS
  (refine e2_1 ?_ (hS.quot hS0); intro u v huv)
  (refine e1_1 ?_ h; clear h; intro k hk)
  rw [hL, hC, E.D_mul] at hk
  have hk2 : Pt * (E.D S * C2 + S * E.D C2) = C2 * k := E.cancel hS0 (by grind)
  refine ⟨u * (k - Pt * E.D S) + v * (S * E.D C2), ?_⟩
  have e : S * E.D C2 = (u * Pt + v * C2) * (S * E.D C2) := by rw [huv]; grind
  rw [e]; grind
theorem turn0 {f C L : R} (hC : Dv C (E.D f)) (hL : f = L * C) : Dv C (L * E.D C) := by
  (refine e1_1 ?_ hC; clear hC; intro k hk)
  rw [hL, E.D_mul] at hk
  exact ⟨k - E.D L, by grind⟩
theorem turnN {C : R} (hC : C ≠ 0) (h : Dv C (1 * E.D C)) : E.D C = 0 := by
  apply Classical.byContradiction
  intro hne
  have h1 : (1 : R) * E.D C = E.D C := by grind
  rw [h1] at h
  have := E.dv_len h hne
  have := E.D_len C hC
  lia
end Eu
end
end Mine
end
noncomputable section
set_option Elab.async false
set_option linter.all false
namespace Mine

/-! the derivative -/
noncomputable def ed : List Int → Int → Int
  | [], _ => 0
  | x :: t, n => ev t n + n * ed t n
theorem ed_padd : ∀ (a b : List Int) (n : Int), ed (padd a b) n = ed a n + ed b n
  | [], b, n => by simp [padd, ed]
  | x :: a, [], n => by simp [padd, ed]
  | x :: a, y :: b, n => by simp only [padd, ed, ev_padd, ed_padd a b n]; grind
theorem ed_map (k : Int) : ∀ (a : List Int) (n : Int), ed (a.map (k * ·)) n = k * ed a n
  | [], n => by simp [ed]
  | x :: a, n => by simp only [List.map_cons, ed, ev_map, ed_map k a n]; grind
theorem ed_pmul : ∀ (a b : List Int) (n : Int), ed (pmul a b) n = ed a n * ev b n + ev a n * ed b n
  | [], b, n => by simp [pmul, ed, ev]
  | x :: a, b, n => by simp only [pmul, ed_padd, ed_map, ed, ev, ev_pmul, ed_pmul a b n]; grind
theorem ed_zero : ∀ (l : List Int), (∀ x ∈ l, x = 0) → ∀ n, ed l n = 0
  | [], _, n => rfl
  | x :: l, h, n => by
    have h1 : ∀ y ∈ l, y = 0 := fun y hy => h y (by simp [hy])
    simp only [ed, ev_all_zero l h1 n, ed_zero l h1 n]; simp
theorem ed_congr {p : Int} {a b w : List Int} (h : ∀ n, ev a n = ev b n + p * ev w n) (n : Int) : ed a n = ed b n + p * ed w n := by
  have hz := ev_zero (padd (padd a (b.map ((-1) * ·))) (w.map (-p * ·))) 0 fun n _ => by rw [ev_padd, ev_padd, ev_map, ev_map, h n]; grind
  have := ed_zero _ hz n
  rw [ed_padd, ed_padd, ed_map, ed_map] at this
  grind
noncomputable def pder (a : List Int) : List Int := ((List.range a.length).map fun (k : Nat) => (k : Int) * a.getD k 0).drop 1
theorem ev_pder_aux : ∀ (a : List Int) (j : Nat) (n : Int), ev ((List.range a.length).map fun (k : Nat) => ((k + j : Nat) : Int) * a.getD k 0) n = j * ev a n + n * ed a n
  | [], j, n => by simp [ev, ed]
  | x :: a, j, n => by
    have ih := ev_pder_aux a (j + 1) n
    rw [List.length_cons, List.range_succ_eq_map, List.map_cons, List.map_map]
    have e : ((fun (k : Nat) => ((k + j : Nat) : Int) * (x :: a).getD k 0) ∘ Nat.succ) = fun (k : Nat) => ((k + (j + 1) : Nat) : Int) * a.getD k 0 := by
      funext k
      simp only [Function.comp, Nat.succ_eq_add_one, List.getD_cons_succ]
      congr 2; lia
    rw [e, ev, ih]
    simp only [List.getD_cons_zero, ev, ed, Nat.zero_add]
    push_cast
    grind
theorem ev_pder (a : List Int) (n : Int) : ev (pder a) n = ed a n := by
  cases a with
  | nil => simp [pder, ev, ed]
  | cons x a =>
    have e : pder (x :: a) = (List.range a.length).map fun (k : Nat) => ((k + 1 : Nat) : Int) * a.getD k 0 := by
      rw [pder, List.length_cons, List.range_succ_eq_map, List.map_cons, List.drop_succ_cons, List.drop_zero, List.map_map]
      rfl
    rw [e, ev_pder_aux a 1 n]
    simp [ed]
theorem derL_eq (p : Int) (a : List Int) : derL p a = nf p (pder a) := by
  rw [derL, nf, pder, List.map_drop, List.map_map]
  rfl

section
variable {P : Prm}
noncomputable def derR (x : Rg P) : Rg P := mk P (pder x.1)
theorem derR_val (x : Rg P) : (derR x).1 = derL P.1 x.1 := (derL_eq P.1 x.1).symm
theorem mk_der (a : List Int) : derR (mk P a) = mk P (pder a) := by
  (refine e1_1 ?_ (nf_ev P.1 a); intro w hw)
  refine mk_eq ⟨pder w, fun n => ?_⟩
  show ev (pder (nf P.1 a)) n = _
  rw [ev_pder, ev_pder, ev_pder, ed_congr hw n]

theorem mulLoop_get (p : Int) (b : List Int) : ∀ (a r : List Int) (k i : Nat), k + a.length + b.length ≤ i + 1 → (mulLoop p b r k a).getD i 0 = r.getD i 0
  | [], _, _, _, _ => rfl
  | x :: a, r, k, i, h => by
    simp only [List.length_cons] at h
    rw [mulLoop_s, mulLoop_get p b a _ (k + 1) i (by lia)]
    split
    · exact accAt_get p x b r k i (by lia)
    · rfl
theorem lead_getD {a : List Int} (h : a ≠ []) : lead a = a.getD (a.length - 1) 0 := by
  rcases List.eq_nil_or_concat a with rfl | ⟨a', l, rfl⟩
  · exact absurd rfl h
  · simp [lead]
theorem trim_id {l : List Int} (h : l = [] ∨ lead l ≠ 0) : trim l = l := by
  rcases List.eq_nil_or_concat l with rfl | ⟨a', x, rfl⟩
  · rfl
  · rcases h with h | h
    · simp at h
    · rw [List.concat_eq_append] at h ⊢
      exact trim_snoc_ne (by simpa [lead] using h) _
/-- the length and the last of a product -/
theorem mul_top {p : Int} (hp : PP p) {a b : List Int} (ha : Good p a) (hb : Good p b) (hn : a ≠ []) (hm : b ≠ []) : (mulL p a b).length + 1 = a.length + b.length ∧ lead (mulL p a b) = lead a * lead b % p := by
  have hpp := hp.pos
  (refine e0_3 ?_ (good_last ha hn); intro a1 a2 a3)
  (refine e0_3 ?_ (good_last hb hm); intro b1 b2 b3)
  have hal := List.length_pos_iff.mpr hn
  have hbl := List.length_pos_iff.mpr hm
  have hne : lead a * lead b % p ≠ 0 := by
    intro h
    have hinv := invP_spec hp ⟨a2, a3⟩
    have hd : p ∣ lead a * lead b := Int.dvd_of_emod_eq_zero h
    have hd2 : p ∣ lead b := by
      (refine e1_1 ?_ hd; clear hd; intro c hc)
      have h1 := Int.emod_add_mul_ediv (lead a * invP p (lead a)) p
      rw [hinv.1] at h1
      refine ⟨invP p (lead a) * c - lead b * (lead a * invP p (lead a) / p), ?_⟩
      generalize lead a * invP p (lead a) / p = e at *
      have : lead b = lead b * (lead a * invP p (lead a)) - lead b * (p * e) := by rw [← h1]; grind
      have h2 : lead b * (lead a * invP p (lead a)) = invP p (lead a) * (lead a * lead b) := by grind
      rw [h2, hc] at this
      grind
    have := zero_of_dvd (by lia) b3 hd2
    lia
  have hloop : (mulLoop p b (List.replicate (a.length + b.length - 1) 0) 0 a).getD (a.length + b.length - 1 - 1) 0 = lead a * lead b % p := by
    rw [a1, mulLoop_snoc, if_pos (by lia), Nat.zero_add]
    rw [← a1]
    have e : a.length + b.length - 1 - 1 = (a.take (a.length - 1)).length + (b.length - 1) := by rw [List.length_take]; lia
    rw [e, accAt_at p (lead a) b _ _ (b.length - 1) (by lia) (by rw [mulLoop_length]; simp; lia), ← lead_getD hm]
    rw [mulLoop_get p b _ _ 0 _ (by rw [List.length_take]; lia)]
    simp only [List.getD_eq_getElem?_getD, List.getElem?_replicate]
    split <;> simp
  have hlen : (mulLoop p b (List.replicate (a.length + b.length - 1) 0) 0 a).length = a.length + b.length - 1 := by rw [mulLoop_length]; simp
  have hld : lead (mulLoop p b (List.replicate (a.length + b.length - 1) 0) 0 a) = lead a * lead b % p := by
    rw [lead_getD (by intro h; rw [h] at hlen; simp at hlen; lia), hlen]
    exact hloop
  have hmu : mulL p a b = mulLoop p b (List.replicate (a.length + b.length - 1) 0) 0 a := by
    rw [mulL, if_neg (by simp [hn, hm])]
    exact trim_id (.inr (by rw [hld]; exact hne))
  rw [hmu]
  exact ⟨by rw [hlen]; lia, hld⟩
theorem mulR_val (x y : Rg P) : (mulR x y).1 = mulL P.1 x.1 y.1 := by
  have hp := P.2.pos
  (refine e1_1 ?_ (mulL_ev P.1 x.1 y.1); intro w hw)
  exact val_of (mulL_good (by lia) _ _) ⟨w, fun n => by rw [hw, ev_pmul]⟩
theorem addR_val (x y : Rg P) : (addR x y).1 = addL P.1 x.1 y.1 := by
  have hp := P.2.pos
  (refine e1_1 ?_ (add_ev P.1 x.1 y.1); intro w hw)
  exact val_of (add_good (by lia) _ _) ⟨w, fun n => by rw [hw, ev_padd]⟩
theorem negR_val (x : Rg P) : (negR x).1 = negL P.1 x.1 := by
  have hp := P.2.pos
  (refine e1_1 ?_ (neg_ev P.1 x.1); intro w hw)
  exact val_of (neg_good (by lia) x.2) ⟨w, fun n => by rw [hw, ev_pneg]⟩
theorem subR_val (x y : Rg P) : (addR x (negR y)).1 = subL P.1 x.1 y.1 := by rw [addR_val, negR_val]; rfl
theorem scale_val (x : Rg P) (k : Int) : (mulR (mk P [k]) x).1 = scaleL P.1 x.1 k := by
  have hp := P.2.pos
  (refine e1_1 ?_ (scale_ev P.1 x.1 k); intro w hw)
  (refine e1_1 ?_ (nf_ev P.1 [k]); intro u hu)
  refine val_of (scale_good (by lia) _ _) ⟨padd w (pmul (pneg u) x.1), fun n => ?_⟩
  show _ = ev (pmul (nf P.1 [k]) x.1) n + _
  rw [hw, ev_pmul, ev_padd, ev_pmul, ev_pneg, hu]
  simp only [ev]; grind
theorem zero_val : (mk P [((0 : Nat) : Int)]).1 = [] := by
  show trim _ = []
  simp [trim]
theorem one_val : (mk P [((1 : Nat) : Int)]).1 = [1] := by
  have hp := P.2.pos
  show trim [((1 : Nat) : Int) % P.1] = [1]
  rw [Int.emod_eq_of_lt (by lia) (by lia)]; rfl
theorem nil_iff (x : Rg P) : x.1 = [] ↔ x = mk P [((0 : Nat) : Int)] := ⟨fun h => Subtype.ext (h.trans zero_val.symm), fun h => h ▸ zero_val⟩
end
end Mine
end
noncomputable section
set_option Elab.async false
set_option linter.all false
namespace Mine

noncomputable def spread (q : Nat) : List Int → List Int
  | [] => []
  | c :: t => c :: (List.replicate (q - 1) 0 ++ spread q t)
theorem fermat {p : Int} (hp : PP p) (c : Int) : p ∣ c ^ p.toNat - c := by
  rcases hp with rfl | rfl | rfl
  · have h : c % 2 = 0 ∨ c % 2 = 1 := by lia
    apply Int.dvd_of_emod_eq_zero
    show (c ^ 2 - c) % 2 = 0
    rcases h with h | h <;> simp [Int.pow_succ, Int.mul_emod, Int.sub_emod, h]
  · have h : c % 3 = 0 ∨ c % 3 = 1 ∨ c % 3 = 2 := by lia
    apply Int.dvd_of_emod_eq_zero
    show (c ^ 3 - c) % 3 = 0
    rcases h with h | h | h <;> simp [Int.pow_succ, Int.mul_emod, Int.sub_emod, h]
  · have h : c % 5 = 0 ∨ c % 5 = 1 ∨ c % 5 = 2 ∨ c % 5 = 3 ∨ c % 5 = 4 := by lia
    apply Int.dvd_of_emod_eq_zero
    show (c ^ 5 - c) % 5 = 0
    rcases h with h | h | h | h | h <;> simp [Int.pow_succ, Int.mul_emod, Int.sub_emod, h]
theorem freshman {R : Type} [Lean.Grind.CommRing R] (a b : R) : ((2 : R) = 0 → (a + b) ^ 2 = a ^ 2 + b ^ 2) ∧ ((3 : R) = 0 → (a + b) ^ 3 = a ^ 3 + b ^ 3) ∧ ((5 : R) = 0 → (a + b) ^ 5 = a ^ 5 + b ^ 5) := by
  refine ⟨fun h => ?_, fun h => ?_, fun h => ?_⟩ <;> grind
theorem mulpow {R : Type} [Lean.Grind.CommRing R] (a b : R) : (a * b) ^ 2 = a ^ 2 * b ^ 2 ∧ (a * b) ^ 3 = a ^ 3 * b ^ 3 ∧ (a * b) ^ 5 = a ^ 5 * b ^ 5 := by
  refine ⟨?_, ?_, ?_⟩ <;> grind

section
variable {P : Prm}
theorem pow_mk1 (c : Int) : ∀ k, powR (mk P [c]) k = mk P [c ^ k]
  | 0 => by simp [powR]
  | k + 1 => by
    rw [powR, pow_mk1 c k, mk_mul]
    exact mk_ext fun n => by rw [ev_pmul]; simp only [ev, Int.pow_succ]; grind
theorem pow_mkX : ∀ k, powR (mk P [0, 1]) k = mk P (List.replicate k 0 ++ [1])
  | 0 => rfl
  | k + 1 => by
    rw [powR, pow_mkX k, mk_mul]
    exact mk_ext fun n => by rw [ev_pmul, ev_one, ev_one]; simp only [ev, Int.pow_succ]; grind
theorem char0 : mk P [P.1] = mk P [((0 : Nat) : Int)] := mk_eq ⟨[1], fun n => by simp only [ev]; grind⟩
theorem frob (r : List Int) : powR (mk P r) P.1.toNat = mk P (spread P.1.toNat r) := by
  letI := ringR P
  have hp := P.2.pos
  induction r with
  | nil =>
    have : ∀ k, powR (mk P []) (k + 1) = mk P [] := fun k => by
      rw [powR]
      refine rg_ind (C := fun y => mulR y (mk P []) = mk P []) (fun l => ?_) _
      rw [mk_mul]; exact mk_ext fun n => by rw [ev_pmul]; simp [ev]
    obtain ⟨k, hk⟩ : ∃ k, P.1.toNat = k + 1 := ⟨P.1.toNat - 1, by lia⟩
    rw [hk, this]; rfl
  | cons c t ih =>
    have e1 : mk P (c :: t) = mk P [c] + mk P [0, 1] * mk P t := by
      show _ = addR (mk P [c]) (mulR (mk P [0, 1]) (mk P t))
      rw [mk_mul, mk_add]
      exact mk_ext fun n => by rw [ev_padd, ev_pmul]; simp only [ev]; grind
    have e2 : powR (mk P [c]) P.1.toNat = mk P [c] := by
      rw [pow_mk1]
      (refine e1_1 ?_ (fermat P.2 c); intro d hd)
      refine mk_eq ⟨[d], fun n => by simp only [ev]; grind⟩
    have e3 : powR (mk P (c :: t)) P.1.toNat = powR (mk P [c]) P.1.toNat + powR (mk P [0, 1]) P.1.toNat * powR (mk P t) P.1.toNat := by
      rw [e1]
      have h0 := char0 (P := P)
      have F := freshman (mk P [c]) (mk P [0, 1] * mk P t)
      have G := mulpow (mk P [0, 1]) (mk P t)
      rcases P.2 with h | h | h
      · rw [h] at h0 ⊢
        have f1 : (mk P [c] + mk P [0, 1] * mk P t) ^ 2 = mk P [c] ^ 2 + mk P [0, 1] ^ 2 * mk P t ^ 2 := by rw [F.1 h0, G.1]
        exact f1
      · rw [h] at h0 ⊢
        have f1 : (mk P [c] + mk P [0, 1] * mk P t) ^ 3 = mk P [c] ^ 3 + mk P [0, 1] ^ 3 * mk P t ^ 3 := by rw [F.2.1 h0, G.2.1]
        exact f1
      · rw [h] at h0 ⊢
        have f1 : (mk P [c] + mk P [0, 1] * mk P t) ^ 5 = mk P [c] ^ 5 + mk P [0, 1] ^ 5 * mk P t ^ 5 := by rw [F.2.2 h0, G.2.2]
        exact f1
    rw [e3, e2, pow_mkX, ih]
    show addR (mk P [c]) (mulR _ _) = _
    rw [mk_mul, mk_add]
    refine mk_ext fun n => ?_
    simp only [ev_padd, ev_pmul, ev_one, spread, ev, ev_append, ev_all_zero (List.replicate _ 0) (by simp), List.length_replicate]
    obtain ⟨k, hk⟩ : ∃ k, P.1.toNat = k + 1 := ⟨P.1.toNat - 1, by lia⟩
    rw [hk]
    simp only [Nat.add_sub_cancel, Int.pow_succ]
    grind

theorem ev_getD : ∀ (a b : List Int), (∀ i, a.getD i 0 = b.getD i 0) → ∀ n, ev a n = ev b n
  | [], b, h, n => by
    refine (ev_all_zero b (fun x hx => ?_) n).symm
    (refine e1_1 ?_ (List.getElem_of_mem hx); intro i zz1; refine e1_1 ?_ zz1; clear zz1; intro hi zz2; subst zz2)
    have := h i
    rw [List.getD_eq_getElem?_getD, List.getD_eq_getElem?_getD, List.getElem?_eq_getElem hi] at this
    simpa using this.symm
  | x :: a, [], h, n => by
    refine ev_all_zero (x :: a) (fun y hy => ?_) n
    (refine e1_1 ?_ (List.getElem_of_mem hy); intro i zz1; refine e1_1 ?_ zz1; clear zz1; intro hi zz2; subst zz2)
    have := h i
    rw [List.getD_eq_getElem?_getD, List.getD_eq_getElem?_getD, List.getElem?_eq_getElem hi] at this
    simpa using this
  | x :: a, y :: b, h, n => by
    have h0 := h 0
    simp only [List.getD_cons_zero] at h0
    rw [ev, ev, h0, ev_getD a b (fun i => by have := h (i + 1); simpa using this) n]
theorem spread_getD {q : Nat} (hq : 0 < q) : ∀ (r : List Int) (i : Nat), (spread q r).getD i 0 = if i % q = 0 then r.getD (i / q) 0 else 0
  | [], i => by simp [spread]
  | c :: t, i => by
    rw [spread]
    cases i with
    | zero => simp
    | succ i =>
      rw [List.getD_cons_succ]
      by_cases hi : i < q - 1
      · have h1 : (i + 1) % q = i + 1 := Nat.mod_eq_of_lt (by lia)
        rw [h1, if_neg (by lia), List.getD_eq_getElem?_getD, List.getElem?_append_left (by simpa using hi)]
        simp [hi]
      · have h2 : i - (q - 1) = i + 1 - q := by lia
        rw [List.getD_eq_getElem?_getD, List.getElem?_append_right (by simp; lia), List.length_replicate, h2, ← List.getD_eq_getElem?_getD, spread_getD hq t]
        have h3 : (i + 1) % q = (i + 1 - q) % q := by rw [Nat.mod_eq_sub_mod (by lia)]
        have h4 : (i + 1) / q = (i + 1 - q) / q + 1 := by rw [Nat.div_eq_sub_div hq (by lia)]
        rw [h3, h4, List.getD_cons_succ]
theorem rootL_getD {q : Nat} (hq : 0 < q) (a : List Int) (k : Nat) : (rootL q a).getD k 0 = a.getD (k * q) 0 := by
  rw [rootL, List.getD_eq_getElem?_getD, List.getElem?_map]
  by_cases h : k < (a.length + q - 1) / q
  · rw [List.getElem?_range h]; rfl
  · rw [List.getElem?_eq_none (by simpa using h)]
    have : a.length ≤ k * q := by
      apply Classical.byContradiction
      intro h2
      apply h
      have : k + 1 ≤ (a.length + q - 1) / q := (Nat.le_div_iff_mul_le hq).mpr (by rw [Nat.add_mul]; lia)
      exact this
    simp [List.getD_eq_getElem?_getD, List.getElem?_eq_none this]
theorem trim_nil : ∀ (l : List Int), trim l = [] → ∀ x ∈ l, x = 0
  | [], _, _, h => nomatch h
  | y :: t, h, x, hx => by
    rw [trim_cons] at h
    split at h
    · rename_i h2
      rcases List.mem_cons.mp hx with rfl | hx
      · exact h2.2
      · exact trim_nil t h2.1 x hx
    · cases h
/-- no derivative: nothing but powers of the prime -/
theorem der_zero {p : Int} (hp : PP p) {a : List Int} (ha : Good p a) (h : derL p a = []) (i : Nat) (hi : ¬ i % p.toNat = 0) : a.getD i 0 = 0 := by
  have hpp := hp.pos
  by_cases hl : i < a.length
  · have hi0 : 0 < i := by
      rcases Nat.eq_zero_or_pos i with h0 | h0
      · rw [h0] at hi; simp at hi
      · exact h0
    have hz := trim_nil _ h (((i : Nat) : Int) * a.getD i 0 % p) (by
      refine List.mem_of_getElem? (i := i - 1) ?_
      rw [List.getElem?_drop, List.getElem?_map, show 1 + (i - 1) = i by lia, List.getElem?_range hl]; rfl)
    have hd : p ∣ (i : Int) * a.getD i 0 := Int.dvd_of_emod_eq_zero hz
    have hl1 : 0 < (i : Int) % p ∧ (i : Int) % p < p := by
      have h1 := Int.emod_nonneg (i : Int) (show p ≠ 0 by lia)
      have h2 := Int.emod_lt_of_pos (i : Int) (show 0 < p by lia)
      have h3 : (i : Int) % p ≠ 0 := by
        intro h4
        apply hi
        have : ((i % p.toNat : Nat) : Int) = 0 := by
          rw [Int.natCast_emod, Int.toNat_of_nonneg (by lia)]; exact h4
        lia
      lia
    have hinv := invP_spec hp hl1
    have h5 := Int.emod_add_mul_ediv ((i : Int) % p * invP p ((i : Int) % p)) p
    rw [hinv.1] at h5
    have h6 := Int.emod_add_mul_ediv (i : Int) p
    have hm : a.getD i 0 ∈ a := by rw [List.getD_eq_getElem?_getD, List.getElem?_eq_getElem hl]; exact List.getElem_mem hl
    (refine e0_2 ?_ (ha.rng _ hm); intro r1 r2)
    refine zero_of_dvd r1 r2 ?_
    (refine e1_1 ?_ hd; clear hd; intro c hc)
    generalize (i : Int) % p * invP p ((i : Int) % p) / p = e at *
    generalize invP p ((i : Int) % p) = v at *
    generalize (i : Int) % p = u at *
    generalize (i : Int) / p = z at *
    generalize a.getD i 0 = x at *
    refine ⟨v * c - v * z * x - x * e, ?_⟩
    have : x = x * (u * v) - x * (p * e) := by rw [← h5]; grind
    have h7 : u = (i : Int) - p * z := by lia
    rw [h7] at this
    grind
  · exact getD_of_le (by lia)
theorem root_good {p : Int} (hp : PP p) {a : List Int} (ha : Good p a) (h : derL p a = []) : Good p (rootL p.toNat a) := by
  have hpp := hp.pos
  have hq : 0 < p.toNat := by lia
  refine ⟨fun x hx => ?_, ?_⟩
  · (refine e1_2 ?_ (List.mem_map.mp hx); intro k _ zz1; subst zz1)
    by_cases hl : k * p.toNat < a.length
    · exact ha.rng _ (by rw [List.getD_eq_getElem?_getD, List.getElem?_eq_getElem hl]; exact List.getElem_mem hl)
    · rw [getD_of_le (by lia)]; lia
  · by_cases hn : a = []
    · subst hn
      have : ([] : List Int).length + p.toNat - 1 < p.toNat := by simp; lia
      simp only [rootL, Nat.div_eq_of_lt this]; rfl
    · (refine e0_3 ?_ (good_last ha hn); intro h1 h2 h3)
      have hal := List.length_pos_iff.mpr hn
      rw [lead_getD hn] at h2 h3
      have hmod : (a.length - 1) % p.toNat = 0 := by
        apply Classical.byContradiction
        intro h4
        rw [der_zero hp ha h _ h4] at h2
        lia
      have hlen : (rootL p.toNat a).length = (a.length - 1) / p.toNat + 1 := by
        rw [rootL, List.length_map, List.length_range, show a.length + p.toNat - 1 = a.length - 1 + p.toNat by lia, Nat.add_div_right _ hq]
      refine trim_id (.inr ?_)
      have hne : rootL p.toNat a ≠ [] := by intro h5; rw [h5] at hlen; simp at hlen
      rw [lead_getD hne, rootL_getD hq, hlen, Nat.add_sub_cancel]
      have : (a.length - 1) / p.toNat * p.toNat = a.length - 1 := Nat.div_mul_cancel (Nat.dvd_of_mod_eq_zero hmod)
      rw [this]; lia
theorem root_pow (x : Rg P) (h : derL P.1 x.1 = []) : x = powR (mk P (rootL P.1.toNat x.1)) P.1.toNat := by
  have hp := P.2.pos
  have hq : 0 < P.1.toNat := by lia
  rw [frob]
  conv => lhs; rw [← mk_val x]
  refine mk_ext (ev_getD _ _ fun i => ?_)
  rw [spread_getD hq]
  split
  · rename_i h1
    rw [rootL_getD hq, Nat.div_mul_cancel (Nat.dvd_of_mod_eq_zero h1)]
  · rename_i h1
    exact der_zero P.2 x.2 h i h1
end
end Mine
end
noncomputable section
set_option Elab.async false
set_option linter.all false
namespace Mine

section
variable {P : Prm}
noncomputable abbrev el (P : Prm) (a : List Int) (h : Good P.1 a) : Rg P := ⟨a, h⟩
theorem ne_nil {x : Rg P} (h : ¬ x = mk P [((0 : Nat) : Int)]) : x.1 ≠ [] := fun q => h ((nil_iff x).mp q)
theorem mul_dm (x y : Rg P) (hy : y.1 ≠ []) : x = addR (mulR (el P (quotL P.1 x.1 y.1) (div_spec P.2 x.2 y.2 hy).1) y) (el P (restL P.1 x.1 y.1) (div_spec P.2 x.2 y.2 hy).2.1) := by
  (refine e0_6 ?_ (div_spec P.2 x.2 y.2 hy); intro h1 h2 _ _ _ zz1; refine e1_1 ?_ zz1; clear zz1; intro w hw)
  have e1 : mulR (el P (quotL P.1 x.1 y.1) h1) y = mk P (pmul (quotL P.1 x.1 y.1) y.1) := rfl
  rw [e1, ← mk_val (el P (restL P.1 x.1 y.1) h2), mk_add]
  conv => lhs; rw [← mk_val x]
  exact mk_eq ⟨w, fun n => by rw [ev_padd, ev_pmul, hw]⟩
noncomputable def euR (P : Prm) : @Eu (Rg P) (ringR P) :=
  letI := ringR P
  have hp := P.2.pos
  { len := fun x => x.1.length
    D := derR
    root := fun x => mk P (rootL P.1.toNat x.1)
    p := P.1.toNat
    monic := fun x => lead x.1 = 1
    p2 := by omega
    len0 := fun x => List.length_eq_zero_iff.trans (nil_iff x)
    lenMul := fun x y hx hy => by
      show (mulR x y).1.length + 1 = _
      rw [mulR_val]
      exact (mul_top P.2 x.2 y.2 (ne_nil hx) (ne_nil hy)).1
    len1 := by show (mk P [((1 : Nat) : Int)]).1.length = 1; rw [one_val]; rfl
    dm := fun x y hy => ⟨_, _, mul_dm x y (ne_nil hy), (div_spec P.2 x.2 y.2 (ne_nil hy)).2.2.1⟩
    unit := fun x hx => by
      (refine e1_1 ?_ (len1 hx); intro c hc)
      have hg := good_last x.2 (by rw [hc]; simp)
      have hlc : lead x.1 = c := by rw [hc]; rfl
      rw [hlc] at hg
      have hinv := invP_spec P.2 hg.2
      refine ⟨mk P [invP P.1 c], ?_⟩
      show mulR x _ = mk P [((1 : Nat) : Int)]
      rw [← mk_val x, hc, mk_mul]
      have h5 := Int.emod_add_mul_ediv (c * invP P.1 c) P.1
      rw [hinv.1] at h5
      refine mk_eq ⟨[c * invP P.1 c / P.1], fun n => ?_⟩
      rw [ev_pmul]
      simp only [ev]
      generalize c * invP P.1 c / P.1 = e at *
      generalize invP P.1 c = v at *
      push_cast
      grind
    monic_ne := fun x h q => by
      have : x.1 = [] := (nil_iff x).mpr q
      rw [this] at h; simp [lead] at h
    monic_cancel := fun x y h hx => by
      have h' : lead (mulL P.1 x.1 y.1) = 1 := by rw [← mulR_val]; exact h
      have hx0 : x.1 ≠ [] := fun q => by rw [q] at hx; simp [lead] at hx
      have hy0 : y.1 ≠ [] := fun q => by rw [q] at h'; simp [mulL, lead] at h'
      have hg := good_last y.2 hy0
      rw [(mul_top P.2 x.2 y.2 hx0 hy0).2, hx, Int.one_mul, Int.emod_eq_of_lt (by omega) (by omega)] at h'
      exact h'
    monic_unit := fun x h hl => by
      (refine e1_1 ?_ (len1 hl); intro c hc)
      have hlc : lead x.1 = c := by rw [hc]; rfl
      refine Subtype.ext ?_
      show x.1 = (mk P [((1 : Nat) : Int)]).1
      rw [one_val, hc, ← hlc, h]
    D_mul := fun x y => by
      show derR (mulR x y) = addR (mulR (derR x) y) (mulR x (derR y))
      rw [← mk_val x, ← mk_val y, mk_mul, mk_der, mk_der, mk_der, mk_mul, mk_mul, mk_add]
      exact mk_ext fun n => by simp only [ev_pder, ev_padd, ev_pmul, ed_pmul]
    D_one := by
      show derR (mk P [((1 : Nat) : Int)]) = mk P [((0 : Nat) : Int)]
      rw [mk_der]
      exact mk_ext fun n => by rw [ev_pder]; simp [ed, ev]
    D_len := fun x hx => by
      have h1 := der_length P.1 x.1
      have h2 := List.length_pos_iff.mpr (ne_nil hx)
      show (derR x).1.length < _
      rw [derR_val]; omega
    root_pow := fun x h => root_pow x (by rw [← derR_val]; exact (nil_iff _).mpr h) }

theorem gcdF_isG {x y : Rg P} (hl : x.1.length < 400) (hl2 : y.1.length < 400) : ∀ n, y.1.length < n →
    @Dv _ (ringR P) (el P (gcdF P.1 n x.1 y.1) (gcdF_good P.2 n _ _ x.2 y.2 hl hl2).1) x ∧ @Dv _ (ringR P) (el P (gcdF P.1 n x.1 y.1) (gcdF_good P.2 n _ _ x.2 y.2 hl hl2).1) y ∧
    ∃ s t : Rg P, el P (gcdF P.1 n x.1 y.1) (gcdF_good P.2 n _ _ x.2 y.2 hl hl2).1 = addR (mulR s x) (mulR t y) := by
  letI := ringR P
  intro n
  induction n generalizing x y with
  | zero => intro h; lia
  | succ n ih =>
    intro h
    by_cases hn : y.1 = []
    · have e : el P (gcdF P.1 (n + 1) x.1 y.1) (gcdF_good P.2 (n + 1) _ _ x.2 y.2 hl hl2).1 = x := Subtype.ext (by show gcdF P.1 (n + 1) x.1 y.1 = x.1; rw [gcdF_s, if_pos hn])
      have hy : y = 0 := (nil_iff y).mp hn
      rw [e]
      refine ⟨dv_refl x, ⟨0, by rw [hy]; grind⟩, 1, 0, ?_⟩
      show x = 1 * x + 0 * y
      grind
    · (refine e0_6 ?_ (div_spec P.2 x.2 y.2 hn); intro d1 d2 d3 d4 d5 _)
      (refine e0_3 ?_ (ih (x := y) (y := el P (restL P.1 x.1 y.1) d2) hl2 (by show (restL P.1 x.1 y.1).length < 400; lia) (by show (restL P.1 x.1 y.1).length < n; lia)); intro i1 i2 zz1; refine e2_1 ?_ zz1; clear zz1; intro s t i3)
      have e : el P (gcdF P.1 (n + 1) x.1 y.1) (gcdF_good P.2 (n + 1) _ _ x.2 y.2 hl hl2).1 = el P (gcdF P.1 n y.1 (restL P.1 x.1 y.1)) (gcdF_good P.2 n _ _ y.2 d2 hl2 (by show (restL P.1 x.1 y.1).length < 400; lia)).1 := Subtype.ext (by show gcdF P.1 (n + 1) x.1 y.1 = _; rw [gcdF_s, if_neg hn])
      have hd := mul_dm x y hn
      rw [e]
      generalize el P (gcdF P.1 n y.1 (restL P.1 x.1 y.1)) (gcdF_good P.2 n _ _ y.2 d2 hl2 (by show (restL P.1 x.1 y.1).length < 400; lia)).1 = g at *
      generalize hq : el P (quotL P.1 x.1 y.1) d1 = q at *
      generalize hr : el P (restL P.1 x.1 y.1) d2 = r at *
      have hd' : x = q * y + r := hd
      have i3' : g = s * y + t * r := i3
      refine ⟨?_, i1, t, s - t * q, ?_⟩
      · have := i1.lin i2 q 1
        have e2 : q * y + 1 * r = x := by rw [hd']; grind
        rwa [e2] at this
      · show g = t * x + (s - t * q) * y
        rw [i3', hd']; grind
theorem lead_scale {p : Int} (hp : PP p) {a : List Int} (ha : Good p a) (hn : a ≠ []) (k : Int) (hk : lead a * k % p ≠ 0) : lead (scaleL p a k) = lead a * k % p ∧ (scaleL p a k).length = a.length := by
  have h1 : lead (a.map fun x => x * k % p) = lead a * k % p := by
    (refine e0_2 ?_ (good_last ha hn); intro e _)
    rw [e, List.map_append]
    simp [lead]
  have h2 : scaleL p a k = a.map fun x => x * k % p := trim_id (.inr (by rw [h1]; exact hk))
  rw [h2]
  exact ⟨h1, by simp⟩
theorem monic_lead {p : Int} (hp : PP p) {a : List Int} (ha : Good p a) (hn : a ≠ []) : lead (monicL p a) = 1 ∧ (monicL p a).length = a.length := by
  (refine e0_2 ?_ (good_last ha hn); intro _ h2)
  have hinv := invP_spec hp h2
  have := lead_scale hp ha hn (invP p (lead a)) (by rw [hinv.1]; decide)
  rw [monicL, if_neg hn, this.1, hinv.1]
  exact ⟨rfl, this.2⟩
theorem monic_dv (x : Rg P) : @Dv _ (ringR P) (el P (monicL P.1 x.1) (monic_good P.2 x.2)) x ∧ @Dv _ (ringR P) x (el P (monicL P.1 x.1) (monic_good P.2 x.2)) ∧ ∃ k : Rg P, el P (monicL P.1 x.1) (monic_good P.2 x.2) = mulR k x := by
  letI := ringR P
  by_cases hn : x.1 = []
  · have hx : x = 0 := (nil_iff x).mp hn
    have e : el P (monicL P.1 x.1) (monic_good P.2 x.2) = x := Subtype.ext (by show monicL P.1 x.1 = x.1; rw [monicL, if_pos hn, hn])
    rw [e]
    exact ⟨dv_refl x, dv_refl x, 1, by show x = 1 * x; grind⟩
  · (refine e0_2 ?_ (good_last x.2 hn); intro _ h2)
    have hinv := invP_spec P.2 h2
    have e : el P (monicL P.1 x.1) (monic_good P.2 x.2) = mulR (mk P [invP P.1 (lead x.1)]) x := Subtype.ext (by rw [scale_val]; show monicL P.1 x.1 = _; rw [monicL, if_neg hn])
    rw [e]
    have hu : mulR (mk P [lead x.1]) (mk P [invP P.1 (lead x.1)]) = mk P [((1 : Nat) : Int)] := by
      rw [mk_mul]
      have h5 := Int.emod_add_mul_ediv (lead x.1 * invP P.1 (lead x.1)) P.1
      rw [hinv.1] at h5
      refine mk_eq ⟨[lead x.1 * invP P.1 (lead x.1) / P.1], fun n => ?_⟩
      rw [ev_pmul]
      simp only [ev]
      push_cast
      generalize lead x.1 * invP P.1 (lead x.1) / P.1 = z at *
      grind
    generalize mk P [invP P.1 (lead x.1)] = v at *
    generalize mk P [lead x.1] = u at *
    have hu' : u * v = 1 := hu
    refine ⟨⟨u, ?_⟩, ⟨v, ?_⟩, v, rfl⟩
    · show x = v * x * u
      have : v * x * u = u * v * x := by grind
      rw [this, hu']; grind
    · show v * x = x * v
      grind
theorem gcd_isG {x y : Rg P} (hl : x.1.length < 400) (hl2 : y.1.length < 400) : @Eu.IsG _ (ringR P) (euR P) (el P (gcdL P.1 x.1 y.1) (gcd_good P.2 x.2 y.2 hl hl2).1) x y := by
  letI := ringR P
  (refine e0_3 ?_ (gcdF_isG (P := P) hl hl2 1000 (by lia)); intro h1 h2 zz1; refine e2_1 ?_ zz1; clear zz1; intro s t h3)
  have hg := (gcdF_good P.2 1000 _ _ x.2 y.2 hl hl2).1
  (refine e0_3 ?_ (monic_dv (el P (gcdF P.1 1000 x.1 y.1) hg)); intro m1 m2 zz1; refine e1_1 ?_ zz1; clear zz1; intro k m3)
  have e : el P (gcdL P.1 x.1 y.1) (gcd_good P.2 x.2 y.2 hl hl2).1 = el P (monicL P.1 (gcdF P.1 1000 x.1 y.1)) (monic_good P.2 hg) := rfl
  rw [e]
  refine ⟨?_, m1.tr h1, m1.tr h2, k * s, k * t, ?_⟩
  · by_cases hn : gcdF P.1 1000 x.1 y.1 = []
    · right
      refine (nil_iff _).mp ?_
      show monicL P.1 _ = []
      rw [hn]; rfl
    · left
      exact (monic_lead P.2 hg hn).1
  · rw [m3, h3]
    show k * (s * x + t * y) = k * s * x + k * t * y
    grind
end
end Mine
end
noncomputable section
open PySem PySem.W PyProof.Rows PySem.Calls PySem.Spec
set_option Elab.async false
set_option linter.all false
namespace Mine

theorem rpow_add {R : Type} [Lean.Grind.CommRing R] (a : R) (m : Nat) : ∀ n : Nat, a ^ (m + n) = a ^ m * a ^ n
  | 0 => by grind
  | n + 1 => by
    have e : a ^ (m + (n + 1)) = a ^ (m + n) * a := by grind
    rw [e, rpow_add a m n]; grind
theorem rpow_mul {R : Type} [Lean.Grind.CommRing R] (a b : R) : ∀ n : Nat, (a * b) ^ n = a ^ n * b ^ n
  | 0 => by grind
  | n + 1 => by
    have e : (a * b) ^ (n + 1) = (a * b) ^ n * (a * b) := by grind
    rw [e, rpow_mul a b n]; grind
theorem rpow_pow {R : Type} [Lean.Grind.CommRing R] (a : R) (m : Nat) : ∀ n : Nat, (a ^ m) ^ n = a ^ (n * m)
  | 0 => by rw [Nat.zero_mul]; grind
  | n + 1 => by
    have e : (a ^ m) ^ (n + 1) = (a ^ m) ^ n * a ^ m := by grind
    rw [e, rpow_pow a m n, Nat.add_mul, Nat.one_mul, rpow_add]
theorem rpow_one {R : Type} [Lean.Grind.CommRing R] : ∀ n : Nat, (1 : R) ^ n = 1
  | 0 => by grind
  | n + 1 => by
    have e : (1 : R) ^ (n + 1) = 1 ^ n * 1 := by grind
    rw [e, rpow_one n]; grind

section
variable {P : Prm}
theorem el_ne {x : Rg P} (h : lead x.1 = 1) : x.1 ≠ [] := fun q => by rw [q] at h; simp [lead] at h
theorem quot_exact {x y : Rg P} (hy : y.1 ≠ []) (h : @Dv _ (ringR P) y x) : x = mulR (el P (quotL P.1 x.1 y.1) (div_spec P.2 x.2 y.2 hy).1) y ∧ restL P.1 x.1 y.1 = [] := by
  letI := ringR P
  have hd := mul_dm x y hy
  have hlt := (div_spec P.2 x.2 y.2 hy).2.2.1
  generalize hq : el P (quotL P.1 x.1 y.1) (div_spec P.2 x.2 y.2 hy).1 = q at *
  generalize hr : el P (restL P.1 x.1 y.1) (div_spec P.2 x.2 y.2 hy).2.1 = r at *
  have hd' : x = q * y + r := hd
  have hrl : r.1 = restL P.1 x.1 y.1 := by rw [← hr]
  have hr0 : r = 0 := by
    apply Classical.byContradiction
    intro hne
    have hdv : Dv y r := by
      (refine e1_1 ?_ h; clear h; intro c hc)
      exact ⟨c - q, by grind⟩
    have := (euR P).dv_len hdv hne
    have e : (euR P).len r = (restL P.1 x.1 y.1).length := by show r.1.length = _; rw [hrl]
    have e2 : (euR P).len y = y.1.length := rfl
    lia
  refine ⟨?_, by rw [← hrl]; exact (nil_iff r).mpr hr0⟩
  show x = q * y
  rw [hd', hr0]; grind
theorem exact_len {x y q : Rg P} (h : x = mulR q y) (hx : x.1 ≠ []) : x.1.length + 1 = q.1.length + y.1.length := by
  letI := ringR P
  have hx0 : x ≠ 0 := fun e => hx ((nil_iff x).mpr e)
  have h' : x = q * y := h
  have hq : q ≠ 0 := fun e => hx0 (by rw [h', e]; grind)
  have hy : y ≠ 0 := fun e => hx0 (by rw [h', e]; grind)
  have := (euR P).lenMul q y hq hy
  rw [← h'] at this
  exact this
theorem exact_lead {x y q : Rg P} (h : x = mulR q y) (hx : lead x.1 = 1) (hy : lead y.1 = 1) : lead q.1 = 1 := by
  letI := ringR P
  have h' : x = q * y := h
  refine (euR P).monic_cancel y q ?_ hy
  have e : y * q = x := by rw [h']; grind
  rw [e]; exact hx
theorem gcd_lead {x y : Rg P} (hl : x.1.length < 400) (hl2 : y.1.length < 400) (hx : x.1 ≠ []) : lead (gcdL P.1 x.1 y.1) = 1 := by
  letI := ringR P
  have h := gcd_isG hl hl2
  rcases h.m with h1 | h1
  · exact h1
  · exfalso
    (refine e1_1 ?_ h.l; intro c hc)
    rw [h1] at hc
    have hx0 : x = 0 := by rw [hc]; grind
    exact hx ((nil_iff x).mpr hx0)

noncomputable def pw (P : Prm) (fd : List (List Int × Nat)) : Rg P := fd.foldr (fun q acc => mulR (powR (mk P q.1) q.2) acc) (mk P [((1 : Nat) : Int)])
theorem pw_app (a b : List (List Int × Nat)) : pw P (a ++ b) = mulR (pw P a) (pw P b) := by
  letI := ringR P
  induction a with
  | nil => show pw P b = 1 * pw P b; grind
  | cons q a ih =>
    show mulR (powR (mk P q.1) q.2) (pw P (a ++ b)) = mulR (mulR (powR (mk P q.1) q.2) (pw P a)) (pw P b)
    rw [ih]
    show powR (mk P q.1) q.2 * (pw P a * pw P b) = powR (mk P q.1) q.2 * pw P a * pw P b
    grind

noncomputable def partsF (p : Int) (m : Nat) : Nat → List (List Int × Nat) → List Int → List Int → Nat → List (List Int × Nat) × List Int
  | 0, fd, _, c, _ => (fd, c)
  | n + 1, fd, l, c, t => if l.length ≤ 1 then (fd, c) else
    partsF p m n (if 1 < (quotL p l (gcdL p l c)).length then fd ++ [(quotL p l (gcdL p l c), t)] else fd) (gcdL p l c) (quotL p c (gcdL p l c)) (t + m)
theorem partsF_s {p : Int} {m n : Nat} {fd : List (List Int × Nat)} {l c : List Int} {t : Nat} : partsF p m (n + 1) fd l c t = if l.length ≤ 1 then (fd, c) else
    partsF p m n (if 1 < (quotL p l (gcdL p l c)).length then fd ++ [(quotL p l (gcdL p l c), t)] else fd) (gcdL p l c) (quotL p c (gcdL p l c)) (t + m) := rfl
noncomputable def partsL (p : Int) (f : List Int) (m : Nat) : List (List Int × Nat) × List Int :=
  partsF p m 1000 [] (quotL p f (gcdL p f (derL p f))) (gcdL p f (derL p f)) m

structure PInv (P : Prm) (f L0 : Rg P) (m : Nat) (fd : List (List Int × Nat)) (l c : Rg P) (t : Nat) : Prop where
  hl : lead l.1 = 1
  hc : lead c.1 = 1
  dv : @Dv _ (ringR P) c (mulR l (derR c))
  dl : @Dv _ (ringR P) l L0
  prod : powR f m = mulR (mulR (pw P fd) (powR l t)) (powR c m)
  parts : ∀ q ∈ fd, ∃ h : Good P.1 q.1, lead q.1 = 1 ∧ 1 < q.1.length ∧ 1 ≤ q.2 ∧ @Dv _ (ringR P) (el P q.1 h) L0
  t1 : 1 ≤ t
  ll : l.1.length < 400
  lc : c.1.length < 400
  sz : fd.length + l.1.length + c.1.length ≤ 900
  cl : c.1.length ≤ f.1.length

theorem PInv.step {f L0 : Rg P} {m : Nat} {fd : List (List Int × Nat)} {l c : Rg P} {t : Nat} (I : PInv P f L0 m fd l c t) (h : ¬ l.1.length ≤ 1) :
    ∃ s pt c2 : Rg P, s.1 = gcdL P.1 l.1 c.1 ∧ pt.1 = quotL P.1 l.1 s.1 ∧ c2.1 = quotL P.1 c.1 s.1 ∧ s.1 ≠ [] ∧ PInv P f L0 m (if 1 < pt.1.length then fd ++ [(pt.1, t)] else fd) s c2 (t + m) ∧ s.1.length + c2.1.length < l.1.length + c.1.length := by
  letI := ringR P
  have hG := gcd_isG I.ll I.lc
  have hsl := gcd_lead I.ll I.lc (el_ne I.hl)
  generalize hs : el P (gcdL P.1 l.1 c.1) (gcd_good P.2 l.2 c.2 I.ll I.lc).1 = s at hG
  have hs1 : s.1 = gcdL P.1 l.1 c.1 := by rw [← hs]
  rw [← hs1] at hsl
  have hsn := el_ne hsl
  (refine e0_2 ?_ (quot_exact hsn hG.l); intro q1 _)
  (refine e0_2 ?_ (quot_exact hsn hG.r); intro q2 _)
  generalize hpt : el P (quotL P.1 l.1 s.1) (div_spec P.2 l.2 s.2 hsn).1 = pt at q1
  generalize hc2 : el P (quotL P.1 c.1 s.1) (div_spec P.2 c.2 s.2 hsn).1 = c2 at q2
  have hpl := exact_lead q1 I.hl hsl
  have hcl := exact_lead q2 I.hc hsl
  have e1 := exact_len q1 (el_ne I.hl)
  have e2 := exact_len q2 (el_ne I.hc)
  have q1' : l = s * pt := by have : l = pt * s := q1; rw [this]; grind
  have q2' : c = s * c2 := by have : c = c2 * s := q2; rw [this]; grind
  have hc0 : c ≠ 0 := fun e => el_ne I.hc ((nil_iff c).mpr e)
  have hp1 := List.length_pos_iff.mpr (el_ne hpl)
  have hcp := List.length_pos_iff.mpr (el_ne hcl)
  have hsp := List.length_pos_iff.mpr hsn
  have hptD : Dv pt l := ⟨s, by rw [q1']; grind⟩
  refine ⟨s, pt, c2, hs1, by rw [← hpt], by rw [← hc2], hsn, ?_, by lia⟩
  have hprod : powR f m = mulR (mulR (mulR (pw P fd) (powR pt t)) (powR s (t + m))) (powR c2 m) := by
    have h0 : powR f m = pw P fd * l ^ t * c ^ m := I.prod
    have h1 : l ^ t = s ^ t * pt ^ t := by rw [q1', rpow_mul]
    have h2 : c ^ m = s ^ m * c2 ^ m := by rw [q2', rpow_mul]
    have h3 : s ^ (t + m) = s ^ t * s ^ m := rpow_add ..
    show powR f m = pw P fd * pt ^ t * s ^ (t + m) * c2 ^ m
    rw [h0, h1, h2, h3]
    grind
  refine {
    hl := hsl
    hc := hcl
    dv := (euR P).turn hc0 I.dv hG q1' q2'
    dl := hG.l.tr I.dl
    prod := ?_
    parts := fun q hq => ?_
    t1 := by have := I.t1; lia
    ll := by have := I.ll; lia
    lc := by have := I.lc; lia
    sz := ?_
    cl := by have := I.cl; lia }
  · split
    · rw [pw_app]
      have : pw P [(pt.1, t)] = powR pt t := by
        show mulR (powR (Mine.mk P pt.1) t) (Mine.mk P [((1 : Nat) : Int)]) = _
        rw [mk_val]
        show powR pt t * 1 = powR pt t
        grind
      rw [this]; exact hprod
    · rename_i hle
      have hpt1 : pt = 1 := (euR P).monic_unit pt hpl (by show pt.1.length = 1; lia)
      rw [hprod]
      have : powR pt t = 1 := by rw [hpt1]; exact rpow_one t
      rw [this]
      show pw P fd * 1 * powR s (t + m) * powR c2 m = pw P fd * powR s (t + m) * powR c2 m
      grind
  · split at hq
    · rename_i hlt
      rcases List.mem_append.mp hq with hq | hq
      · exact I.parts q hq
      · rw [List.mem_singleton.mp hq]
        exact ⟨pt.2, hpl, hlt, I.t1, hptD.tr I.dl⟩
    · exact I.parts q hq
  · have := I.sz
    split
    · rw [List.length_append]; simp; lia
    · lia
theorem PInv.run {f L0 : Rg P} {m : Nat} : ∀ (n : Nat) {fd : List (List Int × Nat)} {l c : Rg P} {t : Nat}, PInv P f L0 m fd l c t → l.1.length + c.1.length < n → ∃ (c' : Rg P) (t' : Nat), (partsF P.1 m n fd l.1 c.1 t).2 = c'.1 ∧ PInv P f L0 m (partsF P.1 m n fd l.1 c.1 t).1 (Mine.mk P [((1 : Nat) : Int)]) c' t'
  | 0, _, _, _, _, _, h => absurd h (Nat.not_lt_zero _)
  | n + 1, fd, l, c, t, I, h => by
    rw [partsF_s]
    by_cases hl : l.1.length ≤ 1
    · rw [if_pos hl]
      have h1 := List.length_pos_iff.mpr (el_ne I.hl)
      have : l = Mine.mk P [((1 : Nat) : Int)] := @Eu.monic_unit _ (ringR P) (euR P) l I.hl (by show l.1.length = 1; lia)
      subst this
      exact ⟨c, t, rfl, I⟩
    · rw [if_neg hl]
      (refine e3_6 ?_ (I.step hl); intro s pt c2 h1 h2 h3 h4 J hlt)
      have := PInv.run n J (by lia)
      rw [← h1, ← h2, ← h3]
      exact this
end
end Mine
end
noncomputable section
open PySem PySem.W PyProof.Rows PySem.Calls PySem.Spec
set_option Elab.async false
set_option linter.all false
namespace Mine

section
variable {P : Prm}
/-- coprime: the greatest divisor is 1 -/
theorem gcd_one {x y : Rg P} (hl : x.1.length < 400) (hl2 : y.1.length < 400) (h : ∃ s t : Rg P, addR (mulR s x) (mulR t y) = mk P [((1 : Nat) : Int)]) : gcdL P.1 x.1 y.1 = [1] := by
  letI := ringR P
  have hG := gcd_isG hl hl2
  have h1 : (euR P).IsG (1 : Rg P) x y := by
    (refine e2_1 ?_ h; clear h; intro s t e)
    refine ⟨.inl ?_, ⟨x, by grind⟩, ⟨y, by grind⟩, s, t, e.symm⟩
    show lead (mk P [((1 : Nat) : Int)]).1 = 1
    rw [one_val]; rfl
  have := hG.uniq h1
  have h2 := congrArg Subtype.val this
  exact h2.trans one_val
theorem root_lead {p : Int} (hp : PP p) {a : List Int} (ha : Good p a) (h : derL p a = []) (hn : a ≠ []) : lead (rootL p.toNat a) = lead a ∧ rootL p.toNat a ≠ [] := by
  have hpp := hp.pos
  have hq : 0 < p.toNat := by lia
  (refine e0_3 ?_ (good_last ha hn); intro h1 h2 h3)
  have hal := List.length_pos_iff.mpr hn
  have hmod : (a.length - 1) % p.toNat = 0 := by
    apply Classical.byContradiction
    intro h4
    rw [lead_getD hn, der_zero hp ha h _ h4] at h2
    lia
  have hlen : (rootL p.toNat a).length = (a.length - 1) / p.toNat + 1 := by
    rw [rootL, List.length_map, List.length_range, show a.length + p.toNat - 1 = a.length - 1 + p.toNat by lia, Nat.add_div_right _ hq]
  have hne : rootL p.toNat a ≠ [] := by intro h5; rw [h5] at hlen; simp at hlen
  refine ⟨?_, hne⟩
  rw [lead_getD hne, rootL_getD hq, hlen, Nat.add_sub_cancel, Nat.div_mul_cancel (Nat.dvd_of_mod_eq_zero hmod), ← lead_getD hn]
theorem root_length {q : Nat} (hq : 2 ≤ q) (a : List Int) : (rootL q a).length ≤ a.length ∧ ∀ n, a.length ≤ n → 2 ≤ n → (rootL q a).length < n := by
  have hlen : (rootL q a).length = (a.length + q - 1) / q := by simp [rootL]
  have h1 : ∀ n, a.length ≤ n → 2 ≤ n → (a.length + q - 1) / q < n := fun n h1 h2 => by
    rw [Nat.div_lt_iff_lt_mul (by lia)]
    have : n * 2 ≤ n * q := Nat.mul_le_mul_left n hq
    have h3 : 2 * q ≤ n * q := Nat.mul_le_mul_right q h2
    have h4 : n * q = n + n * (q - 1) := by
      obtain ⟨k, rfl⟩ : ∃ k, q = k + 1 := ⟨q - 1, by lia⟩
      rw [Nat.mul_add, Nat.add_sub_cancel]; lia
    have h5 : 2 * (q - 1) ≤ n * (q - 1) := Nat.mul_le_mul_right _ h2
    lia
  rw [hlen]
  refine ⟨?_, h1⟩
  by_cases h2 : 2 ≤ a.length
  · exact Nat.le_of_lt (h1 _ (Nat.le_refl _) h2)
  · have : a.length = 0 ∨ a.length = 1 := by lia
    rcases this with h | h
    · rw [h, Nat.zero_add, Nat.div_eq_of_lt (by lia)]; lia
    · rw [h, show 1 + q - 1 = q by lia, Nat.div_self (by lia)]; lia

structure PartOk (p : Int) (q : List Int × Nat) : Prop where
  g : Good p q.1
  l : lead q.1 = 1
  n : 1 < q.1.length
  m : 1 ≤ q.2
  s : sqfL p q.1 = true

theorem parts_init {f : Rg P} {m : Nat} (hf : lead f.1 = 1) (hl : f.1.length < 400) (hm : 1 ≤ m) :
    ∃ c l : Rg P, c.1 = gcdL P.1 f.1 (derL P.1 f.1) ∧ l.1 = quotL P.1 f.1 c.1 ∧ c.1 ≠ [] ∧ PInv P f l m [] l c m ∧ (∀ pt : Rg P, pt.1.length < 400 → @Dv _ (ringR P) pt l → gcdL P.1 pt.1 (derL P.1 pt.1) = [1]) := by
  letI := ringR P
  have hdl := der_length P.1 f.1
  have hG := gcd_isG (x := f) (y := derR f) hl (by rw [derR_val]; lia)
  have hcl := gcd_lead (x := f) (y := derR f) hl (by rw [derR_val]; lia) (el_ne hf)
  generalize hc : el P (gcdL P.1 f.1 (derR f).1) (gcd_good P.2 f.2 (derR f).2 hl (by rw [derR_val]; lia)).1 = c at hG
  have hc1 : c.1 = gcdL P.1 f.1 (derR f).1 := by rw [← hc]
  rw [← hc1] at hcl
  have hcn := el_ne hcl
  (refine e0_2 ?_ (quot_exact hcn hG.l); intro q1 _)
  generalize hL : el P (quotL P.1 f.1 c.1) (div_spec P.2 f.2 c.2 hcn).1 = l at q1
  have hll := exact_lead q1 hf hcl
  have e1 := exact_len q1 (el_ne hf)
  have hlp := List.length_pos_iff.mpr (el_ne hll)
  have hcp := List.length_pos_iff.mpr hcn
  have q1' : f = l * c := q1
  have hf0 : f ≠ 0 := fun e => el_ne hf ((nil_iff f).mpr e)
  refine ⟨c, l, by rw [hc1, derR_val], by rw [← hL], hcn, ?_, fun pt hpl hpt => ?_⟩
  · exact {
      hl := hll
      hc := hcl
      dv := (euR P).turn0 hG.r q1'
      dl := dv_refl l
      prod := by
        show f ^ m = 1 * l ^ m * c ^ m
        rw [q1', rpow_mul]; grind
      parts := fun q hq => by cases hq
      t1 := hm
      ll := by lia
      lc := by lia
      sz := by simp; lia
      cl := by lia }
  · (refine e2_1 ?_ ((euR P).sqfree hf0 hG q1' hpt); intro s t e)
    have := gcd_one (x := pt) (y := derR pt) hpl (by rw [derR_val]; have := der_length P.1 pt.1; lia) ⟨s, t, e⟩
    rwa [derR_val] at this

theorem partsL_spec {f : Rg P} {m : Nat} (hf : lead f.1 = 1) (hl : f.1.length < 400) (hm : 1 ≤ m) :
    ∃ g : Rg P, g.1 = rootL P.1.toNat (partsL P.1 f.1 m).2 ∧ lead g.1 = 1 ∧ powR f m = mulR (pw P (partsL P.1 f.1 m).1) (powR g (m * P.1.toNat)) ∧ (∀ q ∈ (partsL P.1 f.1 m).1, PartOk P.1 q) ∧ (partsL P.1 f.1 m).1.length ≤ 900 ∧ (partsL P.1 f.1 m).2.length ≤ f.1.length ∧ Good P.1 (partsL P.1 f.1 m).2 := by
  letI := ringR P
  have hp := P.2.pos
  (refine e2_5 ?_ (parts_init hf hl hm); intro c l h1 h2 h3 I hsq)
  (refine e2_2 ?_ (PInv.run 1000 I (by have := I.ll; have := I.lc; lia)); intro c' t' h4 J)
  have hpl : partsL P.1 f.1 m = partsF P.1 m 1000 [] l.1 c.1 m := by rw [partsL, h2, h1]
  rw [hpl, h4]
  generalize hfd : (partsF P.1 m 1000 [] l.1 c.1 m).1 = fd at J
  have hc0 : c' ≠ 0 := fun e => el_ne J.hc ((nil_iff c').mpr e)
  have hD : derR c' = 0 := (euR P).turnN hc0 J.dv
  have hD' : derL P.1 c'.1 = [] := by rw [← derR_val]; exact (nil_iff _).mpr hD
  have hr := root_pow c' hD'
  have hrg := root_good P.2 c'.2 hD'
  (refine e0_2 ?_ (root_lead P.2 c'.2 hD' (el_ne J.hc)); intro hrl hrn)
  refine ⟨el P (rootL P.1.toNat c'.1) hrg, rfl, by show lead (rootL P.1.toNat c'.1) = 1; rw [hrl]; exact J.hc, ?_, fun q hq => ?_, by have := J.sz; lia, J.cl, c'.2⟩
  · have h5 : powR f m = pw P fd * 1 ^ t' * c' ^ m := J.prod
    have h6 : mk P (rootL P.1.toNat c'.1) = el P (rootL P.1.toNat c'.1) hrg := mk_val (el P _ hrg)
    rw [h6] at hr
    have h7 : c' = el P (rootL P.1.toNat c'.1) hrg ^ P.1.toNat := hr
    show powR f m = pw P fd * el P (rootL P.1.toNat c'.1) hrg ^ (m * P.1.toNat)
    rw [h5, rpow_one, ← rpow_pow, ← h7]
    grind
  · (refine e1_4 ?_ (J.parts q hq); intro g1 g2 g3 g4 g5)
    have hle : q.1.length < 400 := by
      have hl0 : l ≠ 0 := fun e => el_ne I.hl ((nil_iff l).mpr e)
      have := (euR P).dv_len g5 hl0
      have h8 : q.1.length ≤ l.1.length := this
      have := I.ll
      lia
    refine ⟨g1, g2, g3, g4, ?_⟩
    have := hsq (el P q.1 g1) hle g5
    rw [sqfL, if_pos g3, this]; rfl

noncomputable def sfpF (p : Int) : Nat → List (List Int × Nat) → List Int → Nat → List (List Int × Nat)
  | 0, fd, _, _ => fd
  | n + 1, fd, f, m => if f.length ≤ 1 then fd else sfpF p n (fd ++ (partsL p f m).1) (rootL p.toNat (partsL p f m).2) (m * p.toNat)
theorem sfpF_s {p : Int} {n : Nat} {fd : List (List Int × Nat)} {f : List Int} {m : Nat} : sfpF p (n + 1) fd f m = if f.length ≤ 1 then fd else sfpF p n (fd ++ (partsL p f m).1) (rootL p.toNat (partsL p f m).2) (m * p.toNat) := rfl
noncomputable def sfpL (p : Int) (f : List Int) : List (List Int × Nat) := sfpF p 1000 [] f 1
theorem sfpF_spec : ∀ (n : Nat) (fd : List (List Int × Nat)) (f : Rg P) (m : Nat), f.1.length < n → lead f.1 = 1 → f.1.length < 400 → 1 ≤ m → (∀ q ∈ fd, PartOk P.1 q) →
    mulR (pw P fd) (powR f m) = pw P (sfpF P.1 n fd f.1 m) ∧ ∀ q ∈ sfpF P.1 n fd f.1 m, PartOk P.1 q
  | 0, _, _, _, h, _, _, _, _ => absurd h (Nat.not_lt_zero _)
  | n + 1, fd, f, m, h, hf, hl, hm, hq => by
    letI := ringR P
    have hp := P.2.pos
    rw [sfpF_s]
    by_cases hle : f.1.length ≤ 1
    · rw [if_pos hle]
      have h1 := List.length_pos_iff.mpr (el_ne hf)
      have hf1 : f = 1 := (euR P).monic_unit f hf (by show f.1.length = 1; lia)
      refine ⟨?_, hq⟩
      show pw P fd * f ^ m = pw P fd
      rw [hf1, rpow_one]; grind
    · rw [if_neg hle]
      (refine e1_7 ?_ (partsL_spec (m := m) hf hl hm); intro g g1 g2 g3 g4 g5 g6 _)
      have hrl := (root_length (q := P.1.toNat) (by lia) (partsL P.1 f.1 m).2).2 f.1.length g6 (by lia)
      rw [← g1] at hrl ⊢
      have hmm : 1 ≤ m * P.1.toNat := Nat.mul_pos hm (by lia)
      (refine e0_2 ?_ (sfpF_spec n (fd ++ (partsL P.1 f.1 m).1) g (m * P.1.toNat) (by lia) g2 (by lia) hmm (fun q hqq => (List.mem_append.mp hqq).elim (hq q) (g4 q))); intro i1 i2)
      refine ⟨?_, i2⟩
      rw [← i1, pw_app, g3]
      show pw P fd * (pw P (partsL P.1 f.1 m).1 * powR g (m * P.1.toNat)) = pw P fd * pw P (partsL P.1 f.1 m).1 * powR g (m * P.1.toNat)
      grind
end
end Mine
end
noncomputable section
open PySem PySem.W PyProof.Rows PySem.Calls PySem.Spec
set_option Elab.async false
set_option linter.all false
namespace Mine

noncomputable def partD (q : List Int × Nat) : PyData := .tuple [L q.1, .int (q.2 : Int)]
noncomputable def RootOk (P : Prm) (O : Orc) : Prop := ∀ a : List Int, a.length < 1000 → O "mroot" [L a, .int P.1] = some (L (rootL P.1.toNat a))
noncomputable def PartsOk (P : Prm) (O : Orc) : Prop := ∀ (f : Rg P) (m : Nat), lead f.1 = 1 → f.1.length < 400 → 1 ≤ m → O "parts_once" [L f.1, .int (m : Int), .int P.1] = some (.tuple [.list ((partsL P.1 f.1 m).1.map partD), L (partsL P.1 f.1 m).2])

section
variable {P : Prm} (O : Orc)
theorem run28 (hG : GcdOk P.1 O) (hQ : QuotOk P.1 O) (hDe : DerOk P.1 O) (hD : DegOk O) (f : Rg P) (m : Nat) (hf : lead f.1 = 1) (hl : f.1.length < 400) (hm : 1 ≤ m) :
    runF 28 O [L f.1, .int (m : Int), .int P.1] = some (.tuple [.list ((partsL P.1 f.1 m).1.map partD), L (partsL P.1 f.1 m).2]) := by
  have hps : psOf (fdef 28) = [("f" : Str), "many", "p"] := by rfl
  (refine e2_5 ?_ (parts_init hf hl hm); intro c l h1 h2 h3 I _)
  have hpl : partsL P.1 f.1 m = partsF P.1 m 1000 [] l.1 c.1 m := by rw [partsL, h2, h1]
  rw [hpl]
  have hdl := der_length P.1 f.1
  have c1 := hDe f.1 f.2 hl
  have c2 := hG f.1 _ f.2 (der_good P.2 f.1) hl (by lia)
  rw [← h1] at c2
  have c3 := hQ f.1 c.1 f.2 c.2 h3 hl I.lc
  rw [← h2] at c3
  unfold runF
  rw [hps, show ownsAt 28 = [("found" : Str)] from rfl]
  conv => lhs; arg 1; arg 4; whnf
  refine go_step (σ1 := setS (setS (setAllV (fun _ => none) [("f" : Str), "many", "p"] [L f.1, .int (m : Int), .int P.1]) "found" (.own [])) "at" (.val (.int (m : Int)))) (by simp only [bind2_some, valO_val, consO_eq, asgT_eq, stoTs_some, ev_name, str_beq, String.reduceBEq, Bool.or_false, Bool.or_self, el_nil, xs_tup, slotV_own, slotV_val, sv_nil, sv_cons, fr_list, List.contains_nil, List.contains_cons, setAllV, setAllS, setS, str_inj, nm_nil, nm_cons, Option.bind_some, Option.map_some, ↓reduceIte, eq_self, String.reduceEq, BEq.rfl]) ?_
  refine go_step (σ1 := setS (setS (setS (setAllV (fun _ => none) [("f" : Str), "many", "p"] [L f.1, .int (m : Int), .int P.1]) "found" (.own [])) "at" (.val (.int (m : Int)))) "common" (.val (L c.1))) (by simp only [bind2_some, valO_val, consO_eq, stoS_some, ev_name, ev_call, isB, str_beq, String.reduceBEq, Bool.or_self, el_nil, el_cons, xs_name, slotV_val, List.contains_nil, List.contains_cons, setAllV, setS, str_inj, Option.bind_some, Option.map_some, ↓reduceIte, eq_self, String.reduceEq, c1, c2]) ?_
  refine go_step (σ1 := setS (setS (setS (setS (setAllV (fun _ => none) [("f" : Str), "many", "p"] [L f.1, .int (m : Int), .int P.1]) "found" (.own [])) "at" (.val (.int (m : Int)))) "common" (.val (L c.1))) "left" (.val (L l.1))) (by simp only [bind2_some, valO_val, consO_eq, stoS_some, ev_name, ev_call, isB, str_beq, String.reduceBEq, Bool.or_self, el_nil, el_cons, xs_name, slotV_val, List.contains_nil, List.contains_cons, setAllV, setS, str_inj, Option.bind_some, Option.map_some, ↓reduceIte, eq_self, String.reduceEq, c3]) ?_
  refine go_while (fun σ n => ∃ (fd : List (List Int × Nat)) (l' c' : Rg P) (t : Nat), σ "found" = some (.own (fd.map partD)) ∧ σ "left" = some (.val (L l'.1)) ∧ σ "common" = some (.val (L c'.1)) ∧ σ "at" = some (.val (.int (t : Int))) ∧ σ "many" = some (.val (.int (m : Int))) ∧ σ "p" = some (.val (.int P.1)) ∧
      PInv P f l m fd l' c' t ∧ n = l'.1.length + c'.1.length ∧ ∃ k, n < k ∧ partsF P.1 m k fd l'.1 c'.1 t = partsF P.1 m 1000 [] l.1 c.1 m)
    (fun σ => σ "found" = some (.own ((partsF P.1 m 1000 [] l.1 c.1 m).1.map partD)) ∧ σ "common" = some (.val (L (partsF P.1 m 1000 [] l.1 c.1 m).2))) ?_ (n := l.1.length + c.1.length)
    ⟨[], l, c, m, by simp only [setS, str_inj, ↓reduceIte, eq_self, String.reduceEq, List.map_nil], by simp only [setS, ↓reduceIte, eq_self], by simp only [setS, str_inj, ↓reduceIte, eq_self, String.reduceEq], by simp only [setS, str_inj, ↓reduceIte, eq_self, String.reduceEq], by simp only [setAllV, setS, str_inj, ↓reduceIte, eq_self, String.reduceEq], by simp only [setAllV, setS, str_inj, ↓reduceIte, eq_self, String.reduceEq], I, rfl, 1000, by have := I.ll; have := I.lc; lia, rfl⟩ (by have := I.ll; have := I.lc; lia) ?_
  · (intro σ n zz1; refine e4_9 ?_ zz1; clear zz1; intro fd l' c' t s1 s2 s3 s4 s5 s6 J zz2 zz3; subst zz2; refine e1_2 ?_ zz3; clear zz3; intro k hk he)
    have hd1 := hD (l'.1.map .int) (by rw [List.length_map]; exact J.ll)
    rw [List.length_map] at hd1
    cases k with
    | zero => lia
    | succ k =>
    rw [partsF_s] at he
    by_cases hle : l'.1.length ≤ 1
    · left
      rw [if_pos hle] at he
      have h0 : ¬ (0 : Int) < (l'.1.length : Int) - 1 := by lia
      exact ⟨by simp only [bind2_some, valO_val, consO_eq, ev_int, ev_name, ev_call, isB, str_beq, String.reduceBEq, Bool.or_self, el_nil, el_cons, et_cmp, cmpGt, Option.bind_some, decide_false, eq_self, s2, hd1, h0], by rw [← he]; exact s1, by rw [← he]; exact s3⟩
    · right
      rw [if_neg hle] at he
      have h0 : (0 : Int) < (l'.1.length : Int) - 1 := by lia
      (refine e3_6 ?_ (J.step hle); intro s pt c2' e1 e2 e3 e4 K hlt)
      rw [← e1, ← e2, ← e3] at he
      have k1 := hG l'.1 c'.1 l'.2 c'.2 J.ll J.lc
      rw [← e1] at k1
      have hptl : pt.1.length < 400 := by
        have := (div_spec P.2 l'.2 s.2 e4).2.2.2.1
        rw [← e2] at this
        have := J.ll
        lia
      have k2 := hQ l'.1 s.1 l'.2 s.2 e4 J.ll K.ll
      rw [← e2] at k2
      have k3 := hQ c'.1 s.1 c'.2 s.2 e4 J.lc K.ll
      rw [← e3] at k3
      have hd2 := hD (pt.1.map .int) (by rw [List.length_map]; exact hptl)
      rw [List.length_map] at hd2
      refine ⟨by simp only [bind2_some, valO_val, consO_eq, ev_int, ev_name, ev_call, isB, str_beq, String.reduceBEq, Bool.or_self, el_nil, el_cons, et_cmp, cmpGt, Option.bind_some, decide_true, eq_self, s2, hd1, h0], ?_⟩
      suffices hs : NextP (exSs O [("found" : Str)] 1000 _ σ) (fun σ' => σ' "found" = some (.own ((if 1 < pt.1.length then fd ++ [(pt.1, t)] else fd).map partD)) ∧ σ' "left" = some (.val (L s.1)) ∧ σ' "common" = some (.val (L c2'.1)) ∧ σ' "at" = some (.val (.int ((t + m : Nat) : Int))) ∧ σ' "many" = some (.val (.int (m : Int))) ∧ σ' "p" = some (.val (.int P.1))) by
        (refine e1_7 ?_ hs; clear hs; intro σ' hσ q1 q2 q3 q4 q5 q6)
        exact ⟨σ', s.1.length + c2'.1.length, hσ, hlt, _, s, c2', t + m, q1, q2, q3, q4, q5, q6, K, rfl, k, by lia, he⟩
      refine nx_step (σ1 := setS σ "shared" (.val (L s.1))) (by simp only [bind2_some, valO_val, consO_eq, stoS_some, ev_name, ev_call, isB, str_beq, String.reduceBEq, Bool.or_self, el_nil, el_cons, xs_name, slotV_val, List.contains_nil, List.contains_cons, Option.bind_some, Option.map_some, eq_self, s2, s3, s6, k1]) ?_
      refine nx_step (σ1 := setS (setS σ "shared" (.val (L s.1))) "part" (.val (L pt.1))) (by simp only [bind2_some, valO_val, consO_eq, stoS_some, ev_name, ev_call, isB, str_beq, String.reduceBEq, Bool.or_self, el_nil, el_cons, xs_name, slotV_val, List.contains_nil, List.contains_cons, setS, str_inj, Option.bind_some, Option.map_some, ↓reduceIte, eq_self, String.reduceEq, s2, s6, k2]) ?_
      have e5 : ((0 : Int) < (pt.1.length : Int) - 1) ↔ 1 < pt.1.length := by lia
      have e6 : ((t : Int) + (m : Int)) = ((t + m : Nat) : Int) := by lia
      refine nx_cons (nx_if (c := decide (1 < pt.1.length)) (by simp only [bind2_some, valO_val, consO_eq, ev_int, ev_name, ev_call, isB, str_beq, String.reduceBEq, Bool.or_self, el_nil, el_cons, et_cmp, setS, cmpGt, Option.bind_some, ↓reduceIte, eq_self, hd2, e5]) ?_)
      have hlo : lenOk (fd.length + 1) = true := lenOk_of (by have := J.sz; lia)
      by_cases hpt : 1 < pt.1.length
      · simp only [hpt, decide_true, if_true]
        refine nx_step (σ1 := setS (setS (setS σ "shared" (.val (L s.1))) "part" (.val (L pt.1))) "found" (.own ((fd ++ [(pt.1, t)]).map partD))) ?_ (nx_nil ?_)
        · simp only [bind2_some, valO_val, consO_eq, appO_own, ev_name, ev_tup, el_nil, el_cons, xs_app, setS, str_inj, Option.bind_some, Option.map_some, ↓reduceIte, eq_self, String.reduceEq, s1, s4, List.length_map, hlo, List.map_append, List.map_cons, List.map_nil, partD]
        · exact nx_step (σ1 := setS (setS (setS (setS (setS (setS σ "shared" (.val (L s.1))) "part" (.val (L pt.1))) "found" (.own ((fd ++ [(pt.1, t)]).map partD))) "left" (.val (L s.1))) "common" (.val (L c2'.1))) "at" (.val (.int ((t + m : Nat) : Int)))) (by simp only [bind2_some, valO_val, consO_eq, asgT_eq, stoTs_some, ev_name, ev_bin, ev_call, isB, str_beq, String.reduceBEq, Bool.or_self, el_nil, el_cons, xs_tup, slotV_val, sv_nil, sv_cons, List.contains_nil, List.contains_cons, setAllS, setS, str_inj, nm_nil, nm_cons, binAdd, Option.bind_some, Option.map_some, ↓reduceIte, eq_self, String.reduceEq, s3, s4, s5, s6, k3, e6]) (nx_nil ⟨by simp only [setS, str_inj, ↓reduceIte, eq_self, String.reduceEq], by simp only [setS, str_inj, ↓reduceIte, eq_self, String.reduceEq], by simp only [setS, str_inj, ↓reduceIte, eq_self, String.reduceEq], by simp only [setS, ↓reduceIte, eq_self], by simp only [setS, str_inj, if_false, eq_self, String.reduceEq, s5], by simp only [setS, str_inj, if_false, eq_self, String.reduceEq, s6]⟩)
      · simp only [hpt, decide_false, Bool.false_eq_true, if_false]
        exact nx_nil (nx_step (σ1 := setS (setS (setS (setS (setS σ "shared" (.val (L s.1))) "part" (.val (L pt.1))) "left" (.val (L s.1))) "common" (.val (L c2'.1))) "at" (.val (.int ((t + m : Nat) : Int)))) (by simp only [bind2_some, valO_val, consO_eq, asgT_eq, stoTs_some, ev_name, ev_bin, ev_call, isB, str_beq, String.reduceBEq, Bool.or_self, el_nil, el_cons, xs_tup, slotV_val, sv_nil, sv_cons, List.contains_nil, List.contains_cons, setAllS, setS, str_inj, nm_nil, nm_cons, binAdd, Option.bind_some, Option.map_some, ↓reduceIte, eq_self, String.reduceEq, s3, s4, s5, s6, k3, e6]) (nx_nil ⟨by simp only [setS, str_inj, if_false, eq_self, String.reduceEq, s1], by simp only [setS, str_inj, ↓reduceIte, eq_self, String.reduceEq], by simp only [setS, str_inj, ↓reduceIte, eq_self, String.reduceEq], by simp only [setS, ↓reduceIte, eq_self], by simp only [setS, str_inj, if_false, eq_self, String.reduceEq, s5], by simp only [setS, str_inj, if_false, eq_self, String.reduceEq, s6]⟩))
  · (intro σ zz1; refine e0_2 ?_ zz1; clear zz1; intro s1 s2)
    refine go_retE ?_
    simp only [bind2_some, valO_val, consO_eq, ev_name, ev_tup, el_nil, el_cons, relS, Slot.data, Option.map_some, eq_self, s1, s2]

theorem run29 (hPa : PartsOk P O) (hR : RootOk P O) (hD : DegOk O) (f : Rg P) (hf : lead f.1 = 1) (hl : f.1.length < 400) : runF 29 O [L f.1, .int P.1] = some (.list ((sfpL P.1 f.1).map partD)) := by
  have hps : psOf (fdef 29) = [("f" : Str), "p"] := by rfl
  have hp := P.2.pos
  unfold runF
  rw [hps, show ownsAt 29 = [("found" : Str)] from rfl]
  conv => lhs; arg 1; arg 4; whnf
  refine go_step (σ1 := setS (setS (setAllV (fun _ => none) [("f" : Str), "p"] [L f.1, .int P.1]) "found" (.own [])) "many" (.val (.int 1))) (by simp only [bind2_some, consO_eq, asgT_eq, stoTs_some, ev_int, str_beq, String.reduceBEq, Bool.or_false, Bool.or_self, el_nil, xs_tup, slotV_own, slotV_val, sv_nil, sv_cons, fr_list, List.contains_nil, List.contains_cons, setAllV, setAllS, nm_nil, nm_cons, Option.bind_some, Option.map_some, eq_self, BEq.rfl]) ?_
  refine go_while (fun σ n => ∃ (fd : List (List Int × Nat)) (f' : Rg P) (m : Nat), σ "found" = some (.own (fd.map partD)) ∧ σ "f" = some (.val (L f'.1)) ∧ σ "many" = some (.val (.int (m : Int))) ∧ σ "p" = some (.val (.int P.1)) ∧ lead f'.1 = 1 ∧ f'.1.length < 400 ∧ 1 ≤ m ∧ n = f'.1.length ∧ fd.length + 900 * f'.1.length ≤ 400000 ∧
      ∃ k, n < k ∧ sfpF P.1 k fd f'.1 m = sfpL P.1 f.1)
    (fun σ => σ "found" = some (.own ((sfpL P.1 f.1).map partD))) ?_ (n := f.1.length)
    ⟨[], f, 1, by simp only [setS, str_inj, ↓reduceIte, eq_self, String.reduceEq, List.map_nil], by simp only [setAllV, setS, str_inj, ↓reduceIte, eq_self, String.reduceEq], by simp only [setS, ↓reduceIte, eq_self]; rfl, by simp only [setAllV, setS, str_inj, ↓reduceIte, eq_self, String.reduceEq], hf, hl, Nat.le_refl _, rfl, by simp; lia, 1000, by lia, rfl⟩ (by lia) ?_
  · (intro σ n zz1; refine e3_10 ?_ zz1; clear zz1; intro fd f' m s1 s2 s3 s4 g1 g2 g3 zz2 hsz zz3; subst zz2; refine e1_2 ?_ zz3; clear zz3; intro k hk he)
    have hd1 := hD (f'.1.map .int) (by rw [List.length_map]; exact g2)
    rw [List.length_map] at hd1
    cases k with
    | zero => lia
    | succ k =>
    rw [sfpF_s] at he
    by_cases hle : f'.1.length ≤ 1
    · left
      rw [if_pos hle] at he
      have h0 : ¬ (0 : Int) < (f'.1.length : Int) - 1 := by lia
      exact ⟨by simp only [bind2_some, valO_val, consO_eq, ev_int, ev_name, ev_call, isB, str_beq, String.reduceBEq, Bool.or_self, el_nil, el_cons, et_cmp, cmpGt, Option.bind_some, decide_false, eq_self, s2, hd1, h0], by rw [← he]; exact s1⟩
    · right
      rw [if_neg hle] at he
      have h0 : (0 : Int) < (f'.1.length : Int) - 1 := by lia
      (refine e1_7 ?_ (partsL_spec (m := m) g1 g2 g3); intro g q1 q2 q3 q4 q5 q6 _)
      have hrl := (root_length (q := P.1.toNat) (by lia) (partsL P.1 f'.1 m).2).2 f'.1.length q6 (by lia)
      have k1 := hPa f' m g1 g2 g3
      have k2 := hR (partsL P.1 f'.1 m).2 (by lia)
      rw [← q1] at he k2 hrl
      generalize hpt : partsL P.1 f'.1 m = pr at *
      obtain ⟨pa, re⟩ := pr
      simp only at *
      have e1 : lenOk (fd.length + pa.length) = true := lenOk_iff.mpr (by lia)
      have e2 : smallI P.1 = true := small_of (by lia)
      have e3 : ((m : Int) * P.1) = ((m * P.1.toNat : Nat) : Int) := by
        rw [Int.natCast_mul, Int.toNat_of_nonneg (by lia)]
      refine ⟨by simp only [bind2_some, valO_val, consO_eq, ev_int, ev_name, ev_call, isB, str_beq, String.reduceBEq, Bool.or_self, el_nil, el_cons, et_cmp, cmpGt, Option.bind_some, decide_true, eq_self, s2, hd1, h0], ?_⟩
      refine ⟨setS (setS (setS (setS (setS σ "parts" (.val (.list (pa.map partD)))) "rest" (.val (L re))) "found" (.own ((fd ++ pa).map partD))) "f" (.val (L g.1))) "many" (.val (.int ((m * P.1.toNat : Nat) : Int))), g.1.length, ?_, hrl, fd ++ pa, g, m * P.1.toNat, by simp only [setS, str_inj, ↓reduceIte, eq_self, String.reduceEq], by simp only [setS, str_inj, ↓reduceIte, eq_self, String.reduceEq], by simp only [setS, ↓reduceIte, eq_self], by simp only [setS, str_inj, if_false, eq_self, String.reduceEq, s4], q2, by lia, Nat.mul_pos g3 (by lia), rfl, ?_, k, by lia, he⟩
      · simp only [bind2_some, valO_val, consO_eq, asgT_eq, asgE_tup, extO_own, stoTs_some, ev_name, ev_bin, ev_call, isB, str_beq, String.reduceBEq, Bool.or_self, el_nil, el_cons, xs_tup, xs_tcall, xs_ext, slotV_val, sv_nil, sv_cons, List.contains_nil, List.contains_cons, xss_nil, xss_cons, contF_next, setAllS, setS, str_inj, nm_nil, nm_cons, Option.bind_eq_bind, Option.bind_some, Option.map_some, ↓reduceIte, eq_self, String.reduceEq, s1, s2, s3, s4, k1, k2, List.length_cons, List.length_nil, List.map_cons, List.map_nil, List.length_map, e1, List.map_append, binMul e2, e3]
      · rw [List.length_append]; lia
  · rintro σ s1
    refine go_retE ?_
    simp only [valO_val, ev_name, relS, Slot.data, Option.map_some, eq_self, s1]
end
end Mine
end
noncomputable section
open PySem PySem.W PyProof.Rows PySem.Calls PySem.Spec
set_option Elab.async false
set_option linter.all false
namespace Mine

noncomputable def SumOk (O : Orc) : Prop := ∀ xs : List Int, O "sum" [L xs] = some (.int (sumI xs))
theorem sum_ev : ∀ (a : List Int) (j : Nat), sumI ((List.range a.length).map fun k => a.getD k 0 * 1000 ^ (k + j)) = 1000 ^ j * ev a 1000
  | [], j => by simp [sumI, ev]
  | x :: a, j => by
    have ih := sum_ev a (j + 1)
    rw [List.length_cons, List.range_succ_eq_map, List.map_cons, List.map_map, sumI]
    have e : ((fun k => (x :: a).getD k 0 * (1000 : Int) ^ (k + j)) ∘ Nat.succ) = fun k => a.getD k 0 * 1000 ^ (k + (j + 1)) := by
      funext k
      simp only [Function.comp, Nat.succ_eq_add_one, List.getD_cons_succ]
      congr 2; lia
    rw [e, ih]
    simp only [List.getD_cons_zero, Nat.zero_add, ev, Int.pow_succ]
    grind
noncomputable def wholeG : PyData → PyData := pairG fun k x => x * 1000 ^ k.toNat
theorem wholeG_eq {k x : Int} : wholeG (.tuple [.int k, .int x]) = .int (x * 1000 ^ k.toNat) := rfl
theorem small_pow {k : Nat} (h : k < 6) : smallI ((1000 : Int) ^ k) = true := by
  have : k = 0 ∨ k = 1 ∨ k = 2 ∨ k = 3 ∨ k = 4 ∨ k = 5 := by lia
  rcases this with rfl | rfl | rfl | rfl | rfl | rfl <;> decide
theorem trim_take : ∀ (l : List Int), trim l = l.take (trim l).length
  | [] => rfl
  | x :: t => by
    rw [trim_cons]
    split
    · simp
    · rw [List.length_cons, List.take_succ_cons, ← trim_take t]
theorem ev_nonneg : ∀ (l : List Int), (∀ x ∈ l, 0 ≤ x) → 0 ≤ ev l 1000
  | [], _ => by simp [ev]
  | x :: l, h => by
    have h1 := ev_nonneg l fun y hy => h y (by simp [hy])
    have h2 := h x (by simp)
    simp only [ev]; lia
theorem ev_zero_of : ∀ (l : List Int), (∀ x ∈ l, 0 ≤ x) → ev l 1000 = 0 → ∀ x ∈ l, x = 0
  | [], _, _, _, h => nomatch h
  | x :: l, h, h0, y, hy => by
    have h1 := ev_nonneg l fun y hy => h y (by simp [hy])
    have h2 := h x (by simp)
    simp only [ev] at h0
    rcases List.mem_cons.mp hy with rfl | hy
    · lia
    · exact ev_zero_of l (fun y hy => h y (by simp [hy])) (by lia) y hy
theorem trim_app_zero : ∀ (a b : List Int), (∀ x ∈ b, x = 0) → trim (a ++ b) = trim a
  | [], b, h => by rw [List.nil_append, trim_zero b h]; rfl
  | x :: a, b, h => by rw [List.cons_append, trim_cons, trim_cons, trim_app_zero a b h]

section
variable (O : Orc) (a l : List Int) (p : Int)
theorem run32 (hS : SumOk O) (hl : a.length < 6) : runF 32 O [L a] = some (.int (ev a 1000)) := by
  have hb : psOf (fdef 32) = [("a" : Str)] := by rfl
  unfold runF
  rw [hb, show ownsAt 32 = [] from rfl]
  conv => lhs; arg 1; arg 4; whnf
  refine go_retE ?_
  simp only [bind2_some, valO_val, enumV_list, consO_eq, compB_list, ev_name, ev_comp, ev_call, ev_enum, isB, str_beq, String.reduceBEq, Bool.or_self, el_nil, el_cons, ec_cons, setAllV, setS, relS, Slot.data, Option.bind_some, Option.map_some, ↓reduceIte, eq_self]
  rw [compItems_all wholeG]
  · have e1 : (enumL 0 (a.map .int)).map wholeG = ((List.range a.length).map fun k => a.getD k 0 * 1000 ^ (k + 0)).map .int := by
      apply List.ext_getElem?
      intro i
      rw [List.getElem?_map, List.map_map, List.getElem?_map]
      by_cases hi : i < a.length
      · have : (enumL 0 (a.map .int))[i]? = some ((enumL 0 (a.map .int))[i]'(by rw [enumL_length]; simpa using hi)) := List.getElem?_eq_getElem _
        (refine e0_2 ?_ (enum_ints this); intro _ h2)
        rw [this, h2, List.getElem?_range hi]; rfl
      · rw [List.getElem?_eq_none (by rw [enumL_length]; simpa using hi), List.getElem?_eq_none (by simpa using hi)]; rfl
    have hc := hS ((List.range a.length).map fun k => a.getD k 0 * 1000 ^ (k + 0))
    rw [sum_ev] at hc
    rw [e1]
    simp only [Option.bind_some, bind2_some, okLV_eq, consO_eq, List.length_map, List.length_range, lenOk_of (show a.length ≤ 100000 by lia), if_true, hc, Int.pow_zero, Int.one_mul]
  · intro d hd
    (refine e1_1 ?_ (List.mem_iff_getElem?.mp hd); intro i hi)
    (refine e0_2 ?_ (enum_ints hi); intro h1 zz1; subst zz1)
    exact ⟨_, rfl, rfl, by simp only [bind2_some, valO_val, ev_int, ev_name, ev_bin, eg_nil, setAllV, setS, str_inj, Option.map_some, ↓reduceIte, eq_self, String.reduceEq, binPow (show smallI 1000 = true by decide) (show i ≤ 1000 by lia), binMul (small_pow (show i < 6 by lia)), wholeG_eq, Int.toNat_natCast]⟩

theorem run33 (hp : PP p) (hr : InR 1000 l) (hl : l.length < 900) : runF 33 O [.int (ev l 1000), .int p] = some (L (trim (l.map fun x => x % p))) := by
  have hb : psOf (fdef 33) = [("whole" : Str), "p"] := by rfl
  have hpp := hp.pos
  unfold runF
  rw [hb, show ownsAt 33 = [("found" : Str)] from rfl]
  conv => lhs; arg 1; arg 4; whnf
  refine go_step (σ1 := setS (setS (setAllV (fun _ => none) [("whole" : Str), "p"] [.int (ev l 1000), .int p]) "found" (.own [])) "kept" (.val (.int 0))) (by simp only [bind2_some, consO_eq, asgT_eq, stoTs_some, ev_int, str_beq, String.reduceBEq, Bool.or_false, Bool.or_self, el_nil, xs_tup, slotV_own, slotV_val, sv_nil, sv_cons, fr_list, List.contains_nil, List.contains_cons, setAllV, setAllS, nm_nil, nm_cons, Option.bind_some, Option.map_some, eq_self, BEq.rfl]) ?_
  refine go_while (fun σ n => ∃ k, k ≤ l.length ∧ n = l.length - k ∧ σ "whole" = some (.val (.int (ev (l.drop k) 1000))) ∧ σ "p" = some (.val (.int p)) ∧ σ "found" = some (.own (((l.take k).map fun x => x % p).map .int)) ∧ σ "kept" = some (.val (.int ((trim ((l.take k).map fun x => x % p)).length : Nat))))
    (fun σ => ∃ k, σ "found" = some (.own (((l.take k).map fun x => x % p).map .int)) ∧ σ "kept" = some (.val (.int ((trim ((l.take k).map fun x => x % p)).length : Nat))) ∧ trim ((l.take k).map fun x => x % p) = trim (l.map fun x => x % p) ∧ k ≤ l.length) ?_ (n := l.length)
    ⟨0, Nat.zero_le _, rfl, by simp only [setAllV, setS, str_inj, ↓reduceIte, eq_self, String.reduceEq, List.drop_zero], by simp only [setAllV, setS, str_inj, ↓reduceIte, eq_self, String.reduceEq], by simp only [setS, str_inj, ↓reduceIte, eq_self, String.reduceEq, List.take_zero, List.map_nil], by simp only [setS, ↓reduceIte, eq_self, List.take_zero, List.map_nil]; rfl⟩ (by lia) ?_
  · (intro σ n zz1; refine e1_6 ?_ zz1; clear zz1; intro k hk zz2 s1 s2 s3 s4; subst zz2)
    have hdr : ∀ x ∈ l.drop k, 0 ≤ x := fun x hx => (hr x (List.mem_of_mem_drop hx)).1
    by_cases h0 : 0 < ev (l.drop k) 1000
    · right
      have hkl : k < l.length := by
        apply Classical.byContradiction
        intro h
        rw [List.drop_eq_nil_iff.mpr (by lia)] at h0
        simp [ev] at h0
      have hdrop : l.drop k = l.getD k 0 :: l.drop (k + 1) := by
        rw [List.drop_eq_getElem_cons hkl, List.getD_eq_getElem?_getD, List.getElem?_eq_getElem hkl]; rfl
      have hx := hr _ (by rw [List.getD_eq_getElem?_getD, List.getElem?_eq_getElem hkl]; exact List.getElem_mem hkl : l.getD k 0 ∈ l)
      have hev : ev (l.drop k) 1000 = l.getD k 0 + 1000 * ev (l.drop (k + 1)) 1000 := by rw [hdrop, ev]
      rw [hev] at s1 h0
      have htk0 := take_succ_getD hkl
      generalize l.getD k 0 = x at *
      generalize hz : ev (l.drop (k + 1)) 1000 = z at *
      have e1 : (x + 1000 * z) % 1000 = x := by lia
      have e2 : (x + 1000 * z) / 1000 = z := by lia
      have e3 : lenOk (k + 1) = true := lenOk_of (by lia)
      have hfl : ((l.take k).map fun x => x % p).length = k := by rw [List.length_map, List.length_take]; lia
      have hxp := inR_mod (show 0 < p by lia) x
      have hb2 : binV .FloorDiv (.int (x + 1000 * z)) (.int 1000) = some (.int z) := by rw [binDiv (by lia) (by lia), e2]
      have htk : (l.take (k + 1)).map (fun x => x % p) = (l.take k).map (fun x => x % p) ++ [x % p] := by rw [htk0, List.map_append]; rfl
      have hf1 : lenOk ((l.take k).map fun x => x % p).length = true := lenOk_of (by lia)
      generalize hfd : (l.take k).map (fun x => x % p) = fd at *
      have hid := idx_last (a := fd) (l := x % p) (by lia)
      have hlo2 : lenOk (fd ++ [x % p]).length = true := lenOk_of (by simp; lia)
      have hlo3 : lenOk (fd.length + 1) = true := lenOk_of (by lia)
      refine ⟨by simp only [bind2_some, valO_val, ev_int, ev_name, et_cmp, cmpGt, decide_true, eq_self, s1, h0], setS (setS (setS σ "found" (.own ((fd ++ [x % p]).map .int))) "whole" (.val (.int z))) "kept" (.val (.int ((trim (fd ++ [x % p])).length : Nat))), l.length - (k + 1), ?_, by lia, k + 1, by lia, rfl, by rw [hz]; simp only [setS, str_inj, ↓reduceIte, eq_self, String.reduceEq], by simp only [setS, str_inj, if_false, eq_self, String.reduceEq, s2], by rw [htk]; simp only [setS, str_inj, ↓reduceIte, eq_self, String.reduceEq], by rw [htk]; simp only [setS, ↓reduceIte, eq_self]⟩
      have am : (fd ++ [x % p]).map PyData.int = fd.map .int ++ [.int (x % p)] := by simp
      by_cases hz0 : x % p = 0
      · have ht : trim (fd ++ [x % p]) = trim fd := by rw [hz0, trim_snoc_zero]
        have hn : ¬ (0 : Int) < x % p := by lia
        rw [ht]
        simp only [bind2_some, valO_val, negV_int, ite_f, lenV_list, appO_own, stoS_some, ev_int, ev_name, ev_bin, ev_neg, ev_ite, evB_name, ix_neg, ev_len, str_beq, String.reduceBEq, Bool.or_self, et_cmp, xs_name, xs_app, slotV_val, List.contains_nil, List.contains_cons, xss_nil, xss_cons, contF_next, setS, str_inj, Slot.data, cmpGt, Option.bind_eq_bind, Option.bind_some, Option.map_some, decide_false, ↓reduceIte, eq_self, String.reduceEq, s1, s2, s3, s4, binMod (show (0 : Int) < 1000 by lia), binMod (show 0 < p by lia), e1, List.length_map, hlo3, hb2, ← am, hid, hn]
      · have ht : trim (fd ++ [x % p]) = fd ++ [x % p] := trim_snoc_ne hz0 _
        have hn : (0 : Int) < x % p := by lia
        rw [ht]
        simp only [bind2_some, valO_val, negV_int, ite_t, lenV_list, appO_own, stoS_some, ev_int, ev_name, ev_bin, ev_neg, ev_ite, evB_name, ix_neg, ev_len, str_beq, String.reduceBEq, Bool.or_self, et_cmp, xs_name, xs_app, slotV_val, List.contains_nil, List.contains_cons, xss_nil, xss_cons, contF_next, setS, str_inj, Slot.data, cmpGt, Option.bind_eq_bind, Option.bind_some, Option.map_some, decide_true, ↓reduceIte, eq_self, String.reduceEq, s1, s2, s3, s4, binMod (show (0 : Int) < 1000 by lia), binMod (show 0 < p by lia), e1, List.length_map, hlo3, hb2, ← am, hid, hn, hlo2]
    · left
      have hz : ev (l.drop k) 1000 = 0 := by have := ev_nonneg _ hdr; lia
      have hall := ev_zero_of _ hdr hz
      refine ⟨by simp only [bind2_some, valO_val, ev_int, ev_name, et_cmp, cmpGt, decide_false, eq_self, s1, h0], k, s3, s4, ?_, hk⟩
      conv => rhs; rw [← List.take_append_drop k l, List.map_append]
      refine (trim_app_zero _ _ fun x hx => ?_).symm
      (refine e1_2 ?_ (List.mem_map.mp hx); intro y hy zz1; subst zz1)
      rw [hall y hy]; simp
  · (intro σ zz1; refine e1_4 ?_ zz1; clear zz1; intro k s3 s4 ht hk)
    refine go_retE ?_
    have hfl : ((l.take k).map fun x => x % p).length = k := by rw [List.length_map, List.length_take]; lia
    have htl := trim_length ((l.take k).map fun x => x % p)
    generalize hfd : (l.take k).map (fun x => x % p) = fd at *
    have e1 : (0 : Int) ≤ ((trim fd).length : Int) := by lia
    have e2 : smallI ((trim fd).length : Int) = true := small_of (by lia)
    have e3 : lenOk fd.length = true := lenOk_of (by lia)
    rw [← ht]
    have htk : fd.take (trim fd).length = trim fd := (trim_take fd).symm
    simp only [bind2_some, valO_val, takeV_list, ev_name, evB_name, sl_hi, relS, Slot.data, Option.map_some, if_true, eq_self, s3, s4, e1, e2, e3, List.length_map, and_self, Int.toNat_natCast, ← List.map_take, htk]
end
end Mine
end
noncomputable section
open PySem PySem.W PyProof.Rows PySem.Calls PySem.Spec
set_option Elab.async false
set_option linter.all false
namespace Mine

/-- sorted, of lists that are in order already -/
noncomputable def sortO : List PyData → Option PyData := fun _ => none
noncomputable def baseO (S : List PyData → Option PyData) : Orc := fun f args => if f = "sorted" then S args else bltO f args
noncomputable def Pre (S : List PyData → Option PyData) (k : Nat) : Orc := chainO (baseO S) (allFns.take k)
noncomputable def nameTab : List String := ["extended", "inverse_mod", "mtrim", "mreduce", "mdegree", "mlead", "madd", "mneg", "msub", "mscale", "mmul", "mdivmod", "mrest", "mquotient", "mmonic", "mderive", "mat", "mpower_mod", "mproduct", "morder", "mroot", "mgcd", "mextended", "minverse", "is_square_free_mod", "parts_once", "square_free_parts", "_law_whole", "_law_back", "_law_plain_right", "_law_divided_right", "_law_divisors_right", "_law_parts_right"]
noncomputable def arTab : List Nat := [2, 2, 1, 2, 1, 1, 3, 2, 3, 3, 3, 3, 3, 3, 2, 2, 3, 4, 2, 1, 2, 3, 3, 3, 2, 3, 2, 1, 2, 3, 3, 3, 3]
theorem tab_ok : ∀ k, k < 33 → (fdef (allFns.getD k 0)).name = Str.ofString (nameTab.getD k "") ∧ (psOf (fdef (allFns.getD k 0))).length = arTab.getD k 0 := by
  have h : ∀ k : Fin 33, (fdef (allFns.getD k.1 0)).name = Str.ofString (nameTab.getD k.1 "") ∧ (psOf (fdef (allFns.getD k.1 0))).length = arTab.getD k.1 0 := by decide +kernel
  exact fun k hk => h ⟨k, hk⟩
variable {S : List PyData → Option PyData}
theorem pre_step {k : Nat} (hk : k < 33) : Pre S (k + 1) = nextO (fdef (allFns.getD k 0)) (ownsAt (allFns.getD k 0)) (Pre S k) := by
  have hl : k < allFns.length := hk
  have e : allFns.take (k + 1) = allFns.take k ++ [allFns.getD k 0] := by
    rw [List.take_succ, List.getD_eq_getElem?_getD, List.getElem?_eq_getElem hl]; simp
  unfold Pre chainO
  rw [e, List.foldl_append]
  rfl
theorem runF_eq (i : Nat) (O : Orc) (args : List PyData) (h : args.length = (psOf (fdef i)).length) : nextO (fdef i) (ownsAt i) O (fdef i).name args = runF i O args := by
  unfold nextO runF
  rw [if_pos rfl, if_pos h]
  cases exSs O (ownsAt i) 1000 (fdef i).body (setAllV (fun _ => none) (psOf (fdef i)) args) with
  | none => rfl
  | some x => obtain ⟨fl, σ⟩ := x; cases fl <;> rfl
theorem call_at {k : Nat} (hk : k < 33) {args : List PyData} (ha : args.length = arTab.getD k 0) : Pre S (k + 1) (Str.ofString (nameTab.getD k "")) args = runF (allFns.getD k 0) (Pre S k) args := by
  (refine e0_2 ?_ (tab_ok k hk); intro h1 h2)
  rw [pre_step hk, ← h1]
  exact runF_eq _ _ _ (by rw [ha, h2])
theorem lift_one {k : Nat} (hk : k < 33) {s : String} (h : s ≠ nameTab.getD k "") (args : List PyData) : Pre S (k + 1) (Str.ofString s) args = Pre S k (Str.ofString s) args := by
  rw [pre_step hk]
  unfold nextO
  rw [if_neg]
  rw [(tab_ok k hk).1, str_inj]
  exact h
theorem lift {s : String} {args : List PyData} : ∀ (d k : Nat), k + d ≤ 33 → s ∉ (nameTab.drop k).take d → Pre S (k + d) (Str.ofString s) args = Pre S k (Str.ofString s) args
  | 0, _, _, _ => rfl
  | d + 1, k, h, hn => by
    have hl : k < nameTab.length := by show k < 33; lia
    rw [List.drop_eq_getElem_cons hl, List.take_succ_cons, List.mem_cons, not_or] at hn
    have h1 : s ≠ nameTab.getD k "" := by
      rw [List.getD_eq_getElem?_getD, List.getElem?_eq_getElem hl]; exact hn.1
    rw [show k + (d + 1) = k + 1 + d by lia, lift d (k + 1) (by lia) hn.2, lift_one (by lia) h1]
/-- what the k-th def gives back, seen from further down the chain -/
theorem at_ {k m : Nat} (h1 : k + 1 ≤ m) (h2 : m ≤ 33) {args : List PyData} (ha : args.length = arTab.getD k 0) (hn : nameTab.getD k "" ∉ (nameTab.drop (k + 1)).take (m - (k + 1))) : Pre S m (Str.ofString (nameTab.getD k "")) args = runF (allFns.getD k 0) (Pre S k) args := by
  rw [← call_at (by lia) ha]
  have := lift (S := S) (s := nameTab.getD k "") (args := args) (m - (k + 1)) (k + 1) (by lia) hn
  rwa [show k + 1 + (m - (k + 1)) = m by lia] at this
theorem notin {k m : Nat} (hk : k < 33) : nameTab.getD k "" ∉ (nameTab.drop (k + 1)).take (m - (k + 1)) := by
  have h : ∀ k : Fin 33, nameTab.getD k.1 "" ∉ nameTab.drop (k.1 + 1) := by decide +kernel
  exact fun hm => h ⟨k, hk⟩ (List.mem_of_mem_take hm)
theorem see {k m : Nat} (h1 : k + 1 ≤ m) (h2 : m ≤ 33) {args : List PyData} (ha : args.length = arTab.getD k 0) : Pre S m (Str.ofString (nameTab.getD k "")) args = runF (allFns.getD k 0) (Pre S k) args := at_ h1 h2 ha (notin (by lia))
theorem base_see {s : String} {m : Nat} (h2 : m ≤ 33) (hn : s ∉ nameTab) {args : List PyData} : Pre S m (Str.ofString s) args = baseO S (Str.ofString s) args := by
  have := lift (S := S) (s := s) (args := args) m 0 (by lia) (fun h => hn (List.mem_of_mem_take h))
  rw [Nat.zero_add] at this
  exact this

theorem list_ok {m : Nat} (hm : m ≤ 33) : ∀ xs : List Int, xs.length < 1000 → Pre S m "list" [L xs] = some (L xs) := fun xs h => by
  rw [base_see hm (by decide)]
  simp only [baseO, bltO, str_inj, String.reduceEq, if_false, if_true]
  show (if lenOk (xs.map PyData.int).length then some (PyData.list (xs.map .int)) else none) = _
  rw [List.length_map, if_pos (lenOk_of (by lia))]
theorem max_ok {m : Nat} (hm : m ≤ 33) : ∀ x y : Int, Pre S m "max" [.int x, .int y] = some (.int (if y > x then y else x)) := fun x y => by
  rw [base_see hm (by decide)]
  simp only [baseO, bltO, str_inj, String.reduceEq, if_false, if_true]
  rfl
theorem intsOf_map : ∀ xs : List Int, intsOf (xs.map .int) = some xs
  | [] => rfl
  | x :: xs => by show bind2 consO (some x) (intsOf (xs.map .int)) = _; rw [intsOf_map xs]; rfl
theorem sum_ok {m : Nat} (hm : m ≤ 33) : SumOk (Pre S m) := fun xs => by
  rw [base_see hm (by decide)]
  simp only [baseO, bltO, str_inj, String.reduceEq, if_false, if_true]
  show (intsOf (xs.map .int)).map _ = _
  rw [intsOf_map]; rfl
theorem trim_ok {m : Nat} (h1 : 3 ≤ m) (hm : m ≤ 33) : TrimOk (Pre S m) := fun xs h => by
  exact (see (S := S) (k := 2) h1 hm rfl).trans (run4 _ xs h (list_ok (by lia)))
theorem deg_ok {m : Nat} (h1 : 5 ≤ m) (hm : m ≤ 33) : DegOk (Pre S m) := fun xs h => (see (S := S) (k := 4) h1 hm rfl).trans (run6 _ xs (by lia))
theorem inv_ok {p : Int} (hp : PP p) {m : Nat} (h1 : 2 ≤ m) (hm : m ≤ 33) : InvOk p (Pre S m) := fun l h2 h3 => by
  refine (see (S := S) (k := 1) h1 hm rfl).trans ?_
  rcases hp with rfl | rfl | rfl
  · have : l = 1 := by lia
    subst this; rfl
  · have : l = 1 ∨ l = 2 := by lia
    rcases this with rfl | rfl <;> rfl
  · have : l = 1 ∨ l = 2 ∨ l = 3 ∨ l = 4 := by lia
    rcases this with rfl | rfl | rfl | rfl <;> rfl
end Mine
end
noncomputable section
open PySem PySem.W PyProof.Rows PySem.Calls PySem.Spec
set_option Elab.async false
set_option linter.all false
namespace Mine

variable {S : List PyData → Option PyData} {P : Prm} {p : Int}
theorem reduce_ok (hp : PP p) {m : Nat} (h1 : 4 ≤ m) (hm : m ≤ 33) (a : List Int) (h : a.length < 1000) : Pre S m "mreduce" [L a, .int p] = some (L (trim (a.map fun x => x % p))) :=
  (see (S := S) (k := 3) h1 hm rfl).trans (run5 _ a p (trim_ok (by lia) (by lia)) (by have := hp.pos; lia) h)
theorem lead_ok {m : Nat} (h1 : 6 ≤ m) (hm : m ≤ 33) (a : List Int) (h : a.length < 1000) : Pre S m "mlead" [L a] = some (.int (lead a)) :=
  (see (S := S) (k := 5) h1 hm rfl).trans (run7 _ a h)
theorem add_ok (hp : PP p) {m : Nat} (h1 : 7 ≤ m) (hm : m ≤ 33) (a b : List Int) (h : a.length < 1000) (h2 : b.length < 1000) : Pre S m "madd" [L a, L b, .int p] = some (L (addL p a b)) :=
  (see (S := S) (k := 6) h1 hm rfl).trans (run8 _ a b p (trim_ok (by lia) (by lia)) (max_ok (by lia)) (by have := hp.pos; lia) h h2)
theorem neg_ok (hp : PP p) {m : Nat} (h1 : 8 ≤ m) (hm : m ≤ 33) (a : List Int) (h : a.length ≤ 1000) : Pre S m "mneg" [L a, .int p] = some (L (negL p a)) :=
  (see (S := S) (k := 7) h1 hm rfl).trans (run9 _ a p (by have := hp.pos; lia) h)
theorem sub_ok (hp : PP p) {m : Nat} (h1 : 9 ≤ m) (hm : m ≤ 33) (a b : List Int) (h : a.length < 1000) (h2 : b.length < 1000) : Pre S m "msub" [L a, L b, .int p] = some (L (subL p a b)) :=
  (see (S := S) (k := 8) h1 hm rfl).trans (run10 _ a b p _ _ (neg_ok hp (by lia) (by lia) b (by lia)) (add_ok hp (by lia) (by lia) a _ h (by rw [neg_length]; exact h2)))
theorem scale_ok (hp : PP p) {m : Nat} (h1 : 10 ≤ m) (hm : m ≤ 33) (a : List Int) (k : Int) (hk : 0 ≤ k ∧ k < 100) (h : a.length < 1000) : Pre S m "mscale" [L a, .int k, .int p] = some (L (scaleL p a k)) :=
  (see (S := S) (k := 9) h1 hm rfl).trans (run11 _ a p k (trim_ok (by lia) (by lia)) (by have := hp.pos; lia) (small_of (by lia)) h)
theorem scale_ok' (hp : PP p) {m : Nat} (h1 : 10 ≤ m) (hm : m ≤ 33) : ScaleOk p (Pre S m) := fun a k _ h2 h3 h4 => scale_ok hp h1 hm a k ⟨h2, h3⟩ (by lia)
theorem mul_ok (hp : PP p) {m : Nat} (h1 : 11 ≤ m) (hm : m ≤ 33) : MulOk p (Pre S m) := fun a b ha hb h2 h3 => by
  have hpp := hp.pos
  refine (see (S := S) (k := 10) h1 hm rfl).trans ?_
  by_cases h : a = [] ∨ b = []
  · have : mulL p a b = [] := by rw [mulL, if_pos h]
    rw [this]
    exact run12n _ a b p h (by lia) (by lia)
  · rw [not_or] at h
    exact run12 _ a b p (trim_ok (by lia) (by lia)) h.1 h.2 (by lia) (fun x hx => by have := ha.rng x hx; lia) (fun x hx => by have := hb.rng x hx; lia) h2 h3
theorem div_ok (hp : PP p) {m : Nat} (h1 : 12 ≤ m) (hm : m ≤ 33) : DivOk p (Pre S m) := fun a b ha hb hn h2 h3 => by
  have hpp := hp.pos
  refine (see (S := S) (k := 11) h1 hm rfl).trans ?_
  (refine e0_2 ?_ (good_last hb hn); intro e1 e2)
  have hin := invP_spec hp e2
  exact run13 _ a b p (lead b) (invP p (lead b)) e1 (trim_ok (by lia) (by lia)) (max_ok (by lia)) (inv_ok hp (by lia) (by lia) _ e2.1 e2.2) (by lia) (by lia) (by lia) ha.rng hb.rng h2 h3
theorem rest_ok (hp : PP p) {m : Nat} (h1 : 13 ≤ m) (hm : m ≤ 33) : RestOk p (Pre S m) := fun a b ha hb hn h2 h3 =>
  (see (S := S) (k := 12) h1 hm rfl).trans (run14 _ a b p _ _ (div_ok hp (by lia) (by lia) a b ha hb hn h2 h3))
theorem quot_ok (hp : PP p) {m : Nat} (h1 : 14 ≤ m) (hm : m ≤ 33) : QuotOk p (Pre S m) := fun a b ha hb hn h2 h3 =>
  (see (S := S) (k := 13) h1 hm rfl).trans (run15 _ a b p _ _ (div_ok hp (by lia) (by lia) a b ha hb hn h2 h3))
theorem monic_ok (hp : PP p) {m : Nat} (h1 : 15 ≤ m) (hm : m ≤ 33) : MonicOk p (Pre S m) := fun a ha h2 => by
  have hpp := hp.pos
  refine (see (S := S) (k := 14) h1 hm rfl).trans ?_
  by_cases hn : a = []
  · subst hn
    exact run16n _ p
  · (refine e0_2 ?_ (good_last ha hn); intro e1 e2)
    have hin := invP_spec hp e2
    have e3 := scale_ok (S := S) hp (show 10 ≤ 14 by lia) (by lia) a (invP p (lead a)) (by lia) (by lia)
    have : monicL p a = scaleL p a (invP p (lead a)) := by rw [monicL, if_neg hn]
    rw [this]
    have e4 : (a.take (a.length - 1)).length < 900 := by rw [List.length_take]; lia
    have := run16 (Pre S 14) (a.take (a.length - 1)) p (lead a) (invP p (lead a)) (scaleL p a (invP p (lead a))) e4 (inv_ok hp (by lia) (by lia) _ e2.1 e2.2) (by rw [← e1]; exact e3)
    rw [← e1] at this
    exact this
theorem der_ok (hp : PP p) {m : Nat} (h1 : 16 ≤ m) (hm : m ≤ 33) : DerOk p (Pre S m) := fun a ha h2 =>
  (see (S := S) (k := 15) h1 hm rfl).trans (run17 _ a p (trim_ok (by lia) (by lia)) hp ha h2)
theorem mat_ok (hp : PP p) {m : Nat} (h1 : 17 ≤ m) (hm : m ≤ 33) (a : List Int) (x : Int) (hx : smallI x = true) (h : a.length < 1000) : Pre S m "mat" [L a, .int x, .int p] = some (.int (matL p x a)) :=
  (see (S := S) (k := 16) h1 hm rfl).trans (run18 _ a p x (by have := hp.pos; lia) hx h)
theorem pow_ok (hp : PP p) {m : Nat} (h1 : 18 ≤ m) (hm : m ≤ 33) (a f : List Int) (n : Nat) (ha : Good p a) (hf : Good p f) (hn : f ≠ []) (hl : a.length < 100) (hl2 : f.length < 100) (hn2 : n < 900) : Pre S m "mpower_mod" [L a, .int (n : Int), L f, .int p] = some (L (powL p a n f)) :=
  (see (S := S) (k := 17) h1 hm rfl).trans (run19 _ a f p n hp (rest_ok hp (by lia) (by lia)) (mul_ok hp (by lia) (by lia)) ha hf hn hl hl2 hn2)
theorem prod_ok (hp : PP p) {m : Nat} (h1 : 19 ≤ m) (hm : m ≤ 33) (s : List (List Int)) (hg : ∀ o ∈ s, Good p o) (hl : ∀ k, k ≤ s.length → (prodL p (s.take k)).length < 400) (hl2 : ∀ o ∈ s, o.length < 400) : Pre S m "mproduct" [.list (s.map L), .int p] = some (L (prodL p s)) :=
  (see (S := S) (k := 18) h1 hm rfl).trans (run20 _ p hp (mul_ok hp (by lia) (by lia)) s hg hl hl2)
theorem order_ok {m : Nat} (h1 : 20 ≤ m) (hm : m ≤ 33) (a : List Int) (h : a.length < 1000) : Pre S m "morder" [L a] = some (.tuple [.int a.length, L a.reverse]) :=
  (see (S := S) (k := 19) h1 hm rfl).trans (run21 _ a h)
theorem root_ok {m : Nat} (h1 : 21 ≤ m) (hm : m ≤ 33) : RootOk P (Pre S m) := fun a h => by
  have hp := P.2.pos
  have := (see (S := S) (k := 20) h1 hm (args := [L a, .int ((P.1.toNat : Nat) : Int)]) rfl).trans (run22 _ a P.1.toNat (by lia) (by lia) h)
  rw [Int.toNat_of_nonneg (by lia)] at this
  exact this
theorem gcd_ok (hp : PP p) {m : Nat} (h1 : 22 ≤ m) (hm : m ≤ 33) : GcdOk p (Pre S m) := fun a b ha hb h2 h3 =>
  (see (S := S) (k := 21) h1 hm rfl).trans (run24 _ a b p hp (rest_ok hp (by lia) (by lia)) (monic_ok hp (by lia) (by lia)) ha hb h2 h3)
theorem ext_ok (hp : PP p) {m : Nat} (h1 : 23 ≤ m) (hm : m ≤ 33) : ExtOk p (Pre S m) := fun a b ha hb h2 h3 =>
  (see (S := S) (k := 22) h1 hm rfl).trans (run25 _ a b p hp (div_ok hp (by lia) (by lia)) (mul_ok hp (by lia) (by lia)) (fun a b _ _ h4 h5 => sub_ok hp (by lia) (by lia) a b (by lia) (by lia)) (inv_ok hp (by lia) (by lia)) (scale_ok' hp (by lia) (by lia)) ha hb h2 h3)
theorem minv_ok (hp : PP p) {m : Nat} (h1 : 24 ≤ m) (hm : m ≤ 33) (a f : List Int) (ha : Good p a) (hf : Good p f) (hn : f ≠ []) (hl : a.length ≤ 12) (hl2 : f.length ≤ 12) : Pre S m "minverse" [L a, L f, .int p] = some (optD (minvL p a f)) :=
  (see (S := S) (k := 23) h1 hm rfl).trans (run26 _ a f p hp (rest_ok hp (by lia) (by lia)) (ext_ok hp (by lia) (by lia)) ha hf hn hl hl2)
theorem sqf_ok (hp : PP p) {m : Nat} (h1 : 25 ≤ m) (hm : m ≤ 33) (f : List Int) (hf : Good p f) (hl : f.length < 400) : Pre S m "is_square_free_mod" [L f, .int p] = some (.bool (sqfL p f)) :=
  (see (S := S) (k := 24) h1 hm rfl).trans (run27 _ f p hp (deg_ok (by lia) (by lia)) (gcd_ok hp (by lia) (by lia)) (der_ok hp (by lia) (by lia)) hf hl)
theorem parts_ok {m : Nat} (h1 : 26 ≤ m) (hm : m ≤ 33) : PartsOk P (Pre S m) := fun f k h2 h3 h4 =>
  (see (S := S) (k := 25) h1 hm rfl).trans (run28 _ (gcd_ok P.2 (by lia) (by lia)) (quot_ok P.2 (by lia) (by lia)) (der_ok P.2 (by lia) (by lia)) (deg_ok (by lia) (by lia)) f k h2 h3 h4)
theorem sfp_ok {m : Nat} (h1 : 27 ≤ m) (hm : m ≤ 33) (f : Rg P) (hf : lead f.1 = 1) (hl : f.1.length < 400) : Pre S m "square_free_parts" [L f.1, .int P.1] = some (.list ((sfpL P.1 f.1).map partD)) :=
  (see (S := S) (k := 26) h1 hm rfl).trans (run29 _ (parts_ok (by lia) (by lia)) (root_ok (by lia) (by lia)) (deg_ok (by lia) (by lia)) f hf hl)
theorem whole_ok {m : Nat} (h1 : 28 ≤ m) (hm : m ≤ 33) (a : List Int) (hl : a.length < 6) : Pre S m "_law_whole" [L a] = some (.int (ev a 1000)) :=
  (see (S := S) (k := 27) h1 hm rfl).trans (run32 _ a (sum_ok (by lia)) hl)
theorem back_ok (hp : PP p) {m : Nat} (h1 : 29 ≤ m) (hm : m ≤ 33) (l : List Int) (hr : InR 1000 l) (hl : l.length < 900) : Pre S m "_law_back" [.int (ev l 1000), .int p] = some (L (trim (l.map fun x => x % p))) :=
  (see (S := S) (k := 28) h1 hm rfl).trans (run33 _ l p hp hr hl)
end Mine
end
noncomputable section
set_option Elab.async false
set_option linter.all false
namespace Mine

theorem extF_fst (p : Int) : ∀ (k : Nat) (o o' : T3), (extF p k o o').1 = gcdF p k o.1 o'.1
  | 0, _, _ => rfl
  | k + 1, (r0, s0, t0), (r1, s1, t1) => by
    rw [extF_s, gcdF_s]
    by_cases h : r1 = []
    · rw [if_pos h, if_pos h]
    · rw [if_neg h, if_neg h, extF_fst p k]
theorem extL_fst (p : Int) (a b : List Int) : (extL p a b).1 = gcdL p a b := by
  have h := extF_fst p 1000 (a, [1], []) (b, [], [1])
  unfold extL gcdL monicL
  simp only at h
  rw [← h]
  generalize extF p 1000 (a, [1], []) (b, [], [1]) = z
  by_cases hz : z.1 = []
  · simp only [hz, if_true]
  · simp only [hz, if_false]

section
variable {P : Prm}
structure Rel (P : Prm) (A B : Rg P) (o : T3) : Prop where
  r : Good P.1 o.1
  s : Good P.1 o.2.1
  t : Good P.1 o.2.2
  e : mk P o.1 = addR (mulR (mk P o.2.1) A) (mulR (mk P o.2.2) B)
theorem mk_mulL (a b : List Int) : mk P (mulL P.1 a b) = mulR (mk P a) (mk P b) := by
  rw [mk_mul]
  (refine e1_1 ?_ (mulL_ev P.1 a b); intro w hw)
  exact mk_eq ⟨w, fun n => by rw [hw, ev_pmul]⟩
theorem mk_addL (a b : List Int) : mk P (addL P.1 a b) = addR (mk P a) (mk P b) := by
  rw [mk_add]
  (refine e1_1 ?_ (add_ev P.1 a b); intro w hw)
  exact mk_eq ⟨w, fun n => by rw [hw, ev_padd]⟩
theorem mk_negL (a : List Int) : mk P (negL P.1 a) = negR (mk P a) := by
  rw [mk_neg]
  (refine e1_1 ?_ (neg_ev P.1 a); intro w hw)
  exact mk_eq ⟨w, fun n => by rw [hw, ev_pneg]⟩
theorem mk_scaleL (a : List Int) (k : Int) : mk P (scaleL P.1 a k) = mulR (mk P [k]) (mk P a) := by
  rw [mk_mul]
  (refine e1_1 ?_ (scale_ev P.1 a k); intro w hw)
  exact mk_eq ⟨w, fun n => by rw [hw, ev_pmul]; simp only [ev]; grind⟩
theorem mk_subL (a b : List Int) : mk P (subL P.1 a b) = addR (mk P a) (negR (mk P b)) := by rw [subL, mk_addL, mk_negL]
theorem mk_dm {a b : List Int} (ha : Good P.1 a) (hb : Good P.1 b) (hn : b ≠ []) : mk P a = addR (mulR (mk P (quotL P.1 a b)) (mk P b)) (mk P (restL P.1 a b)) := by
  (refine e0_6 ?_ (div_spec P.2 ha hb hn); intro _ _ _ _ _ zz1; refine e1_1 ?_ zz1; clear zz1; intro w hw)
  rw [mk_mul, mk_add]
  exact mk_eq ⟨w, fun n => by rw [ev_padd, ev_pmul, hw]⟩
theorem mk_inj {a b : List Int} (ha : Good P.1 a) (hb : Good P.1 b) (h : mk P a = mk P b) : a = b := by
  have h1 := congrArg Subtype.val (mk_val (el P a ha))
  have h2 := congrArg Subtype.val (mk_val (el P b hb))
  have h3 := congrArg Subtype.val h
  exact h1.symm.trans (h3.trans h2)
theorem ext_rel {A B : Rg P} : ∀ (k : Nat) (o o' : T3), Rel P A B o → Rel P A B o' → Rel P A B (extF P.1 k o o')
  | 0, _, _, h, _ => h
  | k + 1, (r0, s0, t0), (r1, s1, t1), h, h' => by
    have hp := P.2.pos
    rw [extF_s]
    by_cases hr : r1 = []
    · rw [if_pos hr]; exact h
    · rw [if_neg hr]
      (refine e0_3 ?_ (div_spec P.2 h.r h'.r hr); intro d1 d2 _)
      refine ext_rel k _ _ h' ⟨d2, sub_good P.2 _ _, sub_good P.2 _ _, ?_⟩
      letI := ringR P
      have e0 := h.e
      have e1 := h'.e
      have e2 := mk_dm h.r h'.r hr
      simp only at e0 e1 e2 ⊢
      rw [mk_subL, mk_subL, mk_mulL, mk_mulL]
      generalize mk P (quotL P.1 r0 r1) = q at *
      generalize mk P (restL P.1 r0 r1) = r at *
      generalize mk P r0 = R0 at *
      generalize mk P r1 = R1 at *
      generalize mk P s0 = S0 at *
      generalize mk P s1 = S1 at *
      generalize mk P t0 = T0 at *
      generalize mk P t1 = T1 at *
      have f0 : R0 = S0 * A + T0 * B := e0
      have f1 : R1 = S1 * A + T1 * B := e1
      have f2 : R0 = q * R1 + r := e2
      show r = (S0 + -(q * S1)) * A + (T0 + -(q * T1)) * B
      grind
theorem extL_rel {a b : List Int} (ha : Good P.1 a) (hb : Good P.1 b) : Rel P (mk P a) (mk P b) (extL P.1 a b) := by
  have hp := P.2.pos
  letI := ringR P
  have h0 : mk P [] = (0 : Rg P) := mk_ext fun n => by simp [ev]
  have h1 : mk P [1] = (1 : Rg P) := rfl
  have h := ext_rel (A := mk P a) (B := mk P b) 1000 (a, [1], []) (b, [], [1]) ⟨ha, good_one P.2, good_nil, by
      show mk P a = mk P [1] * mk P a + mk P [] * mk P b
      rw [h0, h1]; grind⟩ ⟨hb, good_nil, good_one P.2, by
      show mk P b = mk P [] * mk P a + mk P [1] * mk P b
      rw [h0, h1]; grind⟩
  unfold extL
  generalize extF P.1 1000 (a, [1], []) (b, [], [1]) = z at *
  by_cases hz : z.1 = []
  · simp only [hz, if_true]
    refine ⟨good_nil, good_nil, good_nil, ?_⟩
    show mk P [] = mk P [] * mk P a + mk P [] * mk P b
    rw [h0]; grind
  · simp only [hz, if_false]
    refine ⟨scale_good (by lia) _ _, scale_good (by lia) _ _, scale_good (by lia) _ _, ?_⟩
    simp only
    rw [mk_scaleL, mk_scaleL, mk_scaleL]
    have e := h.e
    generalize mk P [invP P.1 (lead z.1)] = k
    generalize mk P z.1 = G at *
    generalize mk P z.2.1 = S at *
    generalize mk P z.2.2 = T at *
    have e' : G = S * mk P a + T * mk P b := e
    show k * G = k * S * mk P a + k * T * mk P b
    rw [e']; grind

/-- the rest of what is divided is nothing, and the other way about -/
theorem rest_nil {a b : List Int} (ha : Good P.1 a) (hb : Good P.1 b) (hn : b ≠ []) (h : @Dv _ (ringR P) (mk P b) (mk P a)) : restL P.1 a b = [] := by
  have := (quot_exact (x := el P a ha) (y := el P b hb) hn (by
    have e1 := mk_val (el P a ha); have e2 := mk_val (el P b hb)
    rw [← e1, ← e2]; exact h)).2
  exact this
/-- division is unique -/
theorem div_uniq {a b q r : List Int} (ha : Good P.1 a) (hb : Good P.1 b) (hn : b ≠ []) (hq : Good P.1 q) (hr : Good P.1 r) (hl : r.length < b.length) (h : mk P a = addR (mulR (mk P q) (mk P b)) (mk P r)) : quotL P.1 a b = q ∧ restL P.1 a b = r := by
  letI := ringR P
  (refine e0_4 ?_ (div_spec P.2 ha hb hn); intro d1 d2 d3 _)
  have e := mk_dm ha hb hn
  have hb0 : mk P b ≠ 0 := fun h0 => hn (mk_inj hb good_nil (h0.trans (mk_ext fun n => by simp [ev])))
  have lenv : ∀ {x : List Int}, Good P.1 x → (euR P).len (mk P x) = x.length := fun {x} hx => congrArg List.length (congrArg Subtype.val (mk_val (el P x hx)))
  have hdiff : mk P (restL P.1 a b) = mk P r := by
    apply Classical.byContradiction
    intro hne
    have hs : mk P (subL P.1 r (restL P.1 a b)) = mk P r + -(mk P (restL P.1 a b)) := mk_subL _ _
    have hne2 : mk P (subL P.1 r (restL P.1 a b)) ≠ 0 := fun h0 => hne (by rw [hs] at h0; grind)
    have hdv : Dv (mk P b) (mk P (subL P.1 r (restL P.1 a b))) := by
      refine ⟨mk P (quotL P.1 a b) - mk P q, ?_⟩
      have e' : mk P a = mk P (quotL P.1 a b) * mk P b + mk P (restL P.1 a b) := e
      have h' : mk P a = mk P q * mk P b + mk P r := h
      rw [hs]; grind
    have h1 := (euR P).dv_len hdv hne2
    rw [lenv hb, lenv (sub_good P.2 _ _)] at h1
    have := sub_length P.1 r (restL P.1 a b)
    lia
  refine ⟨mk_inj d1 hq ((euR P).cancel hb0 ?_), mk_inj d2 hr hdiff⟩
  have e' : mk P a = mk P (quotL P.1 a b) * mk P b + mk P (restL P.1 a b) := e
  have h' : mk P a = mk P q * mk P b + mk P r := h
  rw [hdiff] at e'
  grind
end
end Mine
end
noncomputable section
set_option Elab.async false
set_option linter.all false
namespace Mine

section
variable {P : Prm} {a b : List Int}
theorem el_mk (ha : Good P.1 a) : el P a ha = mk P a := (mk_val (el P a ha)).symm
theorem gcd_isG' (ha : Good P.1 a) (hb : Good P.1 b) (hl : a.length < 400) (hl2 : b.length < 400) : @Eu.IsG _ (ringR P) (euR P) (mk P (gcdL P.1 a b)) (mk P a) (mk P b) := by
  have h := gcd_isG (x := el P a ha) (y := el P b hb) hl hl2
  rw [← el_mk (gcd_good P.2 ha hb hl hl2).1, ← el_mk ha, ← el_mk hb]
  exact h
theorem mk_one : mk P [1] = mk P [((1 : Nat) : Int)] := rfl
theorem mk_nil : mk P [] = mk P [((0 : Nat) : Int)] := mk_ext fun n => by simp [ev]
theorem mk_ne (ha : Good P.1 a) (hn : a ≠ []) : mk P a ≠ mk P [((0 : Nat) : Int)] := fun h => hn (mk_inj ha good_nil (h.trans mk_nil.symm))
theorem gcd_uniq {x y : List Int} (ha : Good P.1 a) (hb : Good P.1 b) (hl : a.length < 400) (hl2 : b.length < 400) {g : List Int} (hg : Good P.1 g) (h : @Eu.IsG _ (ringR P) (euR P) (mk P g) (mk P a) (mk P b)) : gcdL P.1 a b = g := by
  letI := ringR P
  exact mk_inj (gcd_good P.2 ha hb hl hl2).1 hg ((gcd_isG' ha hb hl hl2).uniq h)
theorem monic_mk {g : List Int} (hg : Good P.1 g) (h : lead g = 1) : @Eu.monic _ (ringR P) (euR P) (mk P g) := by
  show lead (mk P g).1 = 1
  rw [← el_mk hg]; exact h
theorem gcd_comm (ha : Good P.1 a) (hb : Good P.1 b) (hl : a.length < 400) (hl2 : b.length < 400) : gcdL P.1 b a = gcdL P.1 a b := by
  letI := ringR P
  exact gcd_uniq (x := []) (y := []) hb ha hl2 hl (gcd_good P.2 ha hb hl hl2).1 (gcd_isG' ha hb hl hl2).swap
theorem gcd_lead' (ha : Good P.1 a) (hb : Good P.1 b) (hl : a.length < 400) (hl2 : b.length < 400) (hn : a ≠ []) : lead (gcdL P.1 a b) = 1 := gcd_lead (x := el P a ha) (y := el P b hb) hl hl2 hn
theorem lead_ne (h : lead a = 1) : a ≠ [] := fun q => by rw [q] at h; simp [lead] at h
theorem f_rest (ha : Good P.1 a) (hb : Good P.1 b) (hl : a.length < 400) (hl2 : b.length < 400) (hn : a ≠ []) : restL P.1 a (gcdL P.1 a b) = [] ∧ restL P.1 b (gcdL P.1 a b) = [] := by
  have hg := (gcd_good P.2 ha hb hl hl2).1
  letI := ringR P
  have hgn := lead_ne (gcd_lead' ha hb hl hl2 hn)
  have h := gcd_isG' ha hb hl hl2
  exact ⟨rest_nil ha hg hgn h.l, rest_nil hb hg hgn h.r⟩
theorem quot_mk {g : List Int} (ha : Good P.1 a) (hg : Good P.1 g) (hn : g ≠ []) (h : @Dv _ (ringR P) (mk P g) (mk P a)) : mk P a = mulR (mk P g) (mk P (quotL P.1 a g)) := by
  letI := ringR P
  have e := mk_dm ha hg hn
  rw [rest_nil ha hg hn h, mk_nil] at e
  have e' : mk P a = mk P (quotL P.1 a g) * mk P g + 0 := e
  show mk P a = mk P g * mk P (quotL P.1 a g)
  rw [e']; grind
theorem gcd_one' (ha : Good P.1 a) (hb : Good P.1 b) (hl : a.length < 400) (hl2 : b.length < 400) (h : ∃ s t : Rg P, addR (mulR s (mk P a)) (mulR t (mk P b)) = mk P [((1 : Nat) : Int)]) : gcdL P.1 a b = [1] := by
  have := gcd_one (x := el P a ha) (y := el P b hb) hl hl2 (by rw [el_mk, el_mk]; exact h)
  exact this
theorem f_quot (ha : Good P.1 a) (hb : Good P.1 b) (hl : a.length < 400) (hl2 : b.length < 400) (hn : a ≠ []) : gcdL P.1 (quotL P.1 a (gcdL P.1 a b)) (quotL P.1 b (gcdL P.1 a b)) = [1] := by
  letI := ringR P
  have hg := (gcd_good P.2 ha hb hl hl2).1
  have hgn := lead_ne (gcd_lead' ha hb hl hl2 hn)
  have h := gcd_isG' ha hb hl hl2
  (refine e0_5 ?_ (div_spec P.2 ha hg hgn); intro d1 _ _ d4 _)
  (refine e0_5 ?_ (div_spec P.2 hb hg hgn); intro e1 _ _ e4 _)
  have q1 := quot_mk ha hg hgn h.l
  have q2 := quot_mk hb hg hgn h.r
  refine gcd_one' d1 e1 (by lia) (by lia) ?_
  generalize hG : mk P (gcdL P.1 a b) = G at *
  have h' : (euR P).IsG G (G * mk P (quotL P.1 a (gcdL P.1 a b))) (G * mk P (quotL P.1 b (gcdL P.1 a b))) := by
    have e1 : G * mk P (quotL P.1 a (gcdL P.1 a b)) = mk P a := q1.symm
    have e2 : G * mk P (quotL P.1 b (gcdL P.1 a b)) = mk P b := q2.symm
    rw [e1, e2]; exact h
  exact h'.quot (fun h0 => mk_ne hg hgn (hG.trans h0))
theorem monic_isG (hb : Good P.1 b) : @Dv _ (ringR P) (mk P (monicL P.1 b)) (mk P b) ∧ @Dv _ (ringR P) (mk P b) (mk P (monicL P.1 b)) ∧ ∃ k : Rg P, mk P (monicL P.1 b) = mulR k (mk P b) := by
  have h := monic_dv (el P b hb)
  have e : el P (monicL P.1 (el P b hb).1) (monic_good P.2 (el P b hb).2) = mk P (monicL P.1 b) := el_mk _
  rw [e, el_mk] at h
  exact h
theorem f_mul (ha : Good P.1 a) (hb : Good P.1 b) (hl : a.length < 150) (hl2 : b.length < 150) (hn : b ≠ []) : gcdL P.1 (mulL P.1 a b) b = monicL P.1 b := by
  letI := ringR P
  have hp := P.2.pos
  have hml := mulL_length P.1 a b
  refine gcd_uniq (x := []) (y := []) (mulL_good (by lia) _ _) hb (by lia) (by lia) (monic_good P.2 hb) ?_
  (refine e0_3 ?_ (monic_isG hb); intro m1 m2 zz1; refine e1_1 ?_ zz1; clear zz1; intro k m3)
  refine ⟨.inl (monic_mk (monic_good P.2 hb) (monic_lead P.2 hb hn).1), ?_, m1, 0, k, ?_⟩
  · (refine e1_1 ?_ m1; clear m1; intro c hc)
    refine ⟨c * mk P a, ?_⟩
    rw [mk_mulL]
    show mk P a * mk P b = _
    rw [hc]; grind
  · rw [m3]
    show k * mk P b = 0 * mk P (mulL P.1 a b) + k * mk P b
    grind
theorem f_gcd_nil (ha : Good P.1 a) (hl : a.length < 400) : gcdL P.1 a [] = monicL P.1 a ∧ gcdL P.1 [] a = monicL P.1 a ∧ gcdL P.1 [] [] = [] := by
  have h1 : ∀ x : List Int, gcdL P.1 x [] = monicL P.1 x := fun x => by
    rw [gcdL, show (1000 : Nat) = 999 + 1 from rfl, gcdF_s, if_pos rfl]
  exact ⟨h1 a, by rw [gcd_comm ha good_nil hl (by simp), h1], by rw [h1]; rfl⟩
theorem good_m1 : Good P.1 [P.1 - 1] := ⟨fun x hx => by have := P.2.pos; simp at hx; lia, trim_id (.inr (by have := P.2.pos; simp [lead]; lia))⟩
theorem m1_sq : mulR (mk P [P.1 - 1]) (mk P [P.1 - 1]) = mk P [((1 : Nat) : Int)] := by
  rw [mk_mul]
  exact mk_eq ⟨[P.1 - 2], fun n => by rw [ev_pmul]; simp only [ev]; grind⟩
theorem f_m1 (ha : Good P.1 a) (hl : a.length < 400) : gcdL P.1 [P.1 - 1] a = [1] := by
  letI := ringR P
  refine gcd_one' good_m1 ha (by simp) hl ⟨mk P [P.1 - 1], 0, ?_⟩
  rw [m1_sq]
  show (1 : Rg P) + 0 * mk P a = 1
  grind
theorem f_scale (ha : Good P.1 a) (hn : a ≠ []) : scaleL P.1 (monicL P.1 a) (lead a) = a := by
  letI := ringR P
  have hp := P.2.pos
  (refine e0_2 ?_ (good_last ha hn); intro _ h2)
  have hinv := invP_spec P.2 h2
  refine mk_inj (scale_good (by lia) _ _) ha ?_
  rw [mk_scaleL, monicL, if_neg hn, mk_scaleL]
  have hu : mulR (mk P [lead a]) (mk P [invP P.1 (lead a)]) = mk P [((1 : Nat) : Int)] := by
    rw [mk_mul]
    have h5 := Int.emod_add_mul_ediv (lead a * invP P.1 (lead a)) P.1
    rw [hinv.1] at h5
    refine mk_eq ⟨[lead a * invP P.1 (lead a) / P.1], fun n => ?_⟩
    rw [ev_pmul]
    simp only [ev]
    push_cast
    generalize lead a * invP P.1 (lead a) / P.1 = z at *
    grind
  have hu' : mk P [lead a] * mk P [invP P.1 (lead a)] = 1 := hu
  show mk P [lead a] * (mk P [invP P.1 (lead a)] * mk P a) = mk P a
  have : mk P [lead a] * (mk P [invP P.1 (lead a)] * mk P a) = (mk P [lead a] * mk P [invP P.1 (lead a)]) * mk P a := by grind
  rw [this, hu']; grind
theorem f_gcd_rest (ha : Good P.1 a) (hb : Good P.1 b) (hl : a.length < 400) (hl2 : b.length < 400) (hn : b ≠ []) : gcdL P.1 (restL P.1 a b) b = gcdL P.1 a b := by
  letI := ringR P
  (refine e0_4 ?_ (div_spec P.2 ha hb hn); intro _ d2 d3 _)
  have h := gcd_isG' ha hb hl hl2
  have e := mk_dm ha hb hn
  refine gcd_uniq (x := []) (y := []) d2 hb (by lia) hl2 (gcd_good P.2 ha hb hl hl2).1 ?_
  generalize mk P (restL P.1 a b) = r at *
  generalize mk P (quotL P.1 a b) = q at *
  have e' : mk P a = q * mk P b + r := e
  refine ⟨h.m, ?_, h.r, ?_⟩
  · have := h.l.lin h.r 1 (-q)
    have e2 : 1 * mk P a + -q * mk P b = r := by rw [e']; grind
    rwa [e2] at this
  · (refine e2_1 ?_ h.c; intro s t hst)
    exact ⟨s, s * q + t, by rw [hst, e']; grind⟩
theorem f_inv (ha : Good P.1 a) (hb : Good P.1 b) (hl : a.length ≤ 12) (hl2 : b.length ≤ 12) (hn : b ≠ []) :
    (gcdL P.1 a b ≠ [1] → minvL P.1 a b = none) ∧ (gcdL P.1 a b = [1] → ∃ r, minvL P.1 a b = some r ∧ Good P.1 r ∧ r.length < b.length ∧ (1 < b.length → restL P.1 (mulL P.1 r a) b = [1])) := by
  letI := ringR P
  have hp := P.2.pos
  (refine e0_4 ?_ (div_spec P.2 ha hb hn); intro _ d2 d3 _)
  have h1 : (extL P.1 (restL P.1 a b) b).1 = gcdL P.1 a b := by rw [extL_fst, f_gcd_rest ha hb (by lia) (by lia) hn]
  unfold minvL
  rw [h1]
  refine ⟨fun h => if_neg h, fun h => ?_⟩
  rw [if_pos h]
  have hr := extL_rel d2 hb
  (refine e0_4 ?_ (div_spec P.2 hr.s hb hn); intro _ r2 r3 _)
  refine ⟨_, rfl, r2, r3, fun hbl => ?_⟩
  refine (div_uniq (q := quotL P.1 (mulL P.1 (restL P.1 (extL P.1 (restL P.1 a b) b).2.1 b) a) b) (mulL_good (by lia) _ _) hb hn (div_spec P.2 (mulL_good (by lia) _ _) hb hn).1 (good_one P.2) (by simpa using hbl) ?_).2
  have e1 := mk_dm (mulL_good (p := P.1) (by lia) (restL P.1 (extL P.1 (restL P.1 a b) b).2.1 b) a) hb hn
  suffices hs : restL P.1 (mulL P.1 (restL P.1 (extL P.1 (restL P.1 a b) b).2.1 b) a) b = [1] by rw [hs] at e1; exact e1
  -- the product is 1 and a multiple of b
  have e2 := mk_dm hr.s hb hn
  have e3 := mk_dm ha hb hn
  have e4 := hr.e
  rw [h1, h] at e4
  generalize hz : extL P.1 (restL P.1 a b) b = z at *
  obtain ⟨g, s, t⟩ := z
  simp only at *
  have hm := mk_mulL (P := P) (restL P.1 s b) a
  refine (div_uniq (q := subL P.1 (mulL P.1 (restL P.1 s b) (quotL P.1 a b)) (addL P.1 t (mulL P.1 (quotL P.1 s b) (restL P.1 a b)))) (mulL_good (by lia) _ _) hb hn (sub_good P.2 _ _) (good_one P.2) (by simpa using hbl) ?_).2
  rw [hm, mk_subL, mk_addL, mk_mulL, mk_mulL]
  generalize mk P (restL P.1 s b) = rs at *
  generalize mk P (quotL P.1 s b) = qs at *
  generalize mk P (restL P.1 a b) = ra at *
  generalize mk P (quotL P.1 a b) = qa at *
  have f2 : mk P s = qs * mk P b + rs := e2
  have f3 : mk P a = qa * mk P b + ra := e3
  have f4 : mk P [1] = mk P s * ra + mk P t * mk P b := e4
  show rs * mk P a = (rs * qa + -(mk P t + qs * ra)) * mk P b + mk P [1]
  rw [f4, f2, f3]
  grind
theorem f_inv1 (ha : Good P.1 a) (hl : a.length ≤ 12) : minvL P.1 a [1] = some [] := by
  have h1 : gcdL P.1 a [1] = [1] := by
    rw [gcd_comm (good_one P.2) ha (by simp) (by lia)]
    letI := ringR P
    refine gcd_one' (good_one P.2) ha (by simp) (by lia) ⟨mk P [1], mk P [], ?_⟩
    rw [mk_nil]
    show (1 : Rg P) * 1 + 0 * mk P a = 1
    grind
  (refine e1_4 ?_ ((f_inv ha (good_one P.2) hl (by simp) (by simp)).2 h1); intro r h2 _ h3 _)
  rw [h2]
  have : r = [] := by cases r with | nil => rfl | cons _ _ => simp at h3
  rw [this]
end
end Mine
end
noncomputable section
open PySem PySem.W PyProof.Rows PySem.Calls PySem.Spec
set_option Elab.async false
set_option linter.all false
namespace Mine

theorem ne_self (a : List Int) : cmpV .NotEq (L a) (L a) = some false := by rw [cmpNeL]; simp
theorem eq_self_ (a : List Int) : cmpV .Eq (L a) (L a) = some true := by rw [cmpEqL]; simp
theorem ne_nn : cmpV .NotEq (.list []) (.list []) = some false := ne_self []
theorem eq_nn : cmpV .Eq (.list []) (.list []) = some true := eq_self_ []
theorem ne_11 (x : Int) : cmpV .NotEq (.list [.int x]) (.list [.int x]) = some false := ne_self [x]
theorem eq_11 (x : Int) : cmpV .Eq (.list [.int x]) (.list [.int x]) = some true := eq_self_ [x]
theorem ne_L1 (a : List Int) (x : Int) : cmpV .NotEq (L a) (.list [.int x]) = some (!decide (a = [x])) := cmpNeL (b := [x])
theorem ne_bool (a b : Bool) : cmpV .NotEq (.bool a) (.bool b) = some (a != b) := by cases a <;> cases b <;> rfl
theorem is_none (d : PyData) : cmpV .Is d .none = some (isNoneV d) := by cases d <;> rfl
theorem isnot_none (d : PyData) : cmpV .IsNot d .none = some (!isNoneV d) := by cases d <;> rfl
theorem t3_nil : cmpV .NotEq (.tuple [.list [], .list [], .list []]) (.tuple [.list [], .list [], .list []]) = some false := by rfl
theorem idx_last' {a : List Int} (h : a ≠ []) (hl : a.length ≤ 100000) : idxV (L a) (.int (-1)) = some (.int (lead a)) := by
  rcases List.eq_nil_or_concat a with rfl | ⟨a', l, rfl⟩
  · exact absurd rfl h
  · rw [List.concat_eq_append] at hl ⊢
    rw [idx_last (by simp at hl; lia)]
    simp [lead]
theorem minv_x2 {p : Int} (hp : PP p) : minvL p [0, 0, 1] [0, 1] = none ∧ minvL p [] [0, 1] = none ∧ minvL p [p - 1] [0, 1] = some [p - 1] := by
  rcases hp with rfl | rfl | rfl <;> refine ⟨?_, ?_, ?_⟩ <;> decide +kernel
theorem ext_nil {p : Int} : extL p [] [] = ([], [], []) := by
  unfold extL
  rw [show (1000 : Nat) = 999 + 1 from rfl, extF_s, if_pos rfl]
  rfl

section
variable {S : List PyData → Option PyData} {P : Prm}
theorem run37 (a b : List Int) (ha : Good P.1 a) (hb : Good P.1 b) (hn : a ≠ []) (hn2 : b ≠ []) (hl : a.length ≤ 6) (hl2 : b.length ≤ 6) : runF 37 (Pre S 31) [L a, L b, .int P.1] = some (.bool true) := by
  have hps : psOf (fdef 37) = [("a" : Str), "b", "p"] := by rfl
  have hp := P.2.pos
  have g1 : Good P.1 [0, 1] := ⟨fun x hx => by simp at hx; lia, rfl⟩
  have g2 : Good P.1 [0, 0, 1] := ⟨fun x hx => by simp at hx; lia, rfl⟩
  have gm := good_m1 (P := P)
  (refine e0_3 ?_ (minv_x2 P.2); intro mv1 mv2 mv3)
  (refine e0_6 ?_ (extL_bounds P.2 ha hb (by lia) (by lia)); intro b1 b2 b3 b4 b5 b6)
  have hrel := extL_rel ha hb
  have hfst := extL_fst P.1 a b
  have c1 := ext_ok (S := S) P.2 (show 23 ≤ 31 by lia) (by lia) a b ha hb (by lia) (by lia)
  generalize hz : extL P.1 a b = z at *
  obtain ⟨g, s, t⟩ := z
  simp only [t3] at *
  have hgl := gcd_lead' ha hb (by lia) (by lia) hn
  have hgg := gcd_good P.2 ha hb (by lia) (by lia)
  (refine e0_2 ?_ (f_rest ha hb (by lia) (by lia) hn); intro r1 r2)
  have r3 := f_quot ha hb (by lia) (by lia) hn
  have r4 := f_mul ha hb (by lia) (by lia) hn2
  (refine e0_3 ?_ (f_gcd_nil ha (by lia)); intro r5 r6 r7)
  have r8 := f_m1 ha (by lia)
  have r9 := f_scale ha hn
  have rc := gcd_comm ha hb (by lia) (by lia)
  (refine e0_2 ?_ (f_inv ha hb (by lia) (by lia) hn2); intro v1 v2)
  have v3 := f_inv1 ha (by lia)
  have c2 := gcd_ok (S := S) P.2 (show 22 ≤ 31 by lia) (by lia) a b ha hb (by lia) (by lia)
  rw [← hfst] at c2 hgl hgg r1 r2 r3 rc v1 v2
  have hgn := lead_ne hgl
  (refine e0_5 ?_ (div_spec P.2 ha hgg.1 hgn); intro dq1 _ _ dq4 _)
  (refine e0_5 ?_ (div_spec P.2 hb hgg.1 hgn); intro eq1 _ _ eq4 _)
  have ml1 := mulL_length P.1 s a
  have ml2 := mulL_length P.1 t b
  have ml3 := mulL_length P.1 a b
  have c3 := mul_ok (S := S) P.2 (show 11 ≤ 31 by lia) (by lia) s a b2 ha (by lia) (by lia)
  have c4 := mul_ok (S := S) P.2 (show 11 ≤ 31 by lia) (by lia) t b b3 hb (by lia) (by lia)
  have c5 := add_ok (S := S) P.2 (show 7 ≤ 31 by lia) (by lia) (mulL P.1 s a) (mulL P.1 t b) (by lia) (by lia)
  have h5 : addL P.1 (mulL P.1 s a) (mulL P.1 t b) = g := mk_inj (add_good (by lia) _ _) b1 (by rw [mk_addL, mk_mulL, mk_mulL]; exact hrel.e.symm)
  rw [h5] at c5
  have c6 := rest_ok (S := S) P.2 (show 13 ≤ 31 by lia) (by lia) a g ha b1 hgn (by lia) (by lia)
  have c7 := rest_ok (S := S) P.2 (show 13 ≤ 31 by lia) (by lia) b g hb b1 hgn (by lia) (by lia)
  rw [r1] at c6
  rw [r2] at c7
  have c8 := gcd_ok (S := S) P.2 (show 22 ≤ 31 by lia) (by lia) b a hb ha (by lia) (by lia)
  rw [rc] at c8
  have c9 := quot_ok (S := S) P.2 (show 14 ≤ 31 by lia) (by lia) a g ha b1 hgn (by lia) (by lia)
  have c10 := quot_ok (S := S) P.2 (show 14 ≤ 31 by lia) (by lia) b g hb b1 hgn (by lia) (by lia)
  have c11 := gcd_ok (S := S) P.2 (show 22 ≤ 31 by lia) (by lia) (quotL P.1 a g) (quotL P.1 b g) dq1 eq1 (by lia) (by lia)
  rw [r3] at c11
  have c12 := mul_ok (S := S) P.2 (show 11 ≤ 31 by lia) (by lia) a b ha hb (by lia) (by lia)
  have c13 := gcd_ok (S := S) P.2 (show 22 ≤ 31 by lia) (by lia) (mulL P.1 a b) b (mulL_good (by lia) _ _) hb (by lia) (by lia)
  rw [r4] at c13
  have c14 := monic_ok (S := S) P.2 (show 15 ≤ 31 by lia) (by lia) b hb (by lia)
  have c15 : Pre S 31 "mgcd" [.list [], .list [], .int P.1] = some (.list []) := by
    have := gcd_ok (S := S) P.2 (show 22 ≤ 31 by lia) (by lia) [] [] good_nil good_nil (by simp) (by simp)
    rw [r7] at this; exact this
  have c16 : Pre S 31 "mgcd" [L a, .list [], .int P.1] = some (L (monicL P.1 a)) := by
    have := gcd_ok (S := S) P.2 (show 22 ≤ 31 by lia) (by lia) a [] ha good_nil (by lia) (by simp)
    rw [r5] at this; exact this
  have c17 : Pre S 31 "mgcd" [.list [], L a, .int P.1] = some (L (monicL P.1 a)) := by
    have := gcd_ok (S := S) P.2 (show 22 ≤ 31 by lia) (by lia) [] a good_nil ha (by simp) (by lia)
    rw [r6] at this; exact this
  have c18 := monic_ok (S := S) P.2 (show 15 ≤ 31 by lia) (by lia) a ha (by lia)
  have c19 : Pre S 31 "mgcd" [.list [.int (P.1 - 1)], L a, .int P.1] = some (.list [.int 1]) := by
    have := gcd_ok (S := S) P.2 (show 22 ≤ 31 by lia) (by lia) [P.1 - 1] a gm ha (by simp) (by lia)
    rw [r8] at this; exact this
  have c20 : Pre S 31 "minverse" [.list [.int 0, .int 0, .int 1], .list [.int 0, .int 1], .int P.1] = some .none := by
    have := minv_ok (S := S) P.2 (show 24 ≤ 31 by lia) (by lia) [0, 0, 1] [0, 1] g2 g1 (by simp) (by simp) (by simp)
    rw [mv1] at this; exact this
  have c21 : Pre S 31 "mextended" [.list [], .list [], .int P.1] = some (.tuple [.list [], .list [], .list []]) := by
    have := ext_ok (S := S) P.2 (show 23 ≤ 31 by lia) (by lia) [] [] good_nil good_nil (by simp) (by simp)
    rw [ext_nil] at this; exact this
  have c22 : Pre S 31 "mmonic" [.list [], .int P.1] = some (.list []) := by
    have := monic_ok (S := S) P.2 (show 15 ≤ 31 by lia) (by lia) [] good_nil (by simp)
    exact this
  have hml := monic_lead P.2 ha hn
  have hlead := good_last ha hn
  have c23 := scale_ok (S := S) P.2 (show 10 ≤ 31 by lia) (by lia) (monicL P.1 a) (lead a) (by lia) (by lia)
  rw [r9] at c23
  have c24 : Pre S 31 "minverse" [.list [], .list [.int 0, .int 1], .int P.1] = some .none := by
    have := minv_ok (S := S) P.2 (show 24 ≤ 31 by lia) (by lia) [] [0, 1] good_nil g1 (by simp) (by simp) (by simp)
    rw [mv2] at this; exact this
  have c25 := minv_ok (S := S) P.2 (show 24 ≤ 31 by lia) (by lia) a b ha hb hn2 (by lia) (by lia)
  have c26 : Pre S 31 "minverse" [.list [.int (P.1 - 1)], .list [.int 0, .int 1], .int P.1] = some (.list [.int (P.1 - 1)]) := by
    have := minv_ok (S := S) P.2 (show 24 ≤ 31 by lia) (by lia) [P.1 - 1] [0, 1] gm g1 (by simp) (by simp) (by simp)
    rw [mv3] at this; exact this
  have c27 : Pre S 31 "minverse" [L a, .list [.int 1], .int P.1] = some (.list []) := by
    have := minv_ok (S := S) P.2 (show 24 ≤ 31 by lia) (by lia) a [1] ha (good_one P.2) (by simp) (by lia) (by simp)
    rw [v3] at this; exact this
  have i1 := idx_last' hgn (by lia)
  rw [hgl] at i1
  have i2 := idx_last' (a := monicL P.1 a) (lead_ne hml.1) (by lia)
  rw [hml.1] at i2
  have i3 := idx_last' hn (by lia)
  have hlo2 := lenOk_of (show b.length ≤ 100000 by lia)
  have n1 : cmpV .NotEq (L []) (.list []) = some false := ne_nn
  have n2 : cmpV .NotEq (L [1]) (.list [.int 1]) = some false := ne_11 1
  unfold runF
  rw [hps, show ownsAt 37 = [] from rfl]
  conv => lhs; arg 1; arg 4; whnf
  refine go_step (σ1 := setS (setS (setS (setAllV (fun _ => none) [("a" : Str), "b", "p"] [L a, L b, .int P.1]) "common" (.val (L g))) "s" (.val (L s))) "t" (.val (L t))) (by simp only [bind2_some, valO_val, consO_eq, asgE_tup, ev_name, ev_call, isB, str_beq, String.reduceBEq, Bool.or_self, el_nil, el_cons, xs_tcall, setAllV, setAllS, setS, str_inj, nm_nil, nm_cons, Option.bind_some, Option.map_some, ↓reduceIte, eq_self, String.reduceEq, c1, List.length_cons, List.length_nil, List.map_cons, List.map_nil]) ?_
  generalize hσ : setS (setS (setS (setAllV (fun _ => none) [("a" : Str), "b", "p"] [L a, L b, .int P.1]) "common" (.val (L g))) "s" (.val (L s))) "t" (.val (L t)) = σ
  have s1 : σ "a" = some (.val (L a)) := by rw [← hσ]; simp only [setAllV, setS, str_inj, ↓reduceIte, eq_self, String.reduceEq]
  have s2 : σ "b" = some (.val (L b)) := by rw [← hσ]; simp only [setAllV, setS, str_inj, ↓reduceIte, eq_self, String.reduceEq]
  have s3 : σ "p" = some (.val (.int P.1)) := by rw [← hσ]; simp only [setAllV, setS, str_inj, ↓reduceIte, eq_self, String.reduceEq]
  have s4 : σ "common" = some (.val (L g)) := by rw [← hσ]; simp only [setS, str_inj, ↓reduceIte, eq_self, String.reduceEq]
  have s5 : σ "s" = some (.val (L s)) := by rw [← hσ]; simp only [setS, str_inj, ↓reduceIte, eq_self, String.reduceEq]
  have s6 : σ "t" = some (.val (L t)) := by rw [← hσ]; simp only [setS, ↓reduceIte, eq_self]
  refine go_if (c := false) (by simp only [bind2_some, valO_val, negV_int, consO_eq, orO_f, ev_int, ev_name, ev_neg, evB_name, ix_neg, ev_call, isB, str_beq, String.reduceBEq, Bool.or_self, el_nil, el_cons, et_cmp, et_and, ts_nil, ts_or, Slot.data, cmpNeI, cmpNeL, Option.bind_some, Option.map_some, decide_true, eq_self, Bool.not_true, s1, s2, s3, s4, s5, s6, c2, c3, c4, c5, i1]; rfl) ?_
  refine go_if (c := false) (by simp only [bind2_some, valO_val, consO_eq, orO_f, ev_name, ev_list, ev_call, isB, str_beq, String.reduceBEq, Bool.or_self, el_nil, el_cons, et_cmp, et_and, ts_nil, ts_or, cmpNeL, Option.bind_some, Option.map_some, decide_true, eq_self, Bool.not_true, s1, s2, s3, s4, c6, c7, c8, n1]; rfl) ?_
  refine go_if (c := false) (by simp only [bind2_some, valO_val, consO_eq, orO_f, ev_int, ev_name, ev_list, ev_call, isB, str_beq, String.reduceBEq, Bool.or_self, el_nil, el_cons, et_cmp, et_and, ts_nil, ts_or, cmpNeL, Option.bind_some, Option.map_some, decide_true, eq_self, Bool.not_true, s1, s2, s3, s4, c9, c10, c11, c12, c13, c14, n2]; rfl) ?_
  refine go_if (c := false) (by simp only [bind2_some, valO_val, consO_eq, orO_f, ev_name, ev_list, ev_call, isB, str_beq, String.reduceBEq, Bool.or_self, el_nil, el_cons, et_cmp, et_and, ts_nil, ts_or, cmpNeL, Option.bind_some, Option.map_some, decide_true, eq_self, Bool.not_true, s1, s3, c15, c16, c17, c18, ne_nn]; rfl) ?_
  refine go_if (c := false) (by simp only [bind2_some, valO_val, consO_eq, orO_f, ev_int, ev_none, ev_name, ev_bin, ev_list, ev_call, isB, str_beq, String.reduceBEq, Bool.or_self, el_nil, el_cons, et_cmp, et_and, ts_nil, ts_or, binSub, Option.bind_some, Option.map_some, Bool.not_true, s1, s3, c19, c20, ne_11, isnot_none, isNoneV]; rfl) ?_
  refine go_if (c := false) (by simp only [bind2_some, valO_val, negV_int, consO_eq, orO_f, ev_int, ev_name, ev_neg, ev_list, ev_tup, evB_call, ix_neg, ev_call, isB, str_beq, String.reduceBEq, Bool.or_self, el_nil, el_cons, et_cmp, et_and, ts_nil, ts_or, cmpNeI, Option.bind_some, Option.map_some, decide_true, eq_self, Bool.not_true, s1, s3, c21, c22, c18, i2, t3_nil, ne_nn]; rfl) ?_
  refine go_if (c := false) (by simp only [bind2_some, valO_val, negV_int, consO_eq, orO_f, ev_int, ev_none, ev_name, ev_neg, ev_list, evB_name, ix_neg, ev_call, isB, str_beq, String.reduceBEq, Bool.or_self, el_nil, el_cons, et_cmp, et_and, ts_nil, ts_or, Slot.data, cmpNeL, Option.bind_some, Option.map_some, decide_true, eq_self, Bool.not_true, s1, s3, c18, i3, c23, c24, isnot_none, isNoneV]; rfl) ?_
  have last : ∀ σ' : Sto, σ' "a" = some (.val (L a)) → σ' "p" = some (.val (.int P.1)) → True := fun _ _ _ => trivial
  by_cases hb1 : 1 < b.length
  · have hb1' : (1 : Int) < (b.length : Int) := by lia
    refine go_if (c := true) (by simp only [bind2_some, lenV_list, ev_int, evB_name, ev_len, et_cmp, Slot.data, cmpGt, Option.bind_some, Option.map_some, decide_true, ↓reduceIte, eq_self, s2, List.length_map, hlo2, hb1']) ?_
    refine go_step (σ1 := setS σ "told" (.val (optD (minvL P.1 a b)))) (by simp only [bind2_some, valO_val, consO_eq, stoS_some, ev_name, ev_call, isB, str_beq, String.reduceBEq, Bool.or_self, el_nil, el_cons, xs_name, slotV_val, List.contains_nil, Option.bind_some, Option.map_some, eq_self, s1, s2, s3, c25]) ?_
    by_cases hg1 : g = [1]
    · (refine e1_4 ?_ (v2 hg1); intro r w1 w2 w3 w4)
      have mr := mulL_length P.1 r a
      have c28 := mul_ok (S := S) P.2 (show 11 ≤ 31 by lia) (by lia) r a w2 ha (by lia) (by lia)
      have c29 := rest_ok (S := S) P.2 (show 13 ≤ 31 by lia) (by lia) (mulL P.1 r a) b (mulL_good (by lia) _ _) hb hn2 (by lia) (by lia)
      rw [w4 hb1] at c29
      have hlr := lenOk_of (show r.length ≤ 100000 by lia)
      have hge : ¬ (b.length : Int) ≤ (r.length : Int) := by lia
      rw [w1]
      have q1 := ne_L1 g 1
      rw [hg1] at q1
      refine go_if (c := false) (by simp only [bind2_some, valO_val, cmpB_eq, consO_eq, ev_int, ev_none, ev_name, ev_cmp, ev_list, el_nil, el_cons, et_cmp, setS, str_inj, Option.map_some, decide_true, ↓reduceIte, eq_self, String.reduceEq, Bool.not_true, s4, hg1, optD, is_none, isNoneV, q1, ne_bool]; rfl) ?_
      refine go_if (c := false) (by simp only [bind2_some, valO_val, lenV_list, consO_eq, andO_t, orO_f, ev_int, ev_none, ev_name, ev_list, evB_name, ev_call, ev_len, isB, str_beq, String.reduceBEq, Bool.or_self, el_nil, el_cons, et_cmp, et_and, ts_nil, ts_and, ts_or, setS, str_inj, Slot.data, cmpGe, Option.bind_some, Option.map_some, decide_false, ↓reduceIte, eq_self, String.reduceEq, Bool.not_false, s1, s2, s3, optD, isnot_none, isNoneV, c28, c29, n2, List.length_map, hlr, hlo2, hge]; rfl) ?_
      exact go_retE (by simp only [bind2_some, valO_val, cmpB_eq, consO_eq, andO_t, ev_int, ev_name, ev_bin, ev_cmp, ev_and, ev_list, ev_call, isB, str_beq, String.reduceBEq, Bool.or_self, el_nil, el_cons, bs_one, bs_and, setS, relS, str_inj, Slot.data, boolOf_bool, binSub, Option.bind_some, Option.map_some, ↓reduceIte, eq_self, String.reduceEq, s1, s3, c26, c27, eq_11, eq_nn])
    · rw [v1 hg1]
      have q1 := ne_L1 g 1
      refine go_if (c := false) (by simp only [bind2_some, valO_val, cmpB_eq, consO_eq, ev_int, ev_none, ev_name, ev_cmp, ev_list, el_nil, el_cons, et_cmp, setS, str_inj, Option.map_some, decide_false, ↓reduceIte, eq_self, String.reduceEq, Bool.not_false, s4, optD, is_none, isNoneV, q1, ne_bool, hg1]; rfl) ?_
      refine go_if (c := false) (by simp only [bind2_some, valO_val, consO_eq, andO_f, ev_int, ev_none, ev_name, ev_list, evB_name, ev_call, ev_len, isB, str_beq, String.reduceBEq, Bool.or_self, el_nil, el_cons, et_cmp, et_and, ts_nil, ts_and, ts_or, setS, str_inj, Slot.data, Option.bind_some, Option.map_some, ↓reduceIte, eq_self, String.reduceEq, Bool.not_true, optD, isnot_none, isNoneV]) ?_
      exact go_retE (by simp only [bind2_some, valO_val, cmpB_eq, consO_eq, andO_t, ev_int, ev_name, ev_bin, ev_cmp, ev_and, ev_list, ev_call, isB, str_beq, String.reduceBEq, Bool.or_self, el_nil, el_cons, bs_one, bs_and, setS, relS, str_inj, Slot.data, boolOf_bool, binSub, Option.bind_some, Option.map_some, ↓reduceIte, eq_self, String.reduceEq, s1, s3, c26, c27, eq_11, eq_nn])
  · have hb1' : ¬ (1 : Int) < (b.length : Int) := by lia
    refine go_if (c := false) (by simp only [bind2_some, lenV_list, ev_int, evB_name, ev_len, et_cmp, Slot.data, cmpGt, Option.bind_some, Option.map_some, decide_false, ↓reduceIte, eq_self, s2, List.length_map, hlo2, hb1']) ?_
    exact go_retE (by simp only [bind2_some, valO_val, cmpB_eq, consO_eq, andO_t, ev_int, ev_name, ev_bin, ev_cmp, ev_and, ev_list, ev_call, isB, str_beq, String.reduceBEq, Bool.or_self, el_nil, el_cons, bs_one, bs_and, relS, Slot.data, boolOf_bool, binSub, Option.bind_some, Option.map_some, eq_self, s1, s3, c26, c27, eq_11, eq_nn])
end
end Mine
end
noncomputable section
open PySem PySem.W PyProof.Rows PySem.Calls PySem.Spec
set_option Elab.async false
set_option linter.all false
namespace Mine

noncomputable def UpTo (M : Int) (l : List Int) : Prop := ∀ x ∈ l, 0 ≤ x ∧ x ≤ M
theorem upTo_padd : ∀ (a b : List Int) (M N : Int), 0 ≤ M → 0 ≤ N → UpTo M a → UpTo N b → UpTo (M + N) (padd a b)
  | [], b, M, N, h1, h2, _, hb => fun x hx => by have := hb x (by simpa [padd] using hx); lia
  | x :: a, [], M, N, h1, h2, ha, _ => fun y hy => by have := ha y (by simpa [padd] using hy); lia
  | x :: a, y :: b, M, N, h1, h2, ha, hb => fun z hz => by
    simp only [padd, List.mem_cons] at hz
    rcases hz with rfl | hz
    · have := ha x (by simp); have := hb y (by simp); lia
    · exact upTo_padd a b M N h1 h2 (fun x hx => ha x (by simp [hx])) (fun x hx => hb x (by simp [hx])) z hz
theorem upTo_pmul {K : Int} (hK : 0 ≤ K) : ∀ (a b : List Int), UpTo K a → UpTo K b → UpTo (a.length * (K * K)) (pmul a b)
  | [], b, _, _ => fun x hx => by simp [pmul] at hx
  | x :: a, b, ha, hb => by
    have ih := upTo_pmul hK a b (fun x hx => ha x (by simp [hx])) hb
    have hx := ha x (by simp)
    have h1 : UpTo (K * K) (b.map (x * ·)) := fun y hy => by
      (refine e1_2 ?_ (List.mem_map.mp hy); intro z hz zz1; subst zz1)
      have := hb z hz
      exact ⟨Int.mul_nonneg hx.1 this.1, Int.mul_le_mul hx.2 this.2 this.1 hK⟩
    have hKK := Int.mul_nonneg hK hK
    have hl : (0 : Int) ≤ (a.length : Int) * (K * K) := Int.mul_nonneg (by lia) hKK
    have h2 : UpTo (a.length * (K * K)) (0 :: pmul a b) := fun y hy => by
      rcases List.mem_cons.mp hy with rfl | hy
      · lia
      · exact ih y hy
    have := upTo_padd _ _ _ _ hKK hl h1 h2
    rw [pmul]
    have e : (K * K) + (a.length : Int) * (K * K) = ((x :: a).length : Int) * (K * K) := by
      rw [List.length_cons]; push_cast; grind
    rw [← e]; exact this
theorem padd_length : ∀ (a b : List Int), (padd a b).length = max a.length b.length
  | [], b => by simp [padd]
  | x :: a, [] => by simp [padd]
  | x :: a, y :: b => by simp only [padd, List.length_cons, padd_length a b]; lia
theorem pmul_length : ∀ (a b : List Int), (pmul a b).length ≤ a.length + b.length
  | [], b => by simp [pmul]
  | x :: a, b => by
    have := pmul_length a b
    rw [pmul, padd_length]; simp; lia
theorem ev_lt : ∀ (l : List Int), InR 1000 l → ev l 1000 < 1000 ^ l.length
  | [], _ => by simp [ev]
  | x :: l, h => by
    have h1 := ev_lt l fun y hy => h y (by simp [hy])
    have h2 := h x (by simp)
    simp only [ev, List.length_cons, Int.pow_succ]; lia
theorem whole_small {l : List Int} (h : InR 1000 l) (hl : l.length ≤ 6) : smallI (ev l 1000) = true := by
  have h1 := ev_lt l h
  have h2 := ev_nonneg l fun x hx => (h x hx).1
  have h3 : (1000 : Int) ^ l.length ≤ 1000 ^ 6 := by
    have : l.length = 0 ∨ l.length = 1 ∨ l.length = 2 ∨ l.length = 3 ∨ l.length = 4 ∨ l.length = 5 ∨ l.length = 6 := by lia
    rcases this with h | h | h | h | h | h | h <;> rw [h] <;> decide
  refine smallI_iff.mpr ⟨by lia, ?_⟩
  have : (1000 : Int) ^ 6 < 2 ^ 62 := by decide
  lia
theorem good_r1000 {p : Int} (hp : PP p) {a : List Int} (h : Good p a) : InR 1000 a ∧ UpTo 4 a := by
  have := hp.pos
  exact ⟨fun x hx => by have := h.rng x hx; lia, fun x hx => by have := h.rng x hx; lia⟩
theorem ne_tup (a b : List Int) : cmpV .NotEq (.tuple [L a, L b]) (.tuple [L a, L b]) = some false := by
  have h : SeqAt.shaped (.tuple [L a, L b]) = true := by
    simp [SeqAt.shaped, PyData.canLay0, PyData.canLayAll0, PyData.depth, PyData.depthAll, canAll_ints, depthAll_ints]
  simp only [cmpV_ne, cmpV_eq, h, Bool.and_self, if_true, PyData.eqv, PyData.eqvAll, eqvAll_ints, decide_true, Bool.not_true]

section
variable {P : Prm} {a b : List Int}
theorem back_eq (ha : Good P.1 a) {l : List Int} (h : ∃ w : List Int, ∀ n, ev a n = ev l n + P.1 * ev w n) : trim (l.map fun x => x % P.1) = a := val_of ha h
theorem div_len_lt (hb : Good P.1 b) {x y : List Int} (hx : Good P.1 x) (hy : Good P.1 y) (h1 : x.length < b.length) (h2 : y.length < b.length) (h : @Dv _ (ringR P) (mk P b) (addR (mk P x) (negR (mk P y)))) : x = y := by
  letI := ringR P
  have hn : b ≠ [] := fun e => by rw [e] at h1; simp at h1
  have e1 := div_uniq hx hb hn good_nil hx h1 (by
    rw [mk_nil]; show mk P x = 0 * mk P b + mk P x; grind)
  have hd := h
  (refine e1_1 ?_ hd; clear hd; intro c hc)
  have hc' : mk P x + -mk P y = mk P b * c := hc
  have e2 := div_uniq hx hb hn c.2 hy h2 (by
    have : mk P c.1 = c := mk_val c
    rw [this]; show mk P x = c * mk P b + mk P y; grind)
  exact e1.2.symm.trans e2.2
/-- congruent to a power -/
structure IsPow (P : Prm) (A : Rg P) (f : List Int) (n : Nat) (x : List Int) : Prop where
  g : Good P.1 x
  l : x.length < f.length
  d : @Dv _ (ringR P) (mk P f) (addR (mk P x) (negR (powR A n)))
theorem IsPow.uniq {A : Rg P} {f : List Int} {n : Nat} {x y : List Int} (hf : Good P.1 f) (h : IsPow P A f n x) (k : IsPow P A f n y) : x = y := by
  letI := ringR P
  refine div_len_lt hf h.g k.g h.l k.l ?_
  (refine e1_1 ?_ h.d; intro c hc)
  (refine e1_1 ?_ k.d; intro d hd)
  have hc' : Mine.mk P x + -powR A n = Mine.mk P f * c := hc
  have hd' : Mine.mk P y + -powR A n = Mine.mk P f * d := hd
  refine ⟨c - d, ?_⟩
  show Mine.mk P x + -Mine.mk P y = Mine.mk P f * (c - d)
  grind
theorem rest_cong {f x : List Int} (hf : Good P.1 f) (hx : Good P.1 x) (hn : f ≠ []) : Good P.1 (restL P.1 x f) ∧ (restL P.1 x f).length < f.length ∧ @Dv _ (ringR P) (mk P f) (addR (mk P (restL P.1 x f)) (negR (mk P x))) := by
  letI := ringR P
  (refine e0_4 ?_ (div_spec P.2 hx hf hn); intro _ d2 d3 _)
  refine ⟨d2, d3, ?_⟩
  have e := mk_dm hx hf hn
  have e' : mk P x = mk P (quotL P.1 x f) * mk P f + mk P (restL P.1 x f) := e
  refine ⟨-(mk P (quotL P.1 x f)), ?_⟩
  show mk P (restL P.1 x f) + -mk P x = mk P f * -(mk P (quotL P.1 x f))
  grind
theorem isPow_zero {A : Rg P} {f : List Int} (hf : Good P.1 f) (hn : f ≠ []) : IsPow P A f 0 (restL P.1 [1] f) := by
  (refine e0_3 ?_ (rest_cong hf (good_one P.2) hn); intro h1 h2 h3)
  exact ⟨h1, h2, h3⟩
theorem isPow_step {f x : List Int} {n : Nat} (ha : Good P.1 a) (hf : Good P.1 f) (hn : f ≠ []) (h : IsPow P (mk P a) f n x) : IsPow P (mk P a) f (n + 1) (restL P.1 (mulL P.1 x a) f) := by
  letI := ringR P
  have hp := P.2.pos
  (refine e0_3 ?_ (rest_cong hf (mulL_good (p := P.1) (by lia) x a) hn); intro h1 h2 h3)
  refine ⟨h1, h2, ?_⟩
  rw [mk_mulL] at h3
  (refine e1_1 ?_ h3; clear h3; intro c hc)
  (refine e1_1 ?_ h.d; intro d hd)
  have hc' : mk P (restL P.1 (mulL P.1 x a) f) + -(mk P x * mk P a) = mk P f * c := hc
  have hd' : mk P x + -powR (mk P a) n = mk P f * d := hd
  refine ⟨c + d * mk P a, ?_⟩
  show mk P (restL P.1 (mulL P.1 x a) f) + -(powR (mk P a) n * mk P a) = mk P f * (c + d * mk P a)
  grind
theorem powF_spec {A : Rg P} {f : List Int} (hf : Good P.1 f) (hn : f ≠ []) : ∀ (k : Nat) (found sq : List Int) (n N : Nat), n < k → Good P.1 found → Good P.1 sq → found.length < f.length → sq.length < f.length →
    @Dv _ (ringR P) (mk P f) (addR (mulR (mk P found) (powR (mk P sq) n)) (negR (powR A N))) → IsPow P A f N (powF P.1 f k found sq n)
  | 0, _, _, _, _, h, _, _, _, _, _ => absurd h (Nat.not_lt_zero _)
  | k + 1, found, sq, n, N, h, g1, g2, l1, l2, hd => by
    letI := ringR P
    have hp := P.2.pos
    rw [powF_s]
    by_cases h0 : n = 0
    · rw [if_pos h0]
      subst h0
      refine ⟨g1, l1, ?_⟩
      (refine e1_1 ?_ hd; clear hd; intro c hc)
      have hc' : mk P found * (1 : Rg P) + -powR A N = mk P f * c := hc
      exact ⟨c, by show mk P found + -powR A N = mk P f * c; grind⟩
    · rw [if_neg h0]
      have m1 := rest_cong hf (mulL_good (p := P.1) (by lia) found sq) hn
      have m2 := rest_cong hf (mulL_good (p := P.1) (by lia) sq sq) hn
      have hfound : ∃ F : List Int, F = (if n % 2 = 1 then restL P.1 (mulL P.1 found sq) f else found) ∧ Good P.1 F ∧ F.length < f.length ∧ ∃ c : Rg P, mk P F = mk P found * mk P sq ^ (n % 2) + mk P f * c := by
        refine ⟨_, rfl, ?_⟩
        by_cases ho : n % 2 = 1
        · rw [if_pos ho, ho]
          refine ⟨m1.1, m1.2.1, ?_⟩
          have m3 := m1.2.2
          rw [mk_mulL] at m3
          (refine e1_1 ?_ m3; clear m3; intro c hc)
          have hc' : mk P (restL P.1 (mulL P.1 found sq) f) + -(mk P found * mk P sq) = mk P f * c := hc
          exact ⟨c, by grind⟩
        · rw [if_neg ho, show n % 2 = 0 by lia]
          exact ⟨g1, l1, 0, by grind⟩
      (refine e1_4 ?_ hfound; clear hfound; intro F hF gF lF zz1; refine e1_1 ?_ zz1; clear zz1; intro c hc)
      rw [← hF]
      have hsq : ∃ Q : List Int, Q = (if 0 < n / 2 then restL P.1 (mulL P.1 sq sq) f else sq) ∧ Good P.1 Q ∧ Q.length < f.length ∧ ∃ d : Rg P, mk P Q ^ (n / 2) = mk P sq ^ (2 * (n / 2)) + mk P f * d := by
        refine ⟨_, rfl, ?_⟩
        by_cases ho : 0 < n / 2
        · rw [if_pos ho]
          refine ⟨m2.1, m2.2.1, ?_⟩
          have m3 := m2.2.2
          rw [mk_mulL] at m3
          (refine e1_1 ?_ m3; clear m3; intro c hc)
          have hc' : mk P (restL P.1 (mulL P.1 sq sq) f) + -(mk P sq * mk P sq) = mk P f * c := hc
          have key : ∀ j : Nat, ∃ d : Rg P, mk P (restL P.1 (mulL P.1 sq sq) f) ^ j = mk P sq ^ (2 * j) + mk P f * d := by
            intro j
            induction j with
            | zero => exact ⟨0, by grind⟩
            | succ j ih =>
              (refine e1_1 ?_ ih; clear ih; intro d hd)
              have e1 : mk P (restL P.1 (mulL P.1 sq sq) f) ^ (j + 1) = mk P (restL P.1 (mulL P.1 sq sq) f) ^ j * mk P (restL P.1 (mulL P.1 sq sq) f) := by grind
              have e2 : mk P sq ^ (2 * (j + 1)) = mk P sq ^ (2 * j) * (mk P sq * mk P sq) := by
                rw [show 2 * (j + 1) = 2 * j + 2 by lia, rpow_add]; grind
              refine ⟨d * (mk P sq * mk P sq) + (mk P sq ^ (2 * j) + mk P f * d) * c, ?_⟩
              rw [e1, e2, hd]
              have e3 : mk P (restL P.1 (mulL P.1 sq sq) f) = mk P sq * mk P sq + mk P f * c := by grind
              rw [e3]; grind
          exact key (n / 2)
        · rw [if_neg ho, show n / 2 = 0 by lia]
          exact ⟨g2, l2, 0, by grind⟩
      (refine e1_4 ?_ hsq; clear hsq; intro Q hQ gQ lQ zz1; refine e1_1 ?_ zz1; clear zz1; intro d hd2)
      rw [← hQ]
      refine powF_spec hf hn k F Q (n / 2) N (by lia) gF gQ lF lQ ?_
      (refine e1_1 ?_ hd; clear hd; intro e he)
      have he' : mk P found * mk P sq ^ n + -powR A N = mk P f * e := he
      have hn2 : mk P sq ^ n = mk P sq ^ (n % 2) * mk P sq ^ (2 * (n / 2)) := by
        rw [← rpow_add]; congr 1; lia
      refine ⟨e + mk P found * mk P sq ^ (n % 2) * d + c * (mk P sq ^ (2 * (n / 2)) + mk P f * d), ?_⟩
      show mk P F * mk P Q ^ (n / 2) + -powR A N = _
      rw [hc, hd2]
      rw [hn2] at he'
      grind
theorem powL_isPow {f : List Int} (ha : Good P.1 a) (hf : Good P.1 f) (hn : f ≠ []) (n : Nat) (hn2 : n < 900) : IsPow P (mk P a) f n (powL P.1 a n f) := by
  letI := ringR P
  (refine e0_3 ?_ (rest_cong hf (good_one P.2) hn); intro h1 h2 h3)
  (refine e0_3 ?_ (rest_cong hf ha hn); intro k1 k2 k3)
  refine powF_spec hf hn 1000 _ _ n n (by lia) h1 k1 h2 k2 ?_
  (refine e1_1 ?_ h3; clear h3; intro c hc)
  (refine e1_1 ?_ k3; clear k3; intro d hd)
  have hc' : mk P (restL P.1 [1] f) + -(1 : Rg P) = mk P f * c := hc
  have hd' : mk P (restL P.1 a f) + -mk P a = mk P f * d := hd
  have key : ∀ j : Nat, ∃ e : Rg P, mk P (restL P.1 a f) ^ j = mk P a ^ j + mk P f * e := by
    intro j
    induction j with
    | zero => exact ⟨0, by grind⟩
    | succ j ih =>
      (refine e1_1 ?_ ih; clear ih; intro e he)
      have e1 : mk P (restL P.1 a f) ^ (j + 1) = mk P (restL P.1 a f) ^ j * mk P (restL P.1 a f) := by grind
      have e2 : mk P a ^ (j + 1) = mk P a ^ j * mk P a := by grind
      have e3 : mk P (restL P.1 a f) = mk P a + mk P f * d := by grind
      refine ⟨e * mk P a + (mk P a ^ j + mk P f * e) * d, ?_⟩
      rw [e1, e2, he, e3]; grind
  (refine e1_1 ?_ (key n); intro e he)
  refine ⟨e + c * (mk P a ^ n + mk P f * e), ?_⟩
  show mk P (restL P.1 [1] f) * mk P (restL P.1 a f) ^ n + -(mk P a ^ n) = _
  have e4 : mk P (restL P.1 [1] f) = 1 + mk P f * c := by grind
  rw [he, e4]; grind
end
end Mine
end
noncomputable section
open PySem PySem.W PyProof.Rows PySem.Calls PySem.Spec
set_option Elab.async false
set_option linter.all false
namespace Mine

section
variable {S : List PyData → Option PyData} {P : Prm}
theorem good_snoc1 {p : Int} (hp : PP p) {a : List Int} (ha : Good p a) : Good p (a ++ [1]) := by
  have := hp.pos
  refine ⟨fun x hx => ?_, trim_snoc_ne (by decide) _⟩
  rcases List.mem_append.mp hx with hx | hx
  · exact ha.rng x hx
  · simp at hx; lia
theorem run36 (a b : List Int) (ha : Good P.1 a) (hb : Good P.1 b) (hn : a ≠ []) (hn2 : b ≠ []) (hl : a.length ≤ 5) (hl2 : b.length ≤ 5) : runF 36 (Pre S 30) [L a, L b, .int P.1] = some (.bool true) := by
  have hps : psOf (fdef 36) = [("a" : Str), "b", "p"] := by rfl
  have hp := P.2.pos
  letI := ringR P
  have hal := List.length_pos_iff.mpr hn
  have hbl := List.length_pos_iff.mpr hn2
  have gm := good_m1 (P := P)
  have hnil : mk P [] = (0 : Rg P) := mk_nil
  have hone : mk P [1] = (1 : Rg P) := rfl
  have c1 := div_ok (S := S) P.2 (show 12 ≤ 30 by lia) (by lia) a b ha hb hn2 (by lia) (by lia)
  have c2 := quot_ok (S := S) P.2 (show 14 ≤ 30 by lia) (by lia) a b ha hb hn2 (by lia) (by lia)
  have c3 := rest_ok (S := S) P.2 (show 13 ≤ 30 by lia) (by lia) a b ha hb hn2 (by lia) (by lia)
  (refine e0_6 ?_ (div_spec P.2 ha hb hn2); intro d1 d2 d3 d4 d5 zz1; refine e1_1 ?_ zz1; clear zz1; intro w hw)
  generalize hq : quotL P.1 a b = q at *
  generalize hr : restL P.1 a b = r at *
  -- one great whole number
  have c4 := whole_ok (S := S) (show 28 ≤ 30 by lia) (by lia) q (by lia)
  have c5 := whole_ok (S := S) (show 28 ≤ 30 by lia) (by lia) b (by lia)
  have c6 := whole_ok (S := S) (show 28 ≤ 30 by lia) (by lia) r (by lia)
  have hup : UpTo (q.length * (4 * 4) + 4) (padd (pmul q b) r) := upTo_padd _ _ _ _ (Int.mul_nonneg (by lia) (by lia)) (by lia) (upTo_pmul (by lia) q b (good_r1000 P.2 d1).2 (good_r1000 P.2 hb).2) (good_r1000 P.2 d2).2
  have hin : InR 1000 (padd (pmul q b) r) := fun x hx => by have := hup x hx; lia
  have hpl := pmul_length q b
  have hpl2 := padd_length (pmul q b) r
  have c7 := back_ok (S := S) P.2 (show 29 ≤ 30 by lia) (by lia) (padd (pmul q b) r) hin (by lia)
  rw [back_eq ha ⟨w, fun n => by rw [ev_padd, ev_pmul, hw]⟩, ev_padd, ev_pmul] at c7
  have hws := whole_small (good_r1000 P.2 hb).1 (by lia)
  -- divisions
  have c8 : Pre S 30 "mdivmod" [L a, L a, .int P.1] = some (.tuple [.list [.int 1], .list []]) := by
    have h := div_ok (S := S) P.2 (show 12 ≤ 30 by lia) (by lia) a a ha ha hn (by lia) (by lia)
    (refine e0_2 ?_ (div_uniq ha ha hn (good_one P.2) good_nil (by simpa using hal) (by rw [hnil]; show mk P a = 1 * mk P a + 0; grind)); intro e1 e2)
    rw [e1, e2] at h; exact h
  have c9 : Pre S 30 "mdivmod" [.list [], L b, .int P.1] = some (.tuple [.list [], .list []]) := by
    have h := div_ok (S := S) P.2 (show 12 ≤ 30 by lia) (by lia) [] b good_nil hb hn2 (by simp) (by lia)
    (refine e0_2 ?_ (div_uniq good_nil hb hn2 good_nil good_nil (by simpa using hbl) (by rw [hnil]; show (0 : Rg P) = 0 * mk P b + 0; grind)); intro e1 e2)
    rw [e1, e2] at h; exact h
  have hs1 := good_snoc1 P.2 ha
  have hs2 := good_snoc1 P.2 hb
  have am : ∀ x : List Int, PyData.list (x.map .int ++ [.int 1]) = L (x ++ [1]) := fun x => by simp [L]
  have c10 : Pre S 30 "mdivmod" [L a, L (a ++ [1]), .int P.1] = some (.tuple [.list [], L a]) := by
    have h := div_ok (S := S) P.2 (show 12 ≤ 30 by lia) (by lia) a (a ++ [1]) ha hs1 (by simp) (by lia) (by simp; lia)
    (refine e0_2 ?_ (div_uniq ha hs1 (by simp) good_nil ha (by simp) (by rw [hnil]; show mk P a = 0 * mk P (a ++ [1]) + mk P a; grind)); intro e1 e2)
    rw [e1, e2] at h; exact h
  have ml := mulL_length P.1 a b
  have gmu := mulL_good (p := P.1) (by lia) a b
  have c11 := mul_ok (S := S) P.2 (show 11 ≤ 30 by lia) (by lia) a b ha hb (by lia) (by lia)
  have c12 : Pre S 30 "mdivmod" [L (mulL P.1 a b), L b, .int P.1] = some (.tuple [L a, .list []]) := by
    have h := div_ok (S := S) P.2 (show 12 ≤ 30 by lia) (by lia) (mulL P.1 a b) b gmu hb hn2 (by lia) (by lia)
    (refine e0_2 ?_ (div_uniq gmu hb hn2 ha good_nil (by simpa using hbl) (by rw [mk_mulL, hnil]; show mk P a * mk P b = mk P a * mk P b + 0; grind)); intro e1 e2)
    rw [e1, e2] at h; exact h
  have c13 : Pre S 30 "mdivmod" [L a, .list [.int (P.1 - 1)], .int P.1] = some (.tuple [L (negL P.1 a), .list []]) := by
    have h := div_ok (S := S) P.2 (show 12 ≤ 30 by lia) (by lia) a [P.1 - 1] ha gm (by simp) (by lia) (by simp)
    have hm1 : mk P [P.1 - 1] = -(1 : Rg P) := by
      show mk P [P.1 - 1] = negR (mk P [((1 : Nat) : Int)])
      rw [mk_neg]
      exact mk_eq ⟨[1], fun n => by rw [ev_pneg]; simp only [ev]; push_cast; lia⟩
    (refine e0_2 ?_ (div_uniq ha gm (by simp) (neg_good (by lia) ha) good_nil (by simp) (by
      rw [mk_negL, hnil, hm1]
      show mk P a = -(mk P a) * -(1 : Rg P) + 0
      grind)); intro e1 e2)
    rw [e1, e2] at h; exact h
  have c14 := neg_ok (S := S) P.2 (show 8 ≤ 30 by lia) (by lia) a (by lia)
  have ml2 := mulL_length P.1 a (b ++ [1])
  have gmu2 := mulL_good (p := P.1) (by lia) a (b ++ [1])
  have hsl : (b ++ [1]).length = b.length + 1 := by simp
  have c15 := mul_ok (S := S) P.2 (show 11 ≤ 30 by lia) (by lia) a (b ++ [1]) ha hs2 (by lia) (by lia)
  have c16 := add_ok (S := S) P.2 (show 7 ≤ 30 by lia) (by lia) (mulL P.1 a (b ++ [1])) b (by lia) (by lia)
  have al := add_length P.1 (mulL P.1 a (b ++ [1])) b
  have gad := add_good (p := P.1) (by lia) (mulL P.1 a (b ++ [1])) b
  have c17 : Pre S 30 "mrest" [L (addL P.1 (mulL P.1 a (b ++ [1])) b), L (b ++ [1]), .int P.1] = some (L b) := by
    have h := rest_ok (S := S) P.2 (show 13 ≤ 30 by lia) (by lia) (addL P.1 (mulL P.1 a (b ++ [1])) b) (b ++ [1]) gad hs2 (by simp) (by lia) (by lia)
    (refine e0_2 ?_ (div_uniq gad hs2 (by simp) ha hb (by simp) (by rw [mk_addL, mk_mulL])); intro e1 e2)
    rw [e2] at h; exact h
  have c18 : Pre S 30 "mrest" [.list [.int 1], L b, .int P.1] = some (L (restL P.1 [1] b)) := rest_ok (S := S) P.2 (show 13 ≤ 30 by lia) (by lia) [1] b (good_one P.2) hb hn2 (by simp) (by lia)
  have c19 : Pre S 30 "mpower_mod" [L a, .int 0, .list [.int 1], .int P.1] = some (.list []) := by
    have h := pow_ok (S := S) P.2 (show 18 ≤ 30 by lia) (by lia) a [1] 0 ha (good_one P.2) (by simp) (by lia) (by simp) (by lia)
    have := (powL_isPow ha (good_one P.2) (by simp) 0 (by lia)).l
    have e : powL P.1 a 0 [1] = [] := by
      cases hx : powL P.1 a 0 [1] with
      | nil => rfl
      | cons _ _ => rw [hx] at this; simp at this
    rw [e] at h; exact h
  have g01 : Good P.1 [0, 1] := ⟨fun x hx => by simp at hx; lia, rfl⟩
  have c20 : Pre S 30 "mpower_mod" [.list [], .int 0, .list [.int 0, .int 1], .int P.1] = some (.list [.int 1]) := by
    have h := pow_ok (S := S) P.2 (show 18 ≤ 30 by lia) (by lia) [] [0, 1] 0 good_nil g01 (by simp) (by simp) (by simp) (by lia)
    have e : powL P.1 [] 0 [0, 1] = [1] := (powL_isPow good_nil g01 (by simp) 0 (by lia)).uniq g01 ⟨good_one P.2, by simp, 0, by
      show mk P [1] + -(1 : Rg P) = mk P [0, 1] * 0
      rw [hone]; grind⟩
    rw [e] at h; exact h
  have c21 : Pre S 30 "mpower_mod" [.list [], .int 2, L b, .int P.1] = some (.list []) := by
    have h := pow_ok (S := S) P.2 (show 18 ≤ 30 by lia) (by lia) [] b 2 good_nil hb hn2 (by simp) (by lia) (by lia)
    have e : powL P.1 [] 2 b = [] := (powL_isPow good_nil hb hn2 2 (by lia)).uniq hb ⟨good_nil, by simpa using hbl, 0, by
      show mk P [] + -((1 : Rg P) * mk P [] * mk P []) = mk P b * 0
      rw [hnil]; grind⟩
    rw [e] at h; exact h
  have hlo1 := lenOk_of (show r.length ≤ 100000 by lia)
  have hlo2 := lenOk_of (show b.length ≤ 100000 by lia)
  have hge : ¬ (b.length : Int) ≤ (r.length : Int) := by lia
  have t1 : cmpV .NotEq (.tuple [.list [.int 1], .list []]) (.tuple [.list [.int 1], .list []]) = some false := ne_tup [1] []
  have t2 : cmpV .NotEq (.tuple [.list [], .list []]) (.tuple [.list [], .list []]) = some false := ne_tup [] []
  have t3' : cmpV .NotEq (.tuple [.list [], L a]) (.tuple [.list [], L a]) = some false := ne_tup [] a
  have t4 : cmpV .NotEq (.tuple [L a, .list []]) (.tuple [L a, .list []]) = some false := ne_tup a []
  have t5 : cmpV .NotEq (.tuple [L (negL P.1 a), .list []]) (.tuple [L (negL P.1 a), .list []]) = some false := ne_tup _ []
  have lo3 : lenOk (a.length + 1) = true := lenOk_of (by lia)
  have lo4 : lenOk (b.length + 1) = true := lenOk_of (by lia)
  unfold runF
  rw [hps, show ownsAt 36 = [] from rfl]
  conv => lhs; arg 1; arg 4; whnf
  refine go_step (σ1 := setS (setS (setAllV (fun _ => none) [("a" : Str), "b", "p"] [L a, L b, .int P.1]) "quotient" (.val (L q))) "rest" (.val (L r))) (by simp only [bind2_some, valO_val, consO_eq, asgE_tup, ev_name, ev_call, isB, str_beq, String.reduceBEq, Bool.or_self, el_nil, el_cons, xs_tcall, setAllV, setAllS, setS, str_inj, nm_nil, nm_cons, Option.bind_some, Option.map_some, ↓reduceIte, eq_self, String.reduceEq, c1, List.length_cons, List.length_nil, List.map_cons, List.map_nil]) ?_
  generalize hσ : setS (setS (setAllV (fun _ => none) [("a" : Str), "b", "p"] [L a, L b, .int P.1]) "quotient" (.val (L q))) "rest" (.val (L r)) = σ
  have s1 : σ "a" = some (.val (L a)) := by rw [← hσ]; simp only [setAllV, setS, str_inj, ↓reduceIte, eq_self, String.reduceEq]
  have s2 : σ "b" = some (.val (L b)) := by rw [← hσ]; simp only [setAllV, setS, str_inj, ↓reduceIte, eq_self, String.reduceEq]
  have s3 : σ "p" = some (.val (.int P.1)) := by rw [← hσ]; simp only [setAllV, setS, str_inj, ↓reduceIte, eq_self, String.reduceEq]
  have s4 : σ "quotient" = some (.val (L q)) := by rw [← hσ]; simp only [setS, str_inj, ↓reduceIte, eq_self, String.reduceEq]
  have s5 : σ "rest" = some (.val (L r)) := by rw [← hσ]; simp only [setS, ↓reduceIte, eq_self]
  refine go_if (c := false) (by simp only [bind2_some, valO_val, lenV_list, consO_eq, orO_f, ev_name, ev_bin, evB_name, ev_call, ev_len, isB, str_beq, String.reduceBEq, Bool.or_self, el_nil, el_cons, et_cmp, et_and, ts_nil, ts_or, Slot.data, binAdd, cmpGe, cmpNeL, Option.bind_some, Option.map_some, decide_true, decide_false, ↓reduceIte, eq_self, Bool.not_true, s1, s2, s3, s4, s5, List.length_map, hlo1, hlo2, hge, c4, c5, c6, binMul hws, c7]; rfl) ?_
  refine go_if (c := false) (by simp only [bind2_some, valO_val, consO_eq, orO_f, ev_int, ev_name, ev_list, ev_tup, ev_call, isB, str_beq, String.reduceBEq, Bool.or_self, el_nil, el_cons, et_cmp, et_and, ts_nil, ts_or, cmpNeL, Option.bind_some, Option.map_some, decide_true, eq_self, Bool.not_true, s1, s2, s3, s4, s5, c2, c3, c8, t1]; rfl) ?_
  refine go_if (c := false) (by simp only [bind2_some, valO_val, consO_eq, orO_f, ev_int, ev_name, ev_bin, ev_list, ev_tup, ev_call, isB, str_beq, String.reduceBEq, Bool.or_self, el_nil, el_cons, et_cmp, et_and, ts_nil, ts_or, binAddL, Option.bind_some, Option.map_some, ↓reduceIte, eq_self, s1, s2, s3, c9, t2, List.length_map, List.length_cons, List.length_nil, Nat.zero_add, lo3, am, c10, t3', c11, c12, t4]; rfl) ?_
  refine go_if (c := false) (by simp only [bind2_some, valO_val, consO_eq, ev_int, ev_name, ev_bin, ev_list, ev_tup, ev_call, isB, str_beq, String.reduceBEq, Bool.or_self, el_nil, el_cons, et_cmp, binSub, Option.bind_some, Option.map_some, eq_self, s1, s3, c13, c14, t5]) ?_
  refine go_if (c := false) (by simp only [bind2_some, valO_val, consO_eq, ev_int, ev_name, ev_bin, ev_list, ev_call, isB, str_beq, String.reduceBEq, Bool.or_self, el_nil, el_cons, et_cmp, binAddL, cmpNeL, Option.bind_some, Option.map_some, decide_true, ↓reduceIte, eq_self, Bool.not_true, s1, s2, s3, List.length_map, List.length_cons, List.length_nil, Nat.zero_add, lo4, am, c15, c16, c17]) ?_
  refine go_step (σ1 := setS σ "step" (.val (L (restL P.1 [1] b)))) (by simp only [bind2_some, valO_val, consO_eq, stoS_some, ev_int, ev_name, ev_list, ev_call, isB, str_beq, String.reduceBEq, Bool.or_self, el_nil, el_cons, xs_name, slotV_val, List.contains_nil, Option.bind_some, Option.map_some, eq_self, s2, s3, c18]) ?_
  have hrng : rangeL 0 6 1 = (List.range 6).map fun (i : Nat) => PyData.int (i : Int) := rangeL_nat 6
  refine go_next (nx_for (items := (List.range 6).map fun (i : Nat) => PyData.int (i : Int)) (by simp only [bind2_some, consO_eq, ev_int, ev_range, el_nil, el_cons, items_list, items_tup, forItems, small_lit, Option.bind_some, Option.map_some, ↓reduceIte, eq_self, rangeV1, rangeV2, rangeV3, hrng])
    (fun k σ' => σ' "a" = some (.val (L a)) ∧ σ' "b" = some (.val (L b)) ∧ σ' "p" = some (.val (.int P.1)) ∧ ∃ st, σ' "step" = some (.val (L st)) ∧ IsPow P (mk P a) b k st) ?_ ?_ ?_)
  · exact ⟨by simp only [setS, str_inj, if_false, eq_self, String.reduceEq, s1], by simp only [setS, str_inj, if_false, eq_self, String.reduceEq, s2], by simp only [setS, str_inj, if_false, eq_self, String.reduceEq, s3], _, by simp only [setS, if_true, eq_self], isPow_zero hb hn2⟩
  · (intro k d σ' hd zz1; refine e0_4 ?_ zz1; clear zz1; intro q1 q2 q3 zz2; refine e1_2 ?_ zz2; clear zz2; intro st q4 q5)
    have hk : k < 6 := by have := (List.getElem?_eq_some_iff.mp hd).1; simpa using this
    have hd' : d = .int (k : Int) := by
      rw [List.getElem?_map, List.getElem?_range hk] at hd; exact (Option.some.inj hd).symm
    subst hd'
    have k1 := pow_ok (S := S) P.2 (show 18 ≤ 30 by lia) (by lia) a b k ha hb hn2 (by lia) (by lia) (by lia)
    have k2 := (powL_isPow ha hb hn2 k (by lia)).uniq hb q5
    rw [k2] at k1
    have hsl := q5.l
    have ml3 := mulL_length P.1 st a
    have k3 := mul_ok (S := S) P.2 (show 11 ≤ 30 by lia) (by lia) st a q5.g ha (by lia) (by lia)
    have k4 := rest_ok (S := S) P.2 (show 13 ≤ 30 by lia) (by lia) (mulL P.1 st a) b (mulL_good (by lia) _ _) hb hn2 (by lia) (by lia)
    refine ⟨setS σ' "many" (.val (.int (k : Int))), rfl, ?_⟩
    refine nx_cons (nx_if (c := false) (by simp only [bind2_some, valO_val, consO_eq, ev_name, ev_call, isB, str_beq, String.reduceBEq, Bool.or_self, el_nil, el_cons, et_cmp, setS, str_inj, cmpNeL, Option.bind_some, decide_true, ↓reduceIte, eq_self, String.reduceEq, Bool.not_true, q1, q2, q3, q4, k1]) ?_)
    simp only [Bool.false_eq_true, if_false]
    refine nx_nil ?_
    exact (nx_step (σ1 := setS (setS σ' "many" (.val (.int (k : Int)))) "step" (.val (L (restL P.1 (mulL P.1 st a) b)))) (by simp only [bind2_some, valO_val, consO_eq, stoS_some, ev_name, ev_call, isB, str_beq, String.reduceBEq, Bool.or_self, el_nil, el_cons, xs_name, slotV_val, List.contains_nil, setS, str_inj, Option.bind_some, Option.map_some, ↓reduceIte, eq_self, String.reduceEq, q1, q2, q3, q4, k3, k4]) (nx_nil ⟨by simp only [setS, str_inj, if_false, eq_self, String.reduceEq, q1], by simp only [setS, str_inj, if_false, eq_self, String.reduceEq, q2], by simp only [setS, str_inj, if_false, eq_self, String.reduceEq, q3], _, by simp only [setS, ↓reduceIte, eq_self], isPow_step ha hb hn2 q5⟩))
  · (intro σ' zz1; refine e0_4 ?_ zz1; clear zz1; intro q1 q2 q3 _)
    exact go_retE (by simp only [bind2_some, valO_val, cmpB_eq, consO_eq, andO_t, ev_int, ev_name, ev_cmp, ev_and, ev_list, ev_call, isB, str_beq, String.reduceBEq, Bool.or_self, el_nil, el_cons, bs_one, bs_and, relS, Slot.data, boolOf_bool, Option.bind_some, Option.map_some, eq_self, q1, q2, q3, c19, c20, c21, eq_nn, eq_11])
end
end Mine
end
noncomputable section
open PySem PySem.W PyProof.Rows PySem.Calls PySem.Spec
set_option Elab.async false
set_option linter.all false
namespace Mine

theorem sum_evx (x : Int) : ∀ (a : List Int) (j : Nat), sumI ((List.range a.length).map fun k => a.getD k 0 * x ^ (k + j)) = x ^ j * ev a x
  | [], j => by simp [sumI, ev]
  | y :: a, j => by
    have ih := sum_evx x a (j + 1)
    rw [List.length_cons, List.range_succ_eq_map, List.map_cons, List.map_map, sumI]
    have e : ((fun k => (y :: a).getD k 0 * x ^ (k + j)) ∘ Nat.succ) = fun k => a.getD k 0 * x ^ (k + (j + 1)) := by
      funext k
      simp only [Function.comp, Nat.succ_eq_add_one, List.getD_cons_succ]
      congr 2; lia
    rw [e, ih]
    simp only [List.getD_cons_zero, Nat.zero_add, ev, Int.pow_succ]
    grind
theorem matL_ev {p : Int} (hp : 0 < p) (x : Int) : ∀ a : List Int, matL p x a % p = ev a x % p
  | [] => rfl
  | y :: a => by
    rw [matL, ev, Int.emod_emod_of_dvd _ (Int.dvd_refl p), Int.add_emod, Int.mul_emod, matL_ev hp x a, ← Int.mul_emod, ← Int.add_emod]
    congr 1; grind
theorem matL_eq {p : Int} (hp : 0 < p) (x : Int) (a : List Int) : matL p x a = ev a x % p := by
  rw [← matL_ev hp]
  cases a with
  | nil => simp [matL]
  | cons y a => rw [matL, Int.emod_emod_of_dvd _ (Int.dvd_refl p)]
theorem small_pow4 {x : Int} {k : Nat} (hx : 0 ≤ x ∧ x < 5) (h : k < 6) : smallI (x ^ k) = true := by
  have this : ∀ a : Fin 5, ∀ b : Fin 6, smallI (((a.1 : Nat) : Int) ^ b.1) = true := by decide
  (refine e1_1 ?_ (Int.eq_ofNat_of_zero_le hx.1); intro n zz1; subst zz1)
  exact this ⟨n, by lia⟩ ⟨k, h⟩
noncomputable def powG (x : Int) : PyData → PyData := pairG fun k y => y * x ^ k.toNat
theorem powG_eq {x k y : Int} : powG x (.tuple [.int k, .int y]) = .int (y * x ^ k.toNat) := rfl
theorem spread_snoc (q : Nat) (x : Int) : ∀ t : List Int, spread q (t ++ [x]) = spread q t ++ (x :: List.replicate (q - 1) 0)
  | [] => by simp [spread]
  | c :: t => by rw [List.cons_append, spread, spread_snoc q x t, spread]; simp
theorem trim_getD : ∀ (l : List Int) (i : Nat), (trim l).getD i 0 = l.getD i 0
  | [], _ => rfl
  | x :: t, i => by
    rw [trim_cons]
    split
    · rename_i h
      cases i with
      | zero => simp [h.2]
      | succ i =>
        have := trim_getD t i
        rw [h.1] at this
        rw [List.getD_cons_succ, ← this]; simp
    · cases i with
      | zero => rfl
      | succ i => rw [List.getD_cons_succ, List.getD_cons_succ, trim_getD t i]
theorem spread_mem (q : Nat) : ∀ (t : List Int) (x : Int), x ∈ spread q t → x ∈ t ∨ x = 0
  | [], _, h => by simp [spread] at h
  | c :: t, x, h => by
    rw [spread] at h
    rcases List.mem_cons.mp h with h | h
    · left; simp [h]
    · rcases List.mem_append.mp h with h | h
      · right; exact List.eq_of_mem_replicate h
      · exact (spread_mem q t x h).imp (fun h => by simp [h]) id
theorem spread_length (q : Nat) (hq : 0 < q) : ∀ t : List Int, (spread q t).length = q * t.length
  | [] => rfl
  | c :: t => by
    rw [spread, List.length_cons, List.length_append, List.length_replicate, spread_length q hq t, List.length_cons, Nat.mul_add]; lia

section
variable {P : Prm} {a b : List Int}
theorem w_good (ha : Good P.1 a) : Good P.1 (trim (spread P.1.toNat a)) := good_trim fun x hx => by
  have := P.2.pos
  rcases spread_mem _ _ _ hx with h | h
  · exact ha.rng x h
  · lia
theorem w_der (ha : Good P.1 a) : derL P.1 (trim (spread P.1.toNat a)) = [] := by
  have hp := P.2.pos
  refine trim_zero _ fun x hx => ?_
  (refine e1_2 ?_ (List.mem_map.mp (List.mem_of_mem_drop hx)); intro k _ zz1; subst zz1)
  rw [trim_getD, spread_getD (by lia)]
  split
  · rename_i h
    (refine e1_1 ?_ (Nat.dvd_of_mod_eq_zero h); intro c hc)
    have : (k : Int) = P.1 * c := by rw [hc]; push_cast; rw [Int.toNat_of_nonneg (by lia)]
    rw [this, Int.mul_assoc]
    exact Int.mul_emod_right _ _
  · simp
theorem w_root (ha : Good P.1 a) : rootL P.1.toNat (trim (spread P.1.toNat a)) = a := by
  have hp := P.2.pos
  have hq : 0 < P.1.toNat := by lia
  refine mk_inj (root_good P.2 (w_good ha) (w_der ha)) ha (mk_ext (ev_getD _ _ fun i => ?_))
  rw [rootL_getD hq, trim_getD, spread_getD hq, Nat.mul_mod_left, if_pos rfl, Nat.mul_div_cancel _ hq]
theorem f_slopes (ha : Good P.1 a) (hb : Good P.1 b) : derL P.1 (mulL P.1 a b) = addL P.1 (mulL P.1 (derL P.1 a) b) (mulL P.1 a (derL P.1 b)) := by
  have hp := P.2.pos
  letI := ringR P
  have hd : ∀ x : List Int, mk P (derL P.1 x) = derR (mk P x) := fun x => by
    rw [derL_eq, mk_der]
    (refine e1_1 ?_ (nf_ev P.1 (pder x)); intro w hw)
    exact mk_eq ⟨w, hw⟩
  refine mk_inj (der_good P.2 _) (add_good (by lia) _ _) ?_
  rw [hd, mk_addL, mk_mulL, mk_mulL, mk_mulL, hd, hd]
  exact (euR P).D_mul _ _
theorem f_subself (ha : Good P.1 a) : subL P.1 a a = [] := by
  letI := ringR P
  refine mk_inj (sub_good P.2 _ _) good_nil ?_
  rw [mk_subL, mk_nil]
  show mk P a + -mk P a = 0
  grind
theorem f_addnil (hb : Good P.1 b) : addL P.1 [] b = b := by
  have hp := P.2.pos
  letI := ringR P
  refine mk_inj (add_good (by lia) _ _) hb ?_
  rw [mk_addL, mk_nil]
  show 0 + mk P b = mk P b
  grind
theorem f_negsub (ha : Good P.1 a) : negL P.1 a = subL P.1 [] a := by
  have hp := P.2.pos
  letI := ringR P
  refine mk_inj (neg_good (by lia) ha) (sub_good P.2 _ _) ?_
  rw [mk_negL, mk_subL, mk_nil]
  show -mk P a = 0 + -mk P a
  grind
theorem f_mulone (ha : Good P.1 a) : mulL P.1 a [1] = a ∧ mulL P.1 [1] a = a := by
  have hp := P.2.pos
  letI := ringR P
  refine ⟨mk_inj (mulL_good (by lia) _ _) ha ?_, mk_inj (mulL_good (by lia) _ _) ha ?_⟩
  · rw [mk_mulL]; show mk P a * 1 = mk P a; grind
  · rw [mk_mulL]; show 1 * mk P a = mk P a; grind
theorem f_scales (ha : Good P.1 a) : scaleL P.1 a P.1 = [] ∧ scaleL P.1 a (P.1 + 1) = a ∧ scaleL P.1 a (P.1 - 1) = negL P.1 a := by
  have hp := P.2.pos
  letI := ringR P
  refine ⟨mk_inj (scale_good (by lia) _ _) good_nil ?_, mk_inj (scale_good (by lia) _ _) ha ?_, mk_inj (scale_good (by lia) _ _) (neg_good (by lia) ha) ?_⟩
  · rw [mk_scaleL, char0, mk_nil]; show 0 * mk P a = 0; grind
  · rw [mk_scaleL]
    have : mk P [P.1 + 1] = (1 : Rg P) := mk_eq ⟨[1], fun n => by simp only [ev]; push_cast; grind⟩
    rw [this]; show 1 * mk P a = mk P a; grind
  · rw [mk_scaleL, mk_negL]
    have : mk P [P.1 - 1] = -(1 : Rg P) := by
      show mk P [P.1 - 1] = negR (mk P [((1 : Nat) : Int)])
      rw [mk_neg]
      exact mk_eq ⟨[1], fun n => by rw [ev_pneg]; simp only [ev]; push_cast; lia⟩
    rw [this]; show -(1 : Rg P) * mk P a = -mk P a; grind
end
end Mine
end
noncomputable section
open PySem PySem.W PyProof.Rows PySem.Calls PySem.Spec
set_option Elab.async false
set_option linter.all false
namespace Mine

theorem rep0 : ∀ n : Nat, (List.replicate n [PyData.int 0]).flatten = (List.replicate n (0 : Int)).map .int
  | 0 => rfl
  | n + 1 => by rw [List.replicate_succ, List.flatten_cons, rep0 n]; rfl
theorem ne_ord (n : Int) (a : List Int) : cmpV .NotEq (.tuple [.int n, L a]) (.tuple [.int n, L a]) = some false := by
  have h : SeqAt.shaped (.tuple [.int n, L a]) = true := by
    simp [SeqAt.shaped, PyData.canLay0, PyData.canLayAll0, PyData.depth, PyData.depthAll, canAll_ints, depthAll_ints]
  simp only [cmpV_ne, cmpV_eq, h, Bool.and_self, if_true, PyData.eqv, PyData.eqvAll, eqvAll_ints, decide_true, BEq.rfl, Bool.not_true]
theorem red_p {p : Int} (hp : PP p) : trim ([p, -1, 2 * p, 0 - p].map fun x => x % p) = [0, p - 1] ∧ derL p [0, 0, 1] = trim [0, 2 % p] ∧ derL p [1] = [] := by
  rcases hp with rfl | rfl | rfl <;> refine ⟨?_, ?_, ?_⟩ <;> decide +kernel
section
variable {S : List PyData → Option PyData} {P : Prm}
theorem run35 (a b : List Int) (ha : Good P.1 a) (hb : Good P.1 b) (hn : a ≠ []) (hn2 : b ≠ []) (hl : a.length ≤ 5) (hl2 : b.length ≤ 5) : runF 35 (Pre S 29) [L a, L b, .int P.1] = some (.bool true) := by
  have hps : psOf (fdef 35) = [("a" : Str), "b", "p"] := by rfl
  have hp := P.2.pos
  have hal := List.length_pos_iff.mpr hn
  have hbl := List.length_pos_iff.mpr hn2
  have hone := good_one P.2
  (refine e0_3 ?_ (red_p P.2); intro rp1 rp2 rp3)
  have ra := good_r1000 P.2 ha
  have rb := good_r1000 P.2 hb
  have wa := whole_ok (S := S) (show 28 ≤ 29 by lia) (by lia) a (by lia)
  have wb := whole_ok (S := S) (show 28 ≤ 29 by lia) (by lia) b (by lia)
  have hwsb := whole_small rb.1 (by lia)
  -- 1
  have c1 := add_ok (S := S) P.2 (show 7 ≤ 29 by lia) (by lia) a b (by lia) (by lia)
  have in1 : InR 1000 (padd a b) := fun x hx => by have := upTo_padd a b 4 4 (by lia) (by lia) ra.2 rb.2 x hx; lia
  have l1 := padd_length a b
  have c2 := back_ok (S := S) P.2 (show 29 ≤ 29 by lia) (by lia) (padd a b) in1 (by lia)
  have ae := add_ev P.1 a b
  rw [back_eq (add_good (by lia) a b) (let ⟨w, h⟩ := ae; ⟨w, fun n => by rw [h, ev_padd]⟩), ev_padd] at c2
  have c3 := mul_ok (S := S) P.2 (show 11 ≤ 29 by lia) (by lia) a b ha hb (by lia) (by lia)
  have in2 : InR 1000 (pmul a b) := fun x hx => by have := upTo_pmul (K := 4) (by lia) a b ra.2 rb.2 x hx; lia
  have l2 := pmul_length a b
  have c4 := back_ok (S := S) P.2 (show 29 ≤ 29 by lia) (by lia) (pmul a b) in2 (by lia)
  have gm := mulL_good (p := P.1) (by lia) a b
  have me := mulL_ev P.1 a b
  rw [back_eq gm (let ⟨w, h⟩ := me; ⟨w, fun n => by rw [h, ev_pmul]⟩), ev_pmul] at c4
  -- 2
  have c5 := sub_ok (S := S) P.2 (show 9 ≤ 29 by lia) (by lia) a b (by lia) (by lia)
  have up3 : UpTo 16 (b.map ((P.1 - 1) * ·)) := fun x hx => by
    (refine e1_2 ?_ (List.mem_map.mp hx); intro y hy zz1; subst zz1)
    have := rb.2 y hy
    exact ⟨Int.mul_nonneg (by lia) this.1, Int.le_trans (Int.mul_le_mul (show P.1 - 1 ≤ 4 by lia) this.2 this.1 (by lia)) (by lia)⟩
  have in3 : InR 1000 (padd a (b.map ((P.1 - 1) * ·))) := fun x hx => by have := upTo_padd _ _ 4 16 (by lia) (by lia) ra.2 up3 x hx; lia
  have l3 := padd_length a (b.map ((P.1 - 1) * ·))
  rw [List.length_map] at l3
  have c6 := back_ok (S := S) P.2 (show 29 ≤ 29 by lia) (by lia) (padd a (b.map ((P.1 - 1) * ·))) in3 (by lia)
  have se : ∃ w : List Int, ∀ n, ev (subL P.1 a b) n = ev (padd a (b.map ((P.1 - 1) * ·))) n + P.1 * ev w n := by
    (refine e1_1 ?_ (add_ev P.1 a (negL P.1 b)); intro w hw)
    (refine e1_1 ?_ (neg_ev P.1 b); intro u hu)
    exact ⟨padd (padd w u) (pneg b), fun n => by rw [subL, hw, hu, ev_padd, ev_padd, ev_padd, ev_pneg, ev_map]; grind⟩
  rw [back_eq (sub_good P.2 a b) se, ev_padd, ev_map] at c6
  have c7 := sub_ok (S := S) P.2 (show 9 ≤ 29 by lia) (by lia) a a (by lia) (by lia)
  rw [f_subself ha] at c7
  have c8 : Pre S 29 "madd" [.list [], L b, .int P.1] = some (L b) := by
    have h := add_ok (S := S) P.2 (show 7 ≤ 29 by lia) (by lia) [] b (by simp) (by lia)
    rw [f_addnil hb] at h; exact h
  -- 3
  have c9 := neg_ok (S := S) P.2 (show 8 ≤ 29 by lia) (by lia) a (by lia)
  have c10 : Pre S 29 "msub" [.list [], L a, .int P.1] = some (L (negL P.1 a)) := by
    have h := sub_ok (S := S) P.2 (show 9 ≤ 29 by lia) (by lia) [] a (by simp) (by lia)
    rw [← f_negsub ha] at h; exact h
  have c11 : Pre S 29 "mneg" [.list [], .int P.1] = some (.list []) := neg_ok (S := S) P.2 (show 8 ≤ 29 by lia) (by lia) [] (by simp)
  have c12 : Pre S 29 "mmul" [L a, .list [.int 1], .int P.1] = some (L a) := by
    have h := mul_ok (S := S) P.2 (show 11 ≤ 29 by lia) (by lia) a [1] ha hone (by lia) (by simp)
    rw [(f_mulone ha).1] at h; exact h
  -- 4
  have c13 : Pre S 29 "mmul" [L a, .list [], .int P.1] = some (.list []) := by
    have h := mul_ok (S := S) P.2 (show 11 ≤ 29 by lia) (by lia) a [] ha good_nil (by lia) (by simp)
    rw [mulL, if_pos (.inr rfl)] at h; exact h
  have c14 : Pre S 29 "mmul" [.list [], L b, .int P.1] = some (.list []) := by
    have h := mul_ok (S := S) P.2 (show 11 ≤ 29 by lia) (by lia) [] b good_nil hb (by simp) (by lia)
    rw [mulL, if_pos (.inl rfl)] at h; exact h
  -- 5
  (refine e0_3 ?_ (f_scales ha); intro sc1 sc2 sc3)
  have c15 := scale_ok (S := S) P.2 (show 10 ≤ 29 by lia) (by lia) a P.1 (by lia) (by lia)
  have c16 := scale_ok (S := S) P.2 (show 10 ≤ 29 by lia) (by lia) a (P.1 + 1) (by lia) (by lia)
  have c17 := scale_ok (S := S) P.2 (show 10 ≤ 29 by lia) (by lia) a (P.1 - 1) (by lia) (by lia)
  rw [sc1] at c15
  rw [sc2] at c16
  rw [sc3] at c17
  have c18 : Pre S 29 "mscale" [.list [], .int 3, .int P.1] = some (.list []) := scale_ok (S := S) P.2 (show 10 ≤ 29 by lia) (by lia) [] 3 (by lia) (by simp)
  -- 6
  have am2 : PyData.list (a.map .int ++ [.int 0, .int 0]) = L (a ++ [0, 0]) := by simp [L]
  have tk := trim_ok (S := S) (show 3 ≤ 29 by lia) (by lia)
  have c19 := tk (a ++ [0, 0]) (by simp; lia)
  rw [trim_app_zero a [0, 0] (by simp), ha.tr] at c19
  have c20 : Pre S 29 "mtrim" [.list [.int 0]] = some (.list []) := tk [0] (by simp)
  have c21 : Pre S 29 "mtrim" [.list []] = some (.list []) := tk [] (by simp)
  have c22 : Pre S 29 "mreduce" [.list [.int P.1, .int (-1), .int (2 * P.1), .int (0 - P.1)], .int P.1] = some (.list [.int 0, .int (P.1 - 1)]) := by
    have h := reduce_ok (S := S) P.2 (show 4 ≤ 29 by lia) (by lia) [P.1, -1, 2 * P.1, 0 - P.1] (by simp)
    rw [rp1] at h; exact h
  have n6 : cmpV .NotEq (.list [.int 0, .int (P.1 - 1)]) (.list [.int 0, .int (P.1 - 1)]) = some false := ne_self [0, P.1 - 1]
  -- 7
  have dk := deg_ok (S := S) (show 5 ≤ 29 by lia) (by lia)
  have c23 : Pre S 29 "mdegree" [.list []] = some (.int (-1)) := dk [] (by simp)
  have c24 : Pre S 29 "mdegree" [.list [.int 1]] = some (.int 0) := dk [.int 1] (by simp)
  have c25 : Pre S 29 "mlead" [.list []] = some (.int 0) := lead_ok (S := S) (show 6 ≤ 29 by lia) (by lia) [] (by simp)
  have c26 := lead_ok (S := S) (show 6 ≤ 29 by lia) (by lia) a (by lia)
  have n7 : cmpV .NotEq (.list [.int (-1), .int 0, .int 0, .int (lead a)]) (.list [.int (-1), .int 0, .int 0, .int (lead a)]) = some false := ne_self [-1, 0, 0, lead a]
  have i7 := idx_last' hn (by lia)
  have c27 := order_ok (S := S) (show 20 ≤ 29 by lia) (by lia) a (by lia)
  -- 8
  have c28 : Pre S 29 "mproduct" [.list [], .int P.1] = some (.list [.int 1]) := prod_ok (S := S) P.2 (show 19 ≤ 29 by lia) (by lia) [] (by simp) (fun k hk => by simp [prodL]) (by simp)
  have ml := mulL_length P.1 a b
  have ml2 := mulL_length P.1 (mulL P.1 a b) a
  have hm1 := (f_mulone ha).2
  have c29 : Pre S 29 "mproduct" [.list [L a, L b, L a], .int P.1] = some (L (mulL P.1 (mulL P.1 a b) a)) := by
    have h := prod_ok (S := S) P.2 (show 19 ≤ 29 by lia) (by lia) [a, b, a] (by intro o ho; simp at ho; rcases ho with rfl | rfl | rfl <;> assumption) (fun k hk => by
      have : k = 0 ∨ k = 1 ∨ k = 2 ∨ k = 3 := by simp at hk; lia
      rcases this with rfl | rfl | rfl | rfl <;> simp [prodL, hm1] <;> lia) (by intro o ho; simp at ho; rcases ho with rfl | rfl | rfl <;> lia)
    have e : prodL P.1 [a, b, a] = mulL P.1 (mulL P.1 a b) a := by simp [prodL, hm1]
    rw [e] at h; exact h
  have c30 := mul_ok (S := S) P.2 (show 11 ≤ 29 by lia) (by lia) (mulL P.1 a b) a gm ha (by lia) (by lia)
  have c31 : Pre S 29 "mat" [.list [], .int 2, .int P.1] = some (.int 0) := mat_ok (S := S) P.2 (show 17 ≤ 29 by lia) (by lia) [] 2 (by decide) (by simp)
  -- 11 .. 13
  have hq : 0 < P.1.toNat := by lia
  have hq5 : P.1.toNat ≤ 5 := by lia
  have sl := spread_length P.1.toNat hq a
  have slb : (spread P.1.toNat a).length ≤ 25 := by rw [sl]; exact Nat.mul_le_mul hq5 hl
  have tl := trim_length (spread P.1.toNat a)
  have c32 := tk (spread P.1.toNat a) (by lia)
  have c33 := root_ok (P := P) (S := S) (show 21 ≤ 29 by lia) (by lia) (trim (spread P.1.toNat a)) (by lia)
  rw [w_root ha] at c33
  have dko := der_ok (S := S) P.2 (show 16 ≤ 29 by lia) (by lia)
  have c34 := dko (trim (spread P.1.toNat a)) (w_good ha) (by lia)
  rw [w_der ha] at c34
  have c35 : Pre S 29 "mderive" [.list [], .int P.1] = some (.list []) := dko [] good_nil (by simp)
  have c36 : Pre S 29 "mderive" [.list [.int 1], .int P.1] = some (.list []) := by
    have h := dko [1] hone (by simp)
    rw [rp3] at h; exact h
  have dla := der_length P.1 a
  have dlb := der_length P.1 b
  have c37 := dko a ha (by lia)
  have c38 := dko b hb (by lia)
  have c39 := mul_ok (S := S) P.2 (show 11 ≤ 29 by lia) (by lia) (derL P.1 a) b (der_good P.2 a) hb (by lia) (by lia)
  have c40 := mul_ok (S := S) P.2 (show 11 ≤ 29 by lia) (by lia) a (derL P.1 b) ha (der_good P.2 b) (by lia) (by lia)
  have m3 := mulL_length P.1 (derL P.1 a) b
  have m4 := mulL_length P.1 a (derL P.1 b)
  have c41 := add_ok (S := S) P.2 (show 7 ≤ 29 by lia) (by lia) (mulL P.1 (derL P.1 a) b) (mulL P.1 a (derL P.1 b)) (by lia) (by lia)
  have c42 := dko (mulL P.1 a b) gm (by lia)
  rw [f_slopes ha hb] at c42
  have g001 : Good P.1 [0, 0, 1] := ⟨fun x hx => by simp at hx; lia, rfl⟩
  have c43 : Pre S 29 "mderive" [.list [.int 0, .int 0, .int 1], .int P.1] = some (L (trim [0, 2 % P.1])) := by
    have h := dko [0, 0, 1] g001 (by simp)
    rw [rp2] at h; exact h
  have c44 : Pre S 29 "mtrim" [.list [.int 0, .int (2 % P.1)]] = some (L (trim [0, 2 % P.1])) := tk [0, 2 % P.1] (by simp)
  have n0 : cmpV .NotEq (L []) (.list []) = some false := ne_nn
  have lo2 : lenOk (a.length + 2) = true := lenOk_of (by lia)
  have lo0 : lenOk a.length = true := lenOk_of (by lia)
  have sP : smallI P.1 = true := small_of (by lia)
  have sP1 : smallI (P.1 - 1) = true := small_of (by lia)
  unfold runF
  rw [hps, show ownsAt 35 = [] from rfl]
  conv => lhs; arg 1; arg 4; whnf
  refine go_step (σ1 := setS (setS (setAllV (fun _ => none) [("a" : Str), "b", "p"] [L a, L b, .int P.1]) "one" (.val (.int (ev a 1000)))) "other" (.val (.int (ev b 1000)))) (by simp only [bind2_some, valO_val, consO_eq, asgT_eq, stoTs_some, ev_name, ev_call, isB, str_beq, String.reduceBEq, Bool.or_self, el_nil, el_cons, xs_tup, slotV_val, sv_nil, sv_cons, List.contains_nil, setAllV, setAllS, setS, str_inj, nm_nil, nm_cons, Option.bind_some, Option.map_some, ↓reduceIte, eq_self, String.reduceEq, wa, wb]) ?_
  generalize hσ : setS (setS (setAllV (fun _ => none) [("a" : Str), "b", "p"] [L a, L b, .int P.1]) "one" (.val (.int (ev a 1000)))) "other" (.val (.int (ev b 1000))) = σ
  have s1 : σ "a" = some (.val (L a)) := by rw [← hσ]; simp only [setAllV, setS, str_inj, ↓reduceIte, eq_self, String.reduceEq]
  have s2 : σ "b" = some (.val (L b)) := by rw [← hσ]; simp only [setAllV, setS, str_inj, ↓reduceIte, eq_self, String.reduceEq]
  have s3 : σ "p" = some (.val (.int P.1)) := by rw [← hσ]; simp only [setAllV, setS, str_inj, ↓reduceIte, eq_self, String.reduceEq]
  have s4 : σ "one" = some (.val (.int (ev a 1000))) := by rw [← hσ]; simp only [setS, str_inj, ↓reduceIte, eq_self, String.reduceEq]
  have s5 : σ "other" = some (.val (.int (ev b 1000))) := by rw [← hσ]; simp only [setS, ↓reduceIte, eq_self]
  refine go_if (c := false) (by simp only [bind2_some, valO_val, consO_eq, orO_f, ev_name, ev_bin, ev_call, isB, str_beq, String.reduceBEq, Bool.or_self, el_nil, el_cons, et_cmp, et_and, ts_nil, ts_or, binAdd, cmpNeL, Option.bind_some, decide_true, eq_self, Bool.not_true, s1, s2, s3, s4, s5, c1, c2, c3, c4, binMul hwsb]; rfl) ?_
  refine go_if (c := false) (by simp only [bind2_some, valO_val, consO_eq, orO_f, ev_int, ev_name, ev_bin, ev_list, ev_call, isB, str_beq, String.reduceBEq, Bool.or_self, el_nil, el_cons, et_cmp, et_and, ts_nil, ts_or, binAdd, binSub, cmpNeL, Option.bind_some, Option.map_some, decide_true, eq_self, Bool.not_true, s1, s2, s3, s4, s5, c5, c6, c7, c8, binMul hwsb, n0]; rfl) ?_
  refine go_if (c := false) (by simp only [bind2_some, valO_val, consO_eq, orO_f, ev_int, ev_name, ev_list, ev_call, isB, str_beq, String.reduceBEq, Bool.or_self, el_nil, el_cons, et_cmp, et_and, ts_nil, ts_or, cmpNeL, Option.bind_some, Option.map_some, decide_true, eq_self, Bool.not_true, s1, s3, c9, c10, c11, c12, ne_nn]; rfl) ?_
  refine go_if (c := false) (by simp only [bind2_some, valO_val, consO_eq, orO_f, ev_name, ev_list, ev_call, isB, str_beq, String.reduceBEq, Bool.or_self, el_nil, el_cons, et_cmp, et_and, ts_nil, ts_or, Option.bind_some, Option.map_some, s1, s2, s3, c13, c14, ne_nn]; rfl) ?_
  refine go_if (c := false) (by simp only [bind2_some, valO_val, consO_eq, orO_f, ev_int, ev_name, ev_bin, ev_list, ev_call, isB, str_beq, String.reduceBEq, Bool.or_self, el_nil, el_cons, et_cmp, et_and, ts_nil, ts_or, binAdd, binSub, cmpNeL, Option.bind_some, Option.map_some, decide_true, eq_self, Bool.not_true, s1, s3, c15, c16, c17, c18, c9, n0, ne_nn]; rfl) ?_
  refine go_if (c := false) (by simp only [bind2_some, valO_val, negV_int, consO_eq, orO_f, ev_int, ev_name, ev_bin, ev_neg, ev_list, ev_call, isB, str_beq, String.reduceBEq, Bool.or_self, el_nil, el_cons, et_cmp, et_and, ts_nil, ts_or, binSub, binAddL, cmpNeL, Option.bind_some, Option.map_some, decide_true, ↓reduceIte, eq_self, Bool.not_true, s1, s3, List.length_map, List.length_cons, List.length_nil, Nat.zero_add, Nat.reduceAdd, lo2, am2, c19, c20, c21, binMul sP, c22, n6, ne_nn]; rfl) ?_
  refine go_if (c := false) (by simp only [bind2_some, valO_val, negV_int, lenV_list, revV_list, consO_eq, orO_f, ev_int, ev_name, ev_neg, ev_list, ev_tup, evB_name, ix_neg, sl_st, ev_call, ev_len, isB, str_beq, String.reduceBEq, Bool.or_self, el_nil, el_cons, et_cmp, et_and, ts_nil, ts_or, Slot.data, Option.bind_some, Option.map_some, ↓reduceIte, eq_self, s1, c23, c24, c25, c26, i7, n7, c27, List.length_map, lo0, and_self, ← List.map_reverse, ne_ord]; rfl) ?_
  refine go_if (c := false) (by simp only [bind2_some, valO_val, consO_eq, orO_f, ev_int, ev_name, ev_list, ev_call, isB, str_beq, String.reduceBEq, Bool.or_self, el_nil, el_cons, et_cmp, et_and, ts_nil, ts_or, cmpNeI, cmpNeL, Option.bind_some, Option.map_some, decide_true, eq_self, Bool.not_true, s1, s2, s3, c28, c29, c3, c30, c31, ne_11]; rfl) ?_
  have hrng : rangeL 0 P.1 1 = (List.range P.1.toNat).map fun (i : Nat) => PyData.int (i : Int) := by
    have := rangeL_nat P.1.toNat
    rwa [Int.toNat_of_nonneg (by lia)] at this
  refine go_next (nx_for (items := (List.range P.1.toNat).map fun (i : Nat) => PyData.int (i : Int)) (by simp only [bind2_some, valO_val, consO_eq, ev_name, ev_range, el_nil, el_cons, items_list, items_tup, forItems, Option.bind_some, Option.map_some, ↓reduceIte, eq_self, s3, rangeV1, rangeV2, rangeV3, sP, hrng])
    (fun k σ' => σ' "a" = some (.val (L a)) ∧ σ' "b" = some (.val (L b)) ∧ σ' "p" = some (.val (.int P.1))) ⟨s1, s2, s3⟩ ?_ ?_)
  · (intro k d σ' hd zz1; refine e0_3 ?_ zz1; clear zz1; intro q1 q2 q3)
    have hk : k < P.1.toNat := by have := (List.getElem?_eq_some_iff.mp hd).1; simpa using this
    have hd' : d = .int (k : Int) := by
      rw [List.getElem?_map, List.getElem?_range hk] at hd; exact (Option.some.inj hd).symm
    subst hd'
    have sx : smallI (k : Int) = true := small_of (by lia)
    have k1 := mat_ok (S := S) P.2 (show 17 ≤ 29 by lia) (by lia) a (k : Int) sx (by lia)
    rw [matL_eq (by lia)] at k1
    have k2 := sum_ok (S := S) (show 29 ≤ 33 by lia) ((List.range a.length).map fun j => a.getD j 0 * (k : Int) ^ (j + 0))
    rw [sum_evx] at k2
    refine ⟨setS σ' "x" (.val (.int (k : Int))), rfl, ?_⟩
    refine nx_cons (nx_if (c := false) ?_ ?_)
    · simp only [bind2_some, valO_val, enumV_list, consO_eq, compB_list, ev_name, ev_bin, ev_comp, ev_call, ev_enum, isB, str_beq, String.reduceBEq, Bool.or_self, el_nil, el_cons, et_cmp, ec_cons, setS, str_inj, Option.bind_some, ↓reduceIte, eq_self, String.reduceEq, q1, q3, k1]
      rw [compItems_all (powG (k : Int))]
      · have e1 : (enumL 0 (a.map .int)).map (powG (k : Int)) = ((List.range a.length).map fun j => a.getD j 0 * (k : Int) ^ (j + 0)).map .int := by
          apply List.ext_getElem?
          intro i
          rw [List.getElem?_map, List.map_map, List.getElem?_map]
          by_cases hi : i < a.length
          · have : (enumL 0 (a.map .int))[i]? = some ((enumL 0 (a.map .int))[i]'(by rw [enumL_length]; simpa using hi)) := List.getElem?_eq_getElem _
            (refine e0_2 ?_ (enum_ints this); intro _ h2)
            rw [this, h2, List.getElem?_range hi]; rfl
          · rw [List.getElem?_eq_none (by rw [enumL_length]; simpa using hi), List.getElem?_eq_none (by simpa using hi)]; rfl
        rw [e1]
        simp only [Option.bind_some, bind2_some, okLV_eq, consO_eq, List.length_map, List.length_range, lo0, if_true, k2, Int.pow_zero, Int.one_mul, binMod (show 0 < P.1 by lia), cmpNeI, decide_true, Bool.not_true]
      · intro d hd
        (refine e1_1 ?_ (List.mem_iff_getElem?.mp hd); intro i hi)
        (refine e0_2 ?_ (enum_ints hi); intro h1 zz1; subst zz1)
        exact ⟨_, rfl, rfl, by simp only [bind2_some, valO_val, ev_name, ev_bin, rdV_eq, str_beq, String.reduceBEq, eg_nil, setAllV, setS, str_inj, List.lookup_cons, compSto, freeS_free, Option.bind_some, valO_val, Option.map_some, ↓reduceIte, eq_self, String.reduceEq, binPow sx (show i ≤ 1000 by lia), binMul (small_pow4 (show (0 : Int) ≤ (k : Int) ∧ (k : Int) < 5 by lia) (show i < 6 by lia)), powG_eq, Int.toNat_natCast]⟩
    · simp only [Bool.false_eq_true, if_false]
      refine nx_nil ?_
      exact nx_nil ⟨by simp only [setS, str_inj, if_false, eq_self, String.reduceEq, q1], by simp only [setS, str_inj, if_false, eq_self, String.reduceEq, q2], by simp only [setS, str_inj, if_false, eq_self, String.reduceEq, q3]⟩
  · (intro σ' zz1; refine e0_3 ?_ zz1; clear zz1; intro q1 q2 q3)
    refine go_step (σ1 := setS σ' "wide" (.val (.list []))) (by simp only [stoS_some, ev_list, el_nil, xs_name, slotV_val, List.contains_nil, Option.map_some, eq_self]) ?_
    refine go_next (nx_for (items := a.map .int) (by simp only [valO_val, ev_name, setS, str_inj, items_list, items_tup, forItems, Option.bind_some, if_false, eq_self, String.reduceEq, q1])
      (fun k σ' => σ' "a" = some (.val (L a)) ∧ σ' "b" = some (.val (L b)) ∧ σ' "p" = some (.val (.int P.1)) ∧ σ' "wide" = some (.val (L (spread P.1.toNat (a.take k))))) ?_ ?_ ?_)
    · exact ⟨by simp only [setS, str_inj, if_false, eq_self, String.reduceEq, q1], by simp only [setS, str_inj, if_false, eq_self, String.reduceEq, q2], by simp only [setS, str_inj, if_false, eq_self, String.reduceEq, q3], by simp only [setS, if_true, eq_self, List.take_zero, spread]; rfl⟩
    · (intro k d σ' hd zz1; refine e0_4 ?_ zz1; clear zz1; intro q1 q2 q3 q4)
      rw [List.getElem?_map] at hd
      (refine e1_2 ?_ (Option.map_eq_some_iff.mp hd); intro x hx zz1; subst zz1)
      have hk := (List.getElem?_eq_some_iff.mp hx).1
      have hx' : a.getD k 0 = x := by rw [List.getD_eq_getElem?_getD, hx]; rfl
      have sl2 := spread_length P.1.toNat hq (a.take k)
      have slb2 : (spread P.1.toNat (a.take k)).length ≤ 25 := by
        rw [sl2, List.length_take]; exact Nat.le_trans (Nat.mul_le_mul hq5 (show min k a.length ≤ 5 by lia)) (by lia)
      rw [take_succ_getD hk, hx', spread_snoc]
      generalize spread P.1.toNat (a.take k) = w at *
      have w1 : lenOk (w.length + 1) = true := lenOk_of (by lia)
      have w2 : lenOk (1 * (P.1.toNat - 1)) = true := lenOk_of (by lia)
      have w3 : (P.1 - 1).toNat = P.1.toNat - 1 := by lia
      have w4 : lenOk (w.length + 1 + (P.1.toNat - 1)) = true := lenOk_of (by lia)
      refine ⟨setS σ' "one" (.val (.int x)), rfl, ?_⟩
      refine nx_step (σ1 := setS (setS σ' "one" (.val (.int x))) "wide" (.val (L (w ++ x :: List.replicate (P.1.toNat - 1) 0)))) ?_ (nx_nil ⟨by simp only [setS, str_inj, if_false, eq_self, String.reduceEq, q1], by simp only [setS, str_inj, if_false, eq_self, String.reduceEq, q2], by simp only [setS, str_inj, if_false, eq_self, String.reduceEq, q3], by simp only [setS, ↓reduceIte, eq_self]⟩)
      have e2 : PyData.list (w.map .int ++ [.int x] ++ (List.replicate (P.1.toNat - 1) (0 : Int)).map .int) = L (w ++ x :: List.replicate (P.1.toNat - 1) 0) := by simp [L]
      simp only [bind2_some, valO_val, consO_eq, stoS_some, ev_int, ev_name, ev_bin, ev_list, el_nil, el_cons, xs_name, slotV_val, List.contains_nil, setS, str_inj, binSub, binMulL, binAddL, Option.map_some, ↓reduceIte, eq_self, String.reduceEq, q3, q4, List.length_map, List.length_cons, List.length_nil, Nat.zero_add, List.length_append, w1, w2, sP1, and_self, rep0, w3, List.length_replicate, w4, e2]
    · (intro σ' zz1; refine e0_4 ?_ zz1; clear zz1; intro q1 q2 q3 q4)
      rw [List.length_map, List.take_length] at q4
      refine go_if (c := false) (by simp only [bind2_some, valO_val, consO_eq, orO_f, ev_int, ev_name, ev_list, ev_call, isB, str_beq, String.reduceBEq, Bool.or_self, el_nil, el_cons, et_cmp, et_and, ts_nil, ts_or, cmpNeL, Option.bind_some, Option.map_some, decide_true, eq_self, Bool.not_true, q1, q3, q4, c32, c33, c34, c35, c36, n0, ne_nn]; rfl) ?_
      refine go_step (σ1 := setS σ' "slopes" (.val (L (addL P.1 (mulL P.1 (derL P.1 a) b) (mulL P.1 a (derL P.1 b)))))) (by simp only [bind2_some, valO_val, consO_eq, stoS_some, ev_name, ev_call, isB, str_beq, String.reduceBEq, Bool.or_self, el_nil, el_cons, xs_name, slotV_val, List.contains_nil, Option.bind_some, Option.map_some, eq_self, q1, q2, q3, c37, c38, c39, c40, c41]) ?_
      exact go_retE (by simp only [bind2_some, valO_val, cmpB_eq, consO_eq, andO_t, ev_int, ev_name, ev_bin, ev_cmp, ev_and, ev_list, ev_call, isB, str_beq, String.reduceBEq, Bool.or_self, el_nil, el_cons, bs_one, bs_and, setS, relS, str_inj, Slot.data, boolOf_bool, cmpEqL, Option.bind_some, Option.map_some, decide_true, ↓reduceIte, eq_self, String.reduceEq, q1, q2, q3, c3, c42, c43, binMod (show 0 < P.1 by lia), c44])
end
end Mine
end
noncomputable section
open PySem PySem.W PyProof.Rows PySem.Calls PySem.Spec
set_option Elab.async false
set_option linter.all false
namespace Mine

noncomputable def powerL (p : Int) (m : Nat) : List Int := prodL p ([0, 1] :: List.replicate m [1, 1])
noncomputable def dueL (m : Nat) : List (List Int × Nat) := if m = 1 then [([0, 1, 1], 1)] else [([0, 1], 1), ([1, 1], m)]
noncomputable def manyL (p : Int) : List Nat := [2, p.toNat - 1, p.toNat, p.toNat + 1, 2 * p.toNat]
theorem conc_sq {p : Int} (hp : PP p) : sqfL p [] = false ∧ sqfL p [1] = true ∧ sqfL p [p - 1] = true ∧ sqfL p [0, 1] = true ∧ sqfL p [1, 1] = true ∧ sqfL p [0, 0, 1] = false ∧ sqfL p (List.replicate p.toNat 0 ++ [1]) = false ∧ sqfL p [0, 1, 1] = true ∧ sfpL p [1] = [] ∧ sfpL p [0, 1] = [([0, 1], 1)] := by
  rcases hp with rfl | rfl | rfl <;> decide +kernel
theorem conc_x {p : Int} (hp : PP p) : ∀ m ∈ manyL p, sfpL p (List.replicate m 0 ++ [1]) = [([0, 1], m)] := by
  rcases hp with rfl | rfl | rfl <;> decide +kernel
theorem conc_p {p : Int} (hp : PP p) : ∀ m ∈ manyL p, sfpL p (powerL p m) = dueL m ∧ (powerL p m).length ≤ 12 ∧ lead (powerL p m) = 1 := by
  rcases hp with rfl | rfl | rfl <;> decide +kernel
end Mine
end
noncomputable section
open PySem PySem.W PyProof.Rows PySem.Calls PySem.Spec
set_option Elab.async false
set_option linter.all false
namespace Mine

theorem compItems_flat {t : Expr} {test : Sto → Option Bool} {body : Sto → Option (List PyData)} {τ : Sto} (g : PyData → List PyData) : ∀ (items : List PyData), (∀ d ∈ items, ∃ τ1, bindT t d τ = some τ1 ∧ test τ1 = some true ∧ body τ1 = some (g d)) → compItems t test body τ items = some (items.map g).flatten
  | [], _ => by simp [compItems]
  | d :: ds, h => by
    (refine e1_3 ?_ (h d (by simp)); intro τ1 h1 h2 h3)
    have ih := compItems_flat g ds fun e he => h e (by simp [he])
    unfold compItems at ih ⊢
    rw [Option.map_eq_some_iff] at ih
    (refine e1_2 ?_ ih; clear ih; intro q hq hf)
    rw [List.mapM_cons, hq]
    simp [h1, h2, h3, hf]
theorem compItems_no {t : Expr} {test : Sto → Option Bool} {body : Sto → Option (List PyData)} {τ : Sto} : ∀ (items : List PyData), (∀ d ∈ items, ∃ τ1, bindT t d τ = some τ1 ∧ test τ1 = some false) → compItems t test body τ items = some []
  | [], _ => by simp [compItems]
  | d :: ds, h => by
    (refine e1_2 ?_ (h d (by simp)); intro τ1 h1 h2)
    have ih := compItems_no (body := body) ds fun e he => h e (by simp [he])
    unfold compItems at ih ⊢
    rw [Option.map_eq_some_iff] at ih
    (refine e1_2 ?_ ih; clear ih; intro q hq hf)
    rw [List.mapM_cons, hq]
    simp [h1, h2, hf]
theorem eqvAll_parts : ∀ l : List (List Int × Nat), PyData.eqvAll (l.map partD) (l.map partD) = true
  | [] => rfl
  | q :: l => by
    simp only [List.map_cons, PyData.eqvAll, eqvAll_parts l, Bool.and_true, partD, PyData.eqv, eqvAll_ints, decide_true, BEq.rfl]
theorem canAll_parts : ∀ l : List (List Int × Nat), PyData.canLayAll0 (l.map partD) = true
  | [] => rfl
  | q :: l => by
    simp [PyData.canLayAll0, PyData.canLay0, canAll_parts l, partD, canAll_ints]
theorem depth_parts : ∀ l : List (List Int × Nat), PyData.depthAll (l.map partD) ≤ 3
  | [] => by simp [PyData.depthAll]
  | q :: l => by
    have := depth_parts l
    simp only [List.map_cons, PyData.depthAll, PyData.depth, partD, depthAll_ints]
    exact Nat.max_le.mpr ⟨by decide, this⟩
theorem shaped_parts (l : List (List Int × Nat)) : SeqAt.shaped (.list (l.map partD)) = true := by
  have h0 := depth_parts l
  have h : PyData.depth (.list (l.map partD)) ≤ 64 := by
    simp only [PyData.depth]
    lia
  have h2 : PyData.canLay0 (.list (l.map partD)) = true := by
    simp only [PyData.canLay0, canAll_parts]
  unfold SeqAt.shaped
  rw [h2, Bool.true_and]
  exact decide_eq_true h
theorem ne_parts (l : List (List Int × Nat)) : cmpV .NotEq (.list (l.map partD)) (.list (l.map partD)) = some false := by
  simp only [cmpV_ne, cmpV_eq, shaped_parts, Bool.and_self, if_true, PyData.eqv, eqvAll_parts, Bool.not_true]

section
variable {P : Prm}
theorem sq_self {a : List Int} (ha : Good P.1 a) (hn : a ≠ []) (hl : a.length < 150) : sqfL P.1 (mulL P.1 a a) = decide (a.length = 1) := by
  letI := ringR P
  have hp := P.2.pos
  have hal := List.length_pos_iff.mpr hn
  have gm := mulL_good (p := P.1) (by lia) a a
  have hlen := (mul_top P.2 ha ha hn hn).1
  unfold sqfL
  by_cases h1 : a.length = 1
  · have : (mulL P.1 a a).length = 1 := by lia
    rw [this]; simp [h1]
  · rw [if_pos (by lia)]
    have hd := der_length P.1 (mulL P.1 a a)
    have hG := gcd_isG' gm (der_good P.2 (mulL P.1 a a)) (by lia) (by lia)
    have hder : ∀ x : List Int, mk P (derL P.1 x) = derR (mk P x) := fun x => by
      rw [derL_eq, mk_der]
      (refine e1_1 ?_ (nf_ev P.1 (pder x)); intro w hw)
      exact mk_eq ⟨w, hw⟩
    have d1 : Dv (mk P a) (mk P (mulL P.1 a a)) := ⟨mk P a, mk_mulL a a⟩
    have d2 : Dv (mk P a) (mk P (derL P.1 (mulL P.1 a a))) := by
      rw [hder, mk_mulL]
      have := (euR P).D_mul (mk P a) (mk P a)
      refine ⟨derR (mk P a) + derR (mk P a), ?_⟩
      have e : derR (mulR (mk P a) (mk P a)) = derR (mk P a) * mk P a + mk P a * derR (mk P a) := this
      rw [e]; grind
    have d3 := hG.dv d1 d2
    have hgl := gcd_lead' gm (der_good P.2 (mulL P.1 a a)) (by lia) (by lia) (by intro e; rw [e] at hlen; simp at hlen; lia)
    have gg := (gcd_good P.2 gm (der_good P.2 (mulL P.1 a a)) (by lia) (by lia)).1
    have h4 := (euR P).dv_len d3 (mk_ne gg (lead_ne hgl))
    have lenv : ∀ {x : List Int}, Good P.1 x → (euR P).len (mk P x) = x.length := fun {x} hx => congrArg List.length (congrArg Subtype.val (mk_val (el P x hx)))
    rw [lenv ha, lenv gg] at h4
    have : ¬ (gcdL P.1 (mulL P.1 a a) (derL P.1 (mulL P.1 a a))).length = 1 := by lia
    simp [this, h1]

/-- the parts laid out -/
noncomputable def flatL (fd : List (List Int × Nat)) : List (List Int) := (fd.map fun q => List.replicate q.2 q.1).flatten
theorem foldl_mk : ∀ (s : List (List Int)) (x : List Int), mk P (s.foldl (fun f o => mulL P.1 f o) x) = mulR (mk P x) (s.foldr (fun o acc => mulR (mk P o) acc) (mk P [((1 : Nat) : Int)]))
  | [], x => by
    letI := ringR P
    show mk P x = mk P x * 1
    grind
  | o :: s, x => by
    letI := ringR P
    rw [List.foldl_cons, foldl_mk s, mk_mulL, List.foldr_cons]
    show mk P x * mk P o * _ = mk P x * (mk P o * _)
    grind
noncomputable def prR (P : Prm) (s : List (List Int)) : Rg P := s.foldr (fun o acc => mulR (mk P o) acc) (mk P [((1 : Nat) : Int)])
theorem prodL_mk (s : List (List Int)) : mk P (prodL P.1 s) = prR P s := by
  letI := ringR P
  rw [prodL, foldl_mk]
  show 1 * prR P s = prR P s
  grind
theorem prR_app (s t : List (List Int)) : prR P (s ++ t) = mulR (prR P s) (prR P t) := by
  letI := ringR P
  induction s with
  | nil => show prR P t = 1 * prR P t; grind
  | cons o s ih =>
    show mulR (mk P o) (prR P (s ++ t)) = mulR (mulR (mk P o) (prR P s)) (prR P t)
    rw [ih]
    show mk P o * (prR P s * prR P t) = mk P o * prR P s * prR P t
    grind
theorem prR_rep (o : List Int) : ∀ n, prR P (List.replicate n o) = powR (mk P o) n
  | 0 => rfl
  | n + 1 => by
    letI := ringR P
    rw [List.replicate_succ]
    show mulR (mk P o) (prR P (List.replicate n o)) = mulR (powR (mk P o) n) (mk P o)
    rw [prR_rep o n]
    show mk P o * powR (mk P o) n = powR (mk P o) n * mk P o
    grind
theorem prR_flat : ∀ fd : List (List Int × Nat), prR P (flatL fd) = pw P fd
  | [] => rfl
  | q :: fd => by
    have e : flatL (q :: fd) = List.replicate q.2 q.1 ++ flatL fd := by simp [flatL]
    rw [e, prR_app, prR_rep, prR_flat fd]; rfl
theorem prodL_good (hp : 0 < P.1) : ∀ (s : List (List Int)), Good P.1 (prodL P.1 s) := by
  have h : ∀ (s : List (List Int)) (x : List Int), Good P.1 x → Good P.1 (s.foldl (fun f o => mulL P.1 f o) x) := by
    intro s
    induction s with
    | nil => intro x h; exact h
    | cons o s ih => intro x h; exact ih _ (mulL_good hp _ _)
  exact fun s => h s [1] (good_one P.2)

/-- what is asked of the parts of a monic W -/
theorem parts_all {W : List Int} (hW : Good P.1 W) (hl : lead W = 1) (hlen : W.length < 400) :
    (∀ q ∈ sfpL P.1 W, PartOk P.1 q ∧ q.2 ≤ W.length ∧ q.1.length ≤ W.length) ∧ prodL P.1 (flatL (sfpL P.1 W)) = W ∧ (∀ k, (prodL P.1 ((flatL (sfpL P.1 W)).take k)).length ≤ W.length) ∧ (∀ o ∈ flatL (sfpL P.1 W), Good P.1 o ∧ o.length ≤ W.length) ∧ (flatL (sfpL P.1 W)).length ≤ 500 ∧ (sfpL P.1 W).length ≤ 500 := by
  letI := ringR P
  have hp := P.2.pos
  (refine e0_2 ?_ (sfpF_spec 1000 [] (el P W hW) 1 (by show W.length < 1000; lia) hl hlen (Nat.le_refl _) (by simp)); intro h1 h2)
  have hWn := lead_ne hl
  have hW0 : mk P W ≠ 0 := mk_ne hW hWn
  have e1 : pw P (sfpL P.1 W) = mk P W := by
    have : pw P (sfpF P.1 1000 [] W 1) = mulR (pw P []) (powR (el P W hW) 1) := h1.symm
    rw [sfpL, this, el_mk]
    show 1 * (1 * mk P W) = mk P W
    grind
  have hprod : prR P (flatL (sfpL P.1 W)) = mk P W := by rw [prR_flat, e1]
  have lenv : ∀ {x : List Int}, Good P.1 x → (euR P).len (mk P x) = x.length := fun {x} hx => congrArg List.length (congrArg Subtype.val (mk_val (el P x hx)))
  have hle : ∀ {x : List Int}, Good P.1 x → Dv (mk P x) (mk P W) → x.length ≤ W.length := fun {x} hx hd => by
    have := (euR P).dv_len hd hW0
    rwa [lenv hx, lenv hW] at this
  have hpref : ∀ k, Dv (prR P ((flatL (sfpL P.1 W)).take k)) (mk P W) := fun k => ⟨prR P ((flatL (sfpL P.1 W)).drop k), by
    rw [← hprod]
    have := prR_app (P := P) ((flatL (sfpL P.1 W)).take k) ((flatL (sfpL P.1 W)).drop k)
    rw [List.take_append_drop] at this
    exact this⟩
  have hpart : ∀ q ∈ sfpL P.1 W, Dv (powR (mk P q.1) q.2) (mk P W) := fun q hq => by
    (refine e2_1 ?_ (List.append_of_mem hq); intro s t hst)
    refine ⟨pw P s * pw P t, ?_⟩
    rw [← e1, hst, pw_app]
    show pw P s * (powR (mk P q.1) q.2 * pw P t) = powR (mk P q.1) q.2 * (pw P s * pw P t)
    grind
  have hmem : ∀ o ∈ flatL (sfpL P.1 W), ∃ q ∈ sfpL P.1 W, o = q.1 := fun o ho => by
    (refine e1_2 ?_ (List.mem_flatten.mp ho); intro l hl ho)
    (refine e1_2 ?_ (List.mem_map.mp hl); intro q hq zz1; subst zz1)
    exact ⟨q, hq, List.eq_of_mem_replicate ho⟩
  have hq1 : ∀ q ∈ sfpL P.1 W, PartOk P.1 q ∧ q.2 ≤ W.length ∧ q.1.length ≤ W.length := fun q hq => by
    have hk := h2 q hq
    have hd := hpart q hq
    have hlen2 : 2 ≤ (euR P).len (mk P q.1) := by rw [lenv hk.g]; exact hk.n
    have hpl := (euR P).pow_len hlen2 q.2
    have hd2 := (euR P).dv_len hd hW0
    rw [lenv hW] at hd2
    have hpl' : q.2 + 1 ≤ (euR P).len (powR (mk P q.1) q.2) := hpl
    refine ⟨hk, by lia, hle hk.g (Dv.tr ?_ hd)⟩
    obtain ⟨j, hj⟩ : ∃ j, q.2 = j + 1 := ⟨q.2 - 1, by have := hk.m; lia⟩
    rw [hj]
    exact ⟨powR (mk P q.1) j, by show powR (mk P q.1) j * mk P q.1 = mk P q.1 * powR (mk P q.1) j; grind⟩
  have hmono : ∀ s : List (List Int), (∀ o ∈ s, Good P.1 o ∧ 1 < o.length) → s.length + 1 ≤ (euR P).len (prR P s) ∧ prR P s ≠ 0 := by
    intro s
    induction s with
    | nil =>
      intro _
      have h1 : (euR P).len (1 : Rg P) = 1 := (euR P).len1
      refine ⟨by show 0 + 1 ≤ (euR P).len (1 : Rg P); lia, ?_⟩
      exact (euR P).ne (x := (1 : Rg P)) (by lia)
    | cons o s ih =>
      intro h
      (refine e0_2 ?_ (ih fun o ho => h o (by simp [ho])); intro i1 i2)
      (refine e0_2 ?_ (h o (by simp)); intro g1 g2)
      have ho0 : mk P o ≠ 0 := mk_ne g1 (by intro e; rw [e] at g2; simp at g2)
      have hm := (euR P).lenMul (mk P o) (prR P s) ho0 i2
      rw [lenv g1] at hm
      have e : prR P (o :: s) = mk P o * prR P s := rfl
      rw [e]
      exact ⟨by simp; lia, (euR P).dom ho0 i2⟩
  have hflen : (flatL (sfpL P.1 W)).length + 1 ≤ W.length := by
    have := (hmono (flatL (sfpL P.1 W)) fun o ho => by (refine e1_2 ?_ (hmem o ho); intro q hq zz1; subst zz1); exact ⟨(hq1 q hq).1.g, (hq1 q hq).1.n⟩).1
    rw [hprod, lenv hW] at this
    exact this
  have hsl : ∀ fd : List (List Int × Nat), (∀ q ∈ fd, 1 ≤ q.2) → fd.length ≤ (flatL fd).length := by
    intro fd
    induction fd with
    | nil => intro _; simp
    | cons q fd ih =>
      intro h
      have := ih fun q hq => h q (by simp [hq])
      have := h q (by simp)
      have e : flatL (q :: fd) = List.replicate q.2 q.1 ++ flatL fd := by simp [flatL]
      rw [e]; simp; lia
  have := hsl (sfpL P.1 W) fun q hq => (hq1 q hq).1.m
  refine ⟨hq1, mk_inj (prodL_good (by lia) _) hW (by rw [prodL_mk, hprod]), fun k => hle (prodL_good (by lia) _) (by rw [prodL_mk]; exact hpref k), fun o ho => ?_, by lia, by lia⟩
  (refine e1_2 ?_ (hmem o ho); intro q hq zz1; subst zz1)
  exact ⟨(hq1 q hq).1.g, (hq1 q hq).2.2⟩
end
end Mine
end
noncomputable section
open PySem PySem.W PyProof.Rows PySem.Calls PySem.Spec
set_option Elab.async false
set_option linter.all false
namespace Mine

theorem rep1 (d : PyData) : ∀ n : Nat, (List.replicate n [d]).flatten = List.replicate n d
  | 0 => rfl
  | n + 1 => by rw [List.replicate_succ, List.flatten_cons, rep1 d n]; rfl
noncomputable def flatG (d : PyData) : List PyData := (((tupOfD d).bind twoOf).bind fun q => (intOf q.2).map fun m => List.replicate m.toNat q.1).getD []
theorem flatG_eq {x : PyData} {m : Int} : flatG (.tuple [x, .int m]) = List.replicate m.toNat x := rfl
theorem flatG_parts : ∀ fd : List (List Int × Nat), ((fd.map partD).map flatG).flatten = (flatL fd).map L
  | [] => rfl
  | q :: fd => by
    have e : flatL (q :: fd) = List.replicate q.2 q.1 ++ flatL fd := by simp [flatL]
    rw [e, List.map_append, ← flatG_parts fd]
    simp [flatG_eq, partD]
theorem prodL_bound {p : Int} : ∀ (s : List (List Int)) (x : List Int), (∀ o ∈ s, o.length ≤ 2) → (s.foldl (fun f o => mulL p f o) x).length ≤ x.length + 2 * s.length
  | [], x, _ => by simp
  | o :: s, x, h => by
    have h1 := prodL_bound (p := p) s (mulL p x o) fun o ho => h o (by simp [ho])
    have h2 := mulL_length p x o
    have h3 := h o (by simp)
    simp only [List.foldl_cons, List.length_cons]
    lia
noncomputable def SortOk (P : Prm) (S : List PyData → Option PyData) : Prop := ∀ m ∈ manyL P.1, S [.list ((dueL m).map partD)] = some (.list ((dueL m).map partD))

section
variable {S : List PyData → Option PyData} {P : Prm}
theorem run38 (hS : SortOk P S) (a b : List Int) (ha : Good P.1 a) (hb : Good P.1 b) (hn : a ≠ []) (hn2 : b ≠ []) (hl : a.length ≤ 5) (hl2 : b.length ≤ 5) : runF 38 (Pre S 32) [L a, L b, .int P.1] = some (.bool true) := by
  have hps : psOf (fdef 38) = [("a" : Str), "b", "p"] := by rfl
  have hp := P.2.pos
  have hal := List.length_pos_iff.mpr hn
  have hq5 : P.1.toNat ≤ 5 := by lia
  (refine e0_10 ?_ (conc_sq P.2); intro z1 z2 z3 z4 z5 z6 z7 z8 z9 z10)
  have sqk := fun f hf hlf => sqf_ok (S := S) P.2 (show 25 ≤ 32 by lia) (by lia) f hf hlf
  have g1 := good_one P.2
  have gm := good_m1 (P := P)
  have g01 : Good P.1 [0, 1] := ⟨fun x hx => by simp at hx; lia, rfl⟩
  have g11 : Good P.1 [1, 1] := ⟨fun x hx => by simp at hx; lia, rfl⟩
  have g001 : Good P.1 [0, 0, 1] := ⟨fun x hx => by simp at hx; lia, rfl⟩
  have g011 : Good P.1 [0, 1, 1] := ⟨fun x hx => by simp at hx; lia, rfl⟩
  have gx : ∀ m : Nat, Good P.1 (List.replicate m 0 ++ [1]) := fun m => ⟨fun x hx => by
    rcases List.mem_append.mp hx with h | h
    · rw [List.eq_of_mem_replicate h]; lia
    · simp at h; lia, trim_snoc_ne (by decide) _⟩
  have k1 : Pre S 32 "is_square_free_mod" [.list [], .int P.1] = some (.bool false) := by have h := sqk [] good_nil (by simp); rw [z1] at h; exact h
  have k2 : Pre S 32 "is_square_free_mod" [.list [.int 1], .int P.1] = some (.bool true) := by have h := sqk [1] g1 (by simp); rw [z2] at h; exact h
  have k3 : Pre S 32 "is_square_free_mod" [.list [.int (P.1 - 1)], .int P.1] = some (.bool true) := by have h := sqk [P.1 - 1] gm (by simp); rw [z3] at h; exact h
  have k4 : Pre S 32 "is_square_free_mod" [.list [.int 0, .int 1], .int P.1] = some (.bool true) := by have h := sqk [0, 1] g01 (by simp); rw [z4] at h; exact h
  have k5 : Pre S 32 "is_square_free_mod" [.list [.int 1, .int 1], .int P.1] = some (.bool true) := by have h := sqk [1, 1] g11 (by simp); rw [z5] at h; exact h
  have k6 : Pre S 32 "is_square_free_mod" [.list [.int 0, .int 0, .int 1], .int P.1] = some (.bool false) := by have h := sqk [0, 0, 1] g001 (by simp); rw [z6] at h; exact h
  have k7 : Pre S 32 "is_square_free_mod" [L (List.replicate P.1.toNat 0 ++ [1]), .int P.1] = some (.bool false) := by have h := sqk _ (gx P.1.toNat) (by simp; lia); rw [z7] at h; exact h
  have k8 : Pre S 32 "is_square_free_mod" [.list [.int 0, .int 1, .int 1], .int P.1] = some (.bool true) := by have h := sqk [0, 1, 1] g011 (by simp); rw [z8] at h; exact h
  have spk := fun (f : List Int) (hf : Good P.1 f) (hlf : lead f = 1) (hll : f.length < 400) => sfp_ok (S := S) (P := P) (show 27 ≤ 32 by lia) (by lia) (el P f hf) hlf hll
  have k9 : Pre S 32 "square_free_parts" [.list [.int 1], .int P.1] = some (.list []) := by
    have h := spk [1] g1 rfl (by simp)
    have e : sfpL P.1 (el P [1] g1).1 = [] := z9
    rw [e] at h; exact h
  have k10 : Pre S 32 "square_free_parts" [.list [.int 0, .int 1], .int P.1] = some (.list [.tuple [.list [.int 0, .int 1], .int 1]]) := by
    have h := spk [0, 1] g01 rfl (by simp)
    have e : sfpL P.1 (el P [0, 1] g01).1 = [([0, 1], 1)] := z10
    rw [e] at h; exact h
  have n10 : cmpV .NotEq (.list [.tuple [.list [.int 0, .int 1], .int 1]]) (.list [.tuple [.list [.int 0, .int 1], .int 1]]) = some false := ne_parts [([0, 1], 1)]
  have mulk := mul_ok (S := S) P.2 (show 11 ≤ 32 by lia) (by lia)
  have k11 := mulk a a ha ha (by lia) (by lia)
  have la := mulL_length P.1 a a
  have gaa := mulL_good (p := P.1) (by lia) a a
  have k12 := sqk (mulL P.1 a a) gaa (by lia)
  rw [sq_self ha hn (by lia)] at k12
  have lo0 : lenOk a.length = true := lenOk_of (by lia)
  have hlen1 : ∀ x : Bool, (x != x) = false := fun x => by cases x <;> rfl
  have elen : decide ((a.length : Int) = 1) = decide (a.length = 1) := by
    simp only [decide_eq_decide]; lia
  have sP : smallI P.1 = true := small_of (by lia)
  -- the whole
  have k13 := mulk a b ha hb (by lia) (by lia)
  have lab := mulL_length P.1 a b
  have gab := mulL_good (p := P.1) (by lia) a b
  have k14 : Pre S 32 "mmul" [L a, .list [.int 0, .int 0, .int 1], .int P.1] = some (L (mulL P.1 a [0, 0, 1])) := mulk a [0, 0, 1] ha g001 (by lia) (by simp)
  have lax := mulL_length P.1 a [0, 0, 1]
  have gax := mulL_good (p := P.1) (by lia) a [0, 0, 1]
  simp only [List.length_cons, List.length_nil] at lax
  have k15 := mulk _ _ gab gax (by lia) (by lia)
  have lw := mulL_length P.1 (mulL P.1 a b) (mulL P.1 a [0, 0, 1])
  have gw := mulL_good (p := P.1) (by lia) (mulL P.1 a b) (mulL P.1 a [0, 0, 1])
  have k16 := monic_ok (S := S) P.2 (show 15 ≤ 32 by lia) (by lia) _ gw (by lia)
  have t1 := mul_top P.2 ha hb hn hn2
  have t2 := mul_top P.2 ha g001 hn (by simp)
  have hbl := List.length_pos_iff.mpr hn2
  simp only [List.length_cons, List.length_nil] at t2
  have nab : mulL P.1 a b ≠ [] := by intro e; rw [e] at t1; simp at t1; lia
  have nax : mulL P.1 a [0, 0, 1] ≠ [] := by intro e; have h := t2.1; rw [e] at h; simp only [List.length_nil] at h; lia
  have t3 := mul_top P.2 gab gax nab nax
  have nw : mulL P.1 (mulL P.1 a b) (mulL P.1 a [0, 0, 1]) ≠ [] := by intro e; rw [e] at t3; simp at t3; lia
  have hml := monic_lead P.2 gw nw
  have gW := monic_good P.2 gw
  have lW : (monicL P.1 (mulL P.1 (mulL P.1 a b) (mulL P.1 a [0, 0, 1]))).length < 50 := by lia
  generalize hWW : monicL P.1 (mulL P.1 (mulL P.1 a b) (mulL P.1 a [0, 0, 1])) = W at *
  have k17 : Pre S 32 "square_free_parts" [L W, .int P.1] = some (.list ((sfpL P.1 W).map partD)) := spk W gW hml.1 (by lia)
  (refine e0_6 ?_ (parts_all gW hml.1 (by lia)); intro pa1 pa2 pa3 pa4 pa5 pa6)
  have k18 := prod_ok (S := S) P.2 (show 19 ≤ 32 by lia) (by lia) (flatL (sfpL P.1 W)) (fun o ho => (pa4 o ho).1) (fun k _ => by have := pa3 k; lia) (fun o ho => by have := (pa4 o ho).2; lia)
  rw [pa2] at k18
  have lo1 : lenOk (flatL (sfpL P.1 W)).length = true := lenOk_of (by lia)
  unfold runF
  rw [hps, show ownsAt 38 = [] from rfl]
  conv => lhs; arg 1; arg 4; whnf
  have e1 : lenOk (1 * P.1.toNat) = true := lenOk_of (by lia)
  have e2 : lenOk (P.1.toNat + 1) = true := lenOk_of (by lia)
  have am : ∀ m : Nat, PyData.list ((List.replicate m (0 : Int)).map .int ++ [.int 1]) = L (List.replicate m 0 ++ [1]) := fun m => by simp [L]
  refine go_step (σ1 := setS (setAllV (fun _ => none) [("a" : Str), "b", "p"] [L a, L b, .int P.1]) "lots" (.val (.tuple [.list [], .list [.int 1], .list [.int (P.1 - 1)], .list [.int 0, .int 1], .list [.int 1, .int 1], .list [.int 0, .int 0, .int 1], L (List.replicate P.1.toNat 0 ++ [1]), .list [.int 0, .int 1, .int 1]]))) ?_ ?_
  · simp only [bind2_some, valO_val, consO_eq, stoS_some, ev_int, ev_name, ev_bin, ev_list, ev_tup, el_nil, el_cons, xs_name, slotV_val, List.contains_nil, setAllV, setS, binSub, binMulL, binAddL, Option.map_some, ↓reduceIte, eq_self, sP, e1, and_self, List.length_cons, List.length_nil, Nat.zero_add, rep0, List.length_map, List.length_replicate, e2, am]
  refine go_step (σ1 := setS (setS (setAllV (fun _ => none) [("a" : Str), "b", "p"] [L a, L b, .int P.1]) "lots" (.val (.tuple [.list [], .list [.int 1], .list [.int (P.1 - 1)], .list [.int 0, .int 1], .list [.int 1, .int 1], .list [.int 0, .int 0, .int 1], L (List.replicate P.1.toNat 0 ++ [1]), .list [.int 0, .int 1, .int 1]]))) "told" (.val (.list [.bool false, .bool true, .bool true, .bool true, .bool true, .bool false, .bool false, .bool true]))) ?_ ?_
  · simp only [compB_tup, valO_val, ev_name, ev_comp, ec_cons, xs_name, slotV_val, List.contains_nil, setAllV, setS, ↓reduceIte, eq_self]
    rw [compItems_all (fun d => ((Pre S 32) "is_square_free_mod" [d, .int P.1]).getD .none)]
    · simp only [Option.bind_some, okLV_eq, List.map_cons, List.map_nil, k1, k2, k3, k4, k5, k6, k7, k8, Option.getD_some, List.length_cons, List.length_nil]
      rfl
    · intro d hd
      simp only [List.mem_cons, List.not_mem_nil, or_false] at hd
      rcases hd with rfl | rfl | rfl | rfl | rfl | rfl | rfl | rfl <;>
        exact ⟨_, rfl, rfl, by simp only [bind2_some, valO_val, consO_eq, ev_name, rdV_eq, ev_call, isB, str_beq, String.reduceBEq, Bool.or_self, eg_nil, el_nil, el_cons, setS, str_inj, List.lookup_cons, compSto, freeS_free, Option.bind_some, valO_val, Option.bind_some, Option.map_some, ↓reduceIte, eq_self, String.reduceEq, k1, k2, k3, k4, k5, k6, k7, k8, Option.getD_some]⟩
  generalize hσ : setS (setS (setAllV (fun _ => none) [("a" : Str), "b", "p"] [L a, L b, .int P.1]) "lots" (.val (.tuple [.list [], .list [.int 1], .list [.int (P.1 - 1)], .list [.int 0, .int 1], .list [.int 1, .int 1], .list [.int 0, .int 0, .int 1], L (List.replicate P.1.toNat 0 ++ [1]), .list [.int 0, .int 1, .int 1]]))) "told" (.val (.list [.bool false, .bool true, .bool true, .bool true, .bool true, .bool false, .bool false, .bool true])) = σ
  have s1 : σ "a" = some (.val (L a)) := by rw [← hσ]; simp only [setAllV, setS, str_inj, ↓reduceIte, eq_self, String.reduceEq]
  have s2 : σ "b" = some (.val (L b)) := by rw [← hσ]; simp only [setAllV, setS, str_inj, ↓reduceIte, eq_self, String.reduceEq]
  have s3 : σ "p" = some (.val (.int P.1)) := by rw [← hσ]; simp only [setAllV, setS, str_inj, ↓reduceIte, eq_self, String.reduceEq]
  have s4 : σ "told" = some (.val (.list [.bool false, .bool true, .bool true, .bool true, .bool true, .bool false, .bool false, .bool true])) := by rw [← hσ]; simp only [setS, ↓reduceIte, eq_self]
  have nt : cmpV .NotEq (.list [.bool false, .bool true, .bool true, .bool true, .bool true, .bool false, .bool false, .bool true]) (.list [.bool false, .bool true, .bool true, .bool true, .bool true, .bool false, .bool false, .bool true]) = some false := by rfl
  refine go_if (c := false) (by simp only [bind2_some, valO_val, consO_eq, orO_f, ev_int, ev_tf, ev_name, ev_list, ev_call, isB, str_beq, String.reduceBEq, Bool.or_self, el_nil, el_cons, et_cmp, et_and, ts_nil, ts_or, Option.bind_some, Option.map_some, s3, s4, nt, k9, ne_nn]; rfl) ?_
  refine go_if (c := false) (by simp only [bind2_some, valO_val, cmpB_eq, lenV_list, consO_eq, orO_f, ev_int, ev_name, ev_cmp, ev_list, ev_tup, evB_name, ev_call, ev_len, isB, str_beq, String.reduceBEq, Bool.or_self, el_nil, el_cons, et_cmp, et_and, ts_nil, ts_or, Slot.data, cmpEqI, Option.bind_some, Option.map_some, ↓reduceIte, eq_self, s1, s3, k11, k12, List.length_map, lo0, elen, ne_bool, hlen1, k10, n10]; rfl) ?_
  have hmany : [PyData.int 2, .int (P.1 - 1), .int P.1, .int (P.1 + 1), .int (2 * P.1)] = (manyL P.1).map fun (m : Nat) => PyData.int (m : Int) := by
    simp only [manyL, List.map_cons, List.map_nil, List.cons.injEq, PyData.int.injEq, and_true]
    refine ⟨rfl, by lia, by lia, by lia, by lia⟩
  refine go_next (nx_for (items := (manyL P.1).map fun (m : Nat) => PyData.int (m : Int)) (by simp only [bind2_some, valO_val, consO_eq, ev_int, ev_name, ev_bin, ev_tup, el_nil, el_cons, items_list, items_tup, forItems, binAdd, binSub, Option.bind_some, Option.map_some, eq_self, s3, binMul sP, hmany])
    (fun k σ' => σ' "a" = some (.val (L a)) ∧ σ' "b" = some (.val (L b)) ∧ σ' "p" = some (.val (.int P.1))) ⟨s1, s2, s3⟩ ?_ ?_)
  · (intro k d σ' hd zz1; refine e0_3 ?_ zz1; clear zz1; intro q1 q2 q3)
    rw [List.getElem?_map] at hd
    (refine e1_2 ?_ (Option.map_eq_some_iff.mp hd); intro m hm zz1; subst zz1)
    have hmm := List.mem_of_getElem? hm
    have hm10 : m ≤ 10 := by simp [manyL] at hmm; lia
    have c1 := conc_x P.2 m hmm
    (refine e0_3 ?_ (conc_p P.2 m hmm); intro c2 c3 c4)
    have lgx : (List.replicate m (0 : Int) ++ [1]).length < 400 := by simp; lia
    have x1 := spk _ (gx m) (by simp [lead]) lgx
    have x1' : Pre S 32 "square_free_parts" [L (List.replicate m 0 ++ [1]), .int P.1] = some (.list [.tuple [.list [.int 0, .int 1], .int (m : Int)]]) := by
      have e : sfpL P.1 (el P (List.replicate m 0 ++ [1]) (gx m)).1 = [([0, 1], m)] := c1
      rw [e] at x1; exact x1
    have nx1 : cmpV .NotEq (.list [.tuple [.list [.int 0, .int 1], .int (m : Int)]]) (.list [.tuple [.list [.int 0, .int 1], .int (m : Int)]]) = some false := ne_parts [([0, 1], m)]
    have gpow := prodL_good (P := P) (by lia) ([0, 1] :: List.replicate m [1, 1])
    have hlens : ∀ o ∈ [0, 1] :: List.replicate m [(1 : Int), 1], o.length ≤ 2 := fun o ho => by
      rcases List.mem_cons.mp ho with rfl | ho
      · simp
      · rw [List.eq_of_mem_replicate ho]; simp
    have x2 : Pre S 32 "mproduct" [.list (.list [.int 0, .int 1] :: List.replicate m (.list [.int 1, .int 1])), .int P.1] = some (L (powerL P.1 m)) := by
      have h := prod_ok (S := S) P.2 (show 19 ≤ 32 by lia) (by lia) ([0, 1] :: List.replicate m [1, 1]) (fun o ho => by
        rcases List.mem_cons.mp ho with rfl | ho
        · exact g01
        · rw [List.eq_of_mem_replicate ho]; exact g11) (fun k hk => by
        have := prodL_bound (p := P.1) (([0, 1] :: List.replicate m [1, 1]).take k) [1] (fun o ho => hlens o (List.mem_of_mem_take ho))
        have h2 : (([0, 1] :: List.replicate m [(1 : Int), 1]).take k).length ≤ m + 1 := by simp; lia
        simp only [List.length_cons, List.length_nil] at this
        exact Nat.lt_of_le_of_lt this (by lia)) (fun o ho => by have := hlens o ho; lia)
      have e : (([0, 1] :: List.replicate m [1, 1] : List (List Int)).map L) = .list [.int 0, .int 1] :: List.replicate m (.list [.int 1, .int 1]) := by simp [L]
      rw [e] at h; exact h
    have x3 := spk (powerL P.1 m) gpow c4 (by lia)
    have x3' : Pre S 32 "square_free_parts" [L (powerL P.1 m), .int P.1] = some (.list ((dueL m).map partD)) := by
      have e : sfpL P.1 (el P (powerL P.1 m) gpow).1 = dueL m := c2
      rw [e] at x3; exact x3
    have x4 : Pre S 32 "sorted" [.list ((dueL m).map partD)] = some (.list ((dueL m).map partD)) := by
      rw [base_see (by lia) (by decide)]
      simp only [baseO, if_true]
      exact hS m hmm
    have w1 : smallI (m : Int) = true := small_of (by lia)
    have w2 : lenOk (1 * m) = true := lenOk_of (by lia)
    have w3 : lenOk (m + 1) = true := lenOk_of (by lia)
    have w4 : lenOk (1 + m) = true := lenOk_of (by lia)
    refine ⟨setS σ' "many" (.val (.int (m : Int))), rfl, ?_⟩
    refine nx_cons (nx_if (c := false) (by simp only [bind2_some, valO_val, consO_eq, ev_int, ev_name, ev_bin, ev_list, ev_tup, ev_call, isB, str_beq, String.reduceBEq, Bool.or_self, el_nil, el_cons, et_cmp, setS, str_inj, binMulL, binAddL, Option.bind_some, Option.map_some, ↓reduceIte, eq_self, String.reduceEq, q3, w1, w2, and_self, Int.toNat_natCast, List.length_cons, List.length_nil, Nat.zero_add, rep0, List.length_map, List.length_replicate, w3, am, x1', nx1]) ?_)
    simp only [Bool.false_eq_true, if_false]
    refine nx_nil ?_
    refine nx_step (σ1 := setS (setS σ' "many" (.val (.int (m : Int)))) "power" (.val (L (powerL P.1 m)))) (by simp only [bind2_some, valO_val, consO_eq, stoS_some, ev_int, ev_name, ev_bin, ev_list, ev_call, isB, str_beq, String.reduceBEq, Bool.or_self, el_nil, el_cons, xs_name, slotV_val, List.contains_nil, setS, str_inj, binMulL, binAddL, Option.bind_some, Option.map_some, ↓reduceIte, eq_self, String.reduceEq, q3, w1, w2, and_self, Int.toNat_natCast, List.length_cons, List.length_nil, Nat.zero_add, rep1, List.length_replicate, w4, List.cons_append, List.nil_append, x2]) ?_
    have hdue : ∀ σ'' : Sto, True := fun _ => trivial
    refine nx_step (σ1 := setS (setS (setS σ' "many" (.val (.int (m : Int)))) "power" (.val (L (powerL P.1 m)))) "due" (.val (.list ((dueL m).map partD)))) ?_ ?_
    · by_cases h1 : m = 1
      · have h1' : (m : Int) = 1 := by lia
        simp only [bind2_some, valO_val, consO_eq, ev_int, ev_name, ev_ite, ev_list, ev_tup, el_nil, el_cons, et_cmp, xs_name, slotV_val, List.contains_nil, setS, str_inj, cmpEqI, Option.map_some, ↓reduceIte, eq_self, String.reduceEq, dueL, h1, List.map_cons, List.map_nil, partD]
        rfl
      · have h1' : ¬ (m : Int) = 1 := by lia
        simp only [bind2_some, valO_val, ite_f, consO_eq, stoS_some, ev_int, ev_name, ev_ite, ev_list, ev_tup, el_nil, el_cons, et_cmp, xs_name, slotV_val, List.contains_nil, setS, str_inj, cmpEqI, Option.map_some, decide_false, ↓reduceIte, eq_self, String.reduceEq, h1', dueL, h1, List.map_cons, List.map_nil, partD]
        rfl
    refine nx_cons (nx_if (c := false) (by simp only [bind2_some, valO_val, consO_eq, ev_name, ev_call, isB, str_beq, String.reduceBEq, Bool.or_self, el_nil, el_cons, et_cmp, setS, str_inj, Option.bind_some, ↓reduceIte, eq_self, String.reduceEq, q3, x3', x4, ne_parts]) ?_)
    simp only [Bool.false_eq_true, if_false]
    refine nx_nil ?_
    exact nx_nil ⟨by simp only [setS, str_inj, if_false, eq_self, String.reduceEq, q1], by simp only [setS, str_inj, if_false, eq_self, String.reduceEq, q2], by simp only [setS, str_inj, if_false, eq_self, String.reduceEq, q3]⟩
  · (intro σ' zz1; refine e0_3 ?_ zz1; clear zz1; intro q1 q2 q3)
    refine go_step (σ1 := setS σ' "whole" (.val (L W))) (by simp only [bind2_some, valO_val, consO_eq, stoS_some, ev_int, ev_name, ev_list, ev_call, isB, str_beq, String.reduceBEq, Bool.or_self, el_nil, el_cons, xs_name, slotV_val, List.contains_nil, Option.bind_some, Option.map_some, eq_self, q1, q2, q3, k13, k14, k15, k16]) ?_
    refine go_step (σ1 := setS (setS σ' "whole" (.val (L W))) "found" (.val (.list ((sfpL P.1 W).map partD)))) (by simp only [bind2_some, valO_val, consO_eq, stoS_some, ev_name, ev_call, isB, str_beq, String.reduceBEq, Bool.or_self, el_nil, el_cons, xs_name, slotV_val, List.contains_nil, setS, str_inj, Option.bind_some, Option.map_some, ↓reduceIte, eq_self, String.reduceEq, q3, k17]) ?_
    refine go_if (c := false) ?_ ?_
    · simp only [bind2_some, valO_val, consO_eq, compB_list, ev_name, ev_comp, ev_call, isB, str_beq, String.reduceBEq, Bool.or_self, el_nil, el_cons, et_cmp, ec_cons, setS, str_inj, ↓reduceIte, eq_self, String.reduceEq, q3]
      rw [compItems_flat flatG]
      · rw [flatG_parts]
        simp only [Option.bind_some, bind2_some, okLV_eq, consO_eq, List.length_map, lo1, if_true, k18, ne_self]
      · intro d hd
        (refine e1_2 ?_ (List.mem_map.mp hd); intro q hq zz1; subst zz1)
        have hqs := pa1 q hq
        have w1 : smallI (q.2 : Int) = true := small_of (by lia)
        refine ⟨_, rfl, rfl, ?_⟩
        simp only [bind2_some, valO_val, consO_eq, compB_list, ev_name, ev_range, el_nil, el_cons, eg_cons, setAllV, setS, Option.bind_some, Option.map_some, ↓reduceIte, eq_self, rangeV1, rangeV2, rangeV3, w1, rangeL_nat, partD]
        rw [compItems_all (fun _ => L q.1)]
        · have hrep : (((List.range q.2).map fun (i : Nat) => PyData.int (i : Int)).map fun _ => L q.1) = List.replicate q.2 (L q.1) := by
            refine List.eq_replicate_iff.mpr ⟨by simp, fun b hb => ?_⟩
            (refine e1_2 ?_ (List.mem_map.mp hb); intro _ _ zz1; subst zz1)
            rfl
          rw [hrep]
          simp only [flatG_eq, Int.toNat_natCast]
        · intro d hd
          exact ⟨_, rfl, rfl, by simp only [valO_val, ev_name, eg_nil, setS, str_inj, Option.map_some, ↓reduceIte, eq_self, String.reduceEq]⟩
    · refine go_retE ?_
      simp only [valO_val, compB_list, ev_name, ev_cmp, ev_list, ev_comp, el_nil, ec_cons, setS, relS, Slot.data, Option.map_some, ↓reduceIte, eq_self]
      rw [compItems_no]
      · simp only [Option.bind_some, bind2_some, cmpB_eq, okLV_eq, List.length_nil, lenOk_of (show 0 ≤ 100000 by lia), if_true, eq_nn, Option.map_some]
      · intro d hd
        (refine e1_2 ?_ (List.mem_map.mp hd); intro q hq zz1; subst zz1)
        (refine e0_3 ?_ (pa1 q hq); intro hk hq2 hq3)
        have y1 := sqk q.1 hk.g (by lia)
        rw [hk.s] at y1
        have y2 := idx_last' (lead_ne hk.l) (show q.1.length ≤ 100000 by lia)
        rw [hk.l] at y2
        have y3 : ¬ ((q.2 : Int) < 1) := by have := hk.m; lia
        refine ⟨_, rfl, ?_⟩
        simp only [bind2_some, valO_val, negV_int, consO_eq, orO_f, ev_int, ev_name, ev_neg, evB_name, rdV_eq, ix_neg, isB, str_beq, String.reduceBEq, Bool.or_self, el_nil, el_cons, et_cmp, et_not, et_and, et_call, ts_nil, ts_and, ts_or, setAllV, setS, relS, str_inj, List.lookup_cons, Slot.data, compSto, freeS_free, Option.bind_some, valO_val, boolOf_bool, cmpLt, cmpNeI, Option.bind_some, Option.map_some, decide_true, decide_false, ↓reduceIte, eq_self, String.reduceEq, Bool.not_true, q3, y1, y2, y3]
        rfl
end
end Mine
end
noncomputable section
open PySem PySem.W PyProof.Rows PySem.Calls PySem.Spec
set_option Elab.async false
set_option linter.all false
namespace Mine

/-- the box: a list of a list of whole numbers and a count -/
structure Box (B I : Addr) (h : Heap) (k : Int) : Prop where
  b : ∃ (n : Nat) (t : Tok), h.get? B = some (listOf [.ref I, .int k t].toArray n)
  i : ∃ (vs : List Value) (n : Nat) (ns : List Int), h.get? I = some (listOf vs.toArray n) ∧ RpA (fun _ => False) h vs (ns.map PyData.int) ∧ ns.length ≤ 100
  ne : B ≠ I
theorem ints_any {X Y : Addr → Prop} {h h' : Heap} : ∀ {ns : List Int} {vs : List Value}, RpA X h vs (ns.map PyData.int) → RpA Y h' vs (ns.map .int) := by
  intro ns
  induction ns with
  | nil => intro vs; apply nil_v; exact .nil
  | cons n ns ih =>
    intro vs; apply cons_v; intro v vs r rs
    revert r; apply int_v; intro t
    exact .cons (.int _ _) (ih rs)
theorem Box.keep {B I : Addr} {h h' : Heap} {k : Int} (x : Box B I h k) (e : ∀ o, h.get? B = some o → h'.get? B = some o) (e2 : ∀ o, h.get? I = some o → h'.get? I = some o) : Box B I h' k := by
  (refine e2_1 ?_ x.b; intro n t h1)
  (refine e3_3 ?_ x.i; intro vs m ns h2 h3 h4)
  exact ⟨⟨n, t, e _ h1⟩, ⟨vs, m, ns, e2 _ h2, ints_any h3, h4⟩, x.ne⟩
noncomputable def tkS (ns : List Int) (k mm : Int) : Sto := fun y => if y = "box" then some (.own [L ns, .int k]) else if y = "many" then some (.val (.int mm)) else none
theorem tk1 {ns : List Int} {k mm : Int} : tkS ns k mm "box" = some (.own [L ns, .int k]) := by simp [tkS]
theorem tk2 {ns : List Int} {k mm : Int} : tkS ns k mm "many" = some (.val (.int mm)) := by simp [tkS, str_inj]
theorem tkset {ns : List Int} {k k' mm : Int} : setS (tkS ns k mm) "box" (.own [L ns, .int k']) = tkS ns k' mm := by
  funext y
  simp only [setS, tkS]
  split <;> rfl
noncomputable abbrev F0 : Addr → Prop := fun _ => False

section
variable {prog : Program} {w : World} {A : Around} {base : Heap} {mg mb : Str → Option Value} {O : Orc} {n : Nat} {env : Env} {s : Shared} {m : Str → Option Value} {ad : Str → Addr} {B I : Addr} {k mm : Int} {ns : List Int}
theorem SI.ad_of {ad' : Str → Addr} {σ σ' : Sto} {s' : Shared} {m' : Str → Option Value} {X₀ : Addr → Prop} (I' : SI base X₀ env ad' σ' s' m') {x : Str} {xs : List PyData} (h : σ' x = some (.own xs)) (only : ∀ y ys, σ y = some (.own ys) → y = x) (sub : Wr env ad' σ' (ad' x) → Wr env ad σ (ad' x)) : ad' x = ad x := by
  (refine e2_2 ?_ (I'.list h); intro vs nn g _)
  rcases sub (.inr (.inr ⟨x, xs, h, rfl⟩)) with q | ⟨y, k1, k2⟩ | ⟨y, ys, e, q⟩
  · exact (ns_not_list I'.R.ns (q ▸ g)).elim
  · (refine e1_1 ?_ (I'.R.cellAt y _ k1 k2); intro u i)
    exact (cell_not_list i g).elim
  · rw [q, only y ys e]

theorem take_1 {p1 p2 p3 p4 p5 p6 p7 p8 p9 : Pos} {c1 c2 c3 : Nat} (Bg' : Bg base mg mb) (HO : OSound prog w base mg mb n O) (rm : Room A n) (I0 : SI base F0 env ad (tkS ns k mm) s m) (hB : ad "box" = B) (hbox : Box B I s.heap k) (hk : 0 ≤ k ∧ k ≤ 1000)
    (ok1 : okE (.BinOp (.Subscript (.Name "box" p4) (.Constant (.int 1) c2 p5) p6) .Add (.Constant (.int 1) c3 p7) p8) env.scope.names = true) (ok2 : okE (.Constant (.int 1) c1 p2) env.scope.names = true) (hI : I ≠ env.locals) :
    wpAny (model prog w) A (exec (.Assign [.Subscript (.Name "box" p1) (.Constant (.int 1) c1 p2) p3] (.BinOp (.Subscript (.Name "box" p4) (.Constant (.int 1) c2 p5) p6) .Add (.Constant (.int 1) c3 p7) p8) p9) env)
      (fun f s' => f = .next ∧ Ch (· = B) s s' ∧ (∃ ad' m', ad' "box" = B ∧ SI base F0 env ad' (tkS ns (k + 1) mm) s' m') ∧ Box B I s'.heap (k + 1)) NoE s := by
  have s1 := @tk1 ns k mm
  have lo2 : lenOk 2 = true := rfl
  have h1 : evE O (.BinOp (.Subscript (.Name "box" p4) (.Constant (.int 1) c2 p5) p6) .Add (.Constant (.int 1) c3 p7) p8) false (tkS ns k mm) = some (.int (k + 1)) := by
    show bind2 (binV .Add) (bind2 idxV ((tkS ns k mm "box").map Slot.data) (some (.int 1))) (some (.int 1)) = _
    rw [s1]; rfl
  have h2 : evE O (.Constant (.int 1) c1 p2) false (tkS ns k mm) = some (.int 1) := rfl
  refine wpAny_Assign_Subscript (wpAny_mono ((main Bg' HO _).v env _ _ A s m _ ok1 h1 I0.R rm) (fun vv s₁ y => ?_) fun _ _ x => x)
  have I₁ := I0.up y.1
  refine s_cur I₁.R (I₁.cur _ _ s1) ?_
  refine wpAny_mono ((main Bg' HO _).v env _ _ A s₁ m _ ok2 h2 I₁.R rm) (fun iv s₂ z => ?_) fun _ _ x => x
  (refine e0_2 ?_ z; clear z; intro k₂ ri)
  (refine e1_1 ?_ (int_inv ri); intro _ zz1; subst zz1)
  have I₂ := I₁.up k₂
  (refine e0_2 ?_ y; clear y; intro kk rv)
  cases rv with
  | int _ tv =>
  have kk2 := ktr kk k₂
  (refine e2_1 ?_ hbox.b; intro nb tb gb)
  (refine e2_2 ?_ (I₂.list s1); intro vs nn g r)
  have gb2 := kle kk2 _ _ gb
  rw [hB] at g
  have ev : vs = [.ref I, .int k tb] := by
    rw [gb2] at g
    have := Option.some.inj g
    simp only [Obj.mk.injEq, Data.seq.injEq] at this
    have := this.2.2.1.1
    simpa using this.symm
  subst ev
  rw [hB]
  refine s_setItem g (by decide) (by decide) (by simp) fun h' k' g' hs => ?_
  have hs' : Heap.SameBut (ad "box") s₂.heap h' := by rw [hB]; exact hs
  have g'' : h'.get? (ad "box") = some (listOf ([Value.ref I, .int (k + 1) tv]).toArray k') := by rw [hB]; simpa using g'
  have rI : Rp (XX F0 env ad (tkS ns k mm)) s₂.heap (.ref I) (L ns) := by cases r with | cons a _ => exact a
  have po := I₂.upd (mk := false) (ys := [L ns, .int (k + 1)]) s1 hs' g'' (.cons rI (.cons (.int _ _) .nil))
  (refine e0_3 ?_ po; clear po; intro c _ zz1; refine e2_2 ?_ zz1; clear zz1; intro ad' m' I₃ sub)
  rw [tkset] at I₃ sub
  refine ⟨rfl, ?_, ⟨ad', m', ?_, I₃⟩, ?_⟩
  · refine (kch kk2 (fun _ => False)).tr (ch_heap (W := (· = B)) s₂ h' s₂.toks fun b o nb e => (hs.2 b nb).trans e) fun d o nd e => ⟨id, nd⟩
  · rw [SI.ad_of (ad := ad) (σ := tkS ns k mm) I₃ tk1 (fun y ys e => ?_) fun q => (sub _ q).elim id fun q => by cases q.1]
    · exact hB
    · unfold tkS at e
      split at e
      · assumption
      · split at e <;> cases e
  · (refine e3_3 ?_ hbox.i; intro vs n0 ns0 h1 h3 h4)
    exact ⟨⟨k', tv, by simpa using g'⟩, ⟨vs, n0, ns0, (hs.2 I hbox.ne.symm).trans (kle kk2 _ _ h1), ints_any h3, h4⟩, hbox.ne⟩

theorem only_box {k : Int} : ∀ y ys, tkS ns k mm y = some (.own ys) → y = "box" := fun y ys e => by
  unfold tkS at e
  split at e
  · assumption
  · split at e <;> cases e
theorem box_eval {k : Int} (I0 : SI base F0 env ad (tkS ns k mm) s m) (hB : ad "box" = B) {p : Pos} {Q : Value → Shared → Prop} (h : Q (.ref B) s) : wpAny (model prog w) A (eval (.Name "box" p) env) Q NoE s :=
  s_cur I0.R (hB ▸ I0.cur _ _ tk1) h
theorem box_inner {k : Int} (I0 : SI base F0 env ad (tkS ns k mm) s m) (hB : ad "box" = B) (hbox : Box B I s.heap k) : ∃ vs nn, s.heap.get? I = some (listOf vs.toArray nn) ∧ RpA F0 s.heap vs (ns.map PyData.int) := by
  (refine e2_1 ?_ hbox.b; intro nb tb gb)
  (refine e2_2 ?_ (I0.list (x := "box") tk1); intro vs nn g r)
  rw [hB, gb] at g
  have ev : vs = [.ref I, .int k tb] := by
    have := Option.some.inj g
    simp only [Obj.mk.injEq, Data.seq.injEq] at this
    have := this.2.2.1.1
    simpa using this.symm
  subst ev
  cases r with | cons a _ => ?_
  cases a with | list _ g q => exact ⟨_, _, g, ints_any q⟩

theorem s_cur' {x : Str} {p : Pos} {v : Value} {Q : Value → Shared → Prop} (fn : env.scope.kind = .function) (ns : s.heap.Ns env.locals m) (c : CurM env s.heap m x v) (h : Q v s) : wpAny (model prog w) A (eval (.Name x p) env) Q NoE s := by
  refine wpAny_Name ?_ c.1
  rcases c.2 with ⟨k, e⟩ | ⟨k, c, e, i⟩
  · exact wpAny_loadName_local fn k ns e h
  · exact wpAny_loadName_cell fn k e i h

theorem take_2 {p1 p2 p3 p4 p5 p6 p7 p8 p9 q1 q2 q3 q4 q5 q6 : Pos} {c1 c2 c3 : Nat} (Bg' : Bg base mg mb) (HO : OSound prog w base mg mb n O) (rm : Room A n) (I0 : SI base F0 env ad (tkS ns k mm) s m) (hB : ad "box" = B) (hbox : Box B I s.heap k) (hm : 1 ≤ mm ∧ mm ≤ 100)
    (ok1 : okE (.Compare (.Subscript (.Name "box" p1) (.Constant (.int 0) c1 p2) p3) [.NotEq] [.List [] p4] p5) env.scope.names = true) (hl : (q1.endLine == q2.line) = true) (hns : ns.length ≤ 100) :
    wpAny (model prog w) A (exec (.If (.Compare (.Subscript (.Name "box" p1) (.Constant (.int 0) c1 p2) p3) [.NotEq] [.List [] p4] p5)
        [.Return (some (.BinOp (.Call (.Attribute (.Subscript (.Name "box" p6) (.Constant (.int 0) c2 p7) p8) "pop" q1) [.Constant (.int 0) c3 p9] [] q2) .Mod (.Name "many" q3) q4)) q5] [] q6) env)
      (fun f s' => (f = .next ∧ Keeps s s') ∨ (∃ r t, f = .ret (.int r t) ∧ 0 ≤ r ∧ r < mm ∧ Ch (· = I) s s' ∧ Box B I s'.heap k)) NoE s := by
  have s1 := @tk1 ns k mm
  have lo2 : lenOk 2 = true := rfl
  have h1 : evT O (.Compare (.Subscript (.Name "box" p1) (.Constant (.int 0) c1 p2) p3) [.NotEq] [.List [] p4] p5) (tkS ns k mm) = some (!decide (ns = [])) := by
    show bind2 (cmpV .NotEq) (bind2 idxV ((tkS ns k mm "box").map Slot.data) (some (.int 0))) (some (.list [])) = _
    rw [s1]; exact cmpNeL (b := [])
  refine wpAny_If (wpAny_mono ((main Bg' HO _).t env _ _ A s m _ ok1 h1 I0.R rm) (fun c s₁ x => ?_) fun _ _ x => x)
  (refine e0_2 ?_ x; clear x; intro zz1 kk; subst zz1)
  have I₁ := I0.up kk
  have hbox₁ : Box B I s₁.heap k := hbox.keep (fun o e => kle kk _ _ e) fun o e => kle kk _ _ e
  by_cases hne : ns = []
  · subst hne
    exact wpAny_execs_nil (.inl ⟨rfl, kk⟩)
  · rw [decide_eq_false hne]
    show wpAny _ A (execs [_] env) _ NoE s₁
    (refine e2_2 ?_ (box_inner I₁ hB hbox₁); intro vs nn gI rI)
    (refine e2_1 ?_ hbox₁.b; intro nb tb gb)
    refine wpAny_execs_cons (wpAny_Return_some (wpAny_BinOp ?_))
    obtain ⟨x0, ns', rfl⟩ : ∃ x0 ns', ns = x0 :: ns' := by
      cases ns with
      | nil => exact absurd rfl hne
      | cons a r => exact ⟨a, r, rfl⟩
    have hlen := rI.length
    cases rI with | cons rx rs => ?_
    (refine e1_1 ?_ (int_inv rx); intro tx zz1; subst zz1)
    rename_i vs'
    rw [arm_eval_Call]
    refine wpAny_bind ?_
    show wpAny _ A (eval (.Subscript (.Name "box" p6) (.Constant (.int 0) c2 p7) p8) env) _ NoE s₁
    refine s_sub (box_eval I₁ hB (wpAny_Constant_int ⟨.inl ⟨_, gb, rfl⟩, ?_⟩))
    refine wpAny_getItem_list (x := .ref I) (isList_of gb) (by decide) (by simp) (by simp) ?_
    refine wpAny_bind (wpAny_standAt ?_)
    have hform : methodCallForm (([Expr.Constant (.int 0) c3 p9] : List Expr).length + ([] : List Keyword).length) (backTo q2 (starEach [.Constant (.int 0) c3 p9] env)) (backToKw q2 (keywordEach [] env)) = true := rfl
    have hpos : methodCallPos true (.Subscript (.Name "box" p6) (.Constant (.int 0) c2 p7) p8) env q1 q2 = pure q2 := by unfold methodCallPos; simp [hl]
    unfold methodCall
    rw [hform]
    have gI' : ({ s₁ with toks := s₁.toks + 1 } : Shared).heap.get? I = _ := gI
    refine wpAny_bind (wpAny_holding (getMethod_list_of PySem.F.slot_list_pop PySem.F.type_list_pop (isList_of gI) ?_ ?_))
    · simp [Heap.NoDictAt, gI]
    refine wpAny_bind (wpAny_of_eq hpos ?_)
    refine P.pop_at_list (wpAny_Constant_int (k := c3) (pos := p9) ⟨_, nn, 0, _, 0, Value.int x0 tx, by simp [sizeLine_eq]; simp at hlen hns; lia, rfl, gI, by decide, by simp [seqIndex?], by simp, ?_⟩)
    have hupd : ∀ b, b ≠ I → (s₁.heap.update I (Obj.mapSeq fun xs => xs.eraseIdxIfInBounds 0)).get? b = s₁.heap.get? b := fun b nb => Heap.get?_update_other _ _ (Ne.symm nb)
    (refine e1_2 ?_ (I₁.R.vals "many" _ tk2); intro u cu ru)
    (refine e1_1 ?_ (int_inv ru); intro tu zz1; subst zz1)
    have nL : env.locals ≠ I := fun q => ns_not_list I₁.R.ns (q ▸ gI)
    refine s_cur' I₁.R.fn (I₁.R.ns.at' fun o e => (hupd _ nL).trans e) (cu.ch fun c o k1 e1 e2 => (hupd c fun q => ?_).trans e2) ?_
    · (refine e1_1 ?_ (I₁.R.cellAt "many" c k1 e1); intro u i)
      exact cell_not_list i (q ▸ gI)
    have hns' : ns'.length ≤ 100 := by rw [List.length_cons] at hns; lia
    obtain ⟨n2, g2⟩ : ∃ n2, (s₁.heap.update I (Obj.mapSeq fun xs => xs.eraseIdxIfInBounds 0)).get? I = some (listOf vs'.toArray n2) := by
      have e1 : (Value.int x0 tx :: vs').toArray.eraseIdxIfInBounds 0 = vs'.toArray := by simp
      have := IsL.update (show IsL s₁.heap I _ nn from gI) (fun xs => xs.eraseIdxIfInBounds 0)
      rw [e1] at this
      exact ⟨_, this⟩
    have hmod : x0.fmod mm = x0 % mm := by rw [Int.fmod_eq_emod_of_nonneg _ (by lia)]
    refine mod_int' (by lia) ?_
    refine .inr ⟨_, _, rfl, ?_, ?_, ?_, ?_⟩
    · rw [hmod]; exact Int.emod_nonneg _ (by lia)
    · rw [hmod]; exact Int.emod_lt_of_pos _ (by lia)
    · exact (kch kk fun _ => False).tr (ch_heap (W := (· = I)) s₁ _ _ fun b o nb e => (hupd b nb).trans e) fun d o nd e => ⟨id, nd⟩
    · exact ⟨⟨nb, tb, (hupd B hbox.ne).trans gb⟩, ⟨vs', n2, ns', g2, ints_any rs, hns'⟩, hbox.ne⟩
end
end Mine
end
noncomputable section
open PySem PySem.W PyProof.Rows PySem.Calls PySem.Spec
set_option Elab.async false
set_option linter.all false
namespace Mine

section
variable {prog : Program} {w : World} {A : Around} {base : Heap} {mg mb : Str → Option Value} {O : Orc} {n : Nat} {env : Env} {s : Shared} {m : Str → Option Value} {ad : Str → Addr} {B I : Addr} {k mm : Int} {ns : List Int}

theorem take_body (Bg' : Bg base mg mb) (HO : OSound prog w base mg mb n O) (rm : Room A n) (I0 : SI base F0 env ad (tkS ns k mm) s m) (hB : ad "box" = B) (hbox : Box B I s.heap k) (hk : 0 ≤ k ∧ k ≤ 1000) (hm : 1 ≤ mm ∧ mm ≤ 100) (hns : ns.length ≤ 100)
    (hsc : env.scope = (fdef 31).scope) (hI : I ≠ env.locals) :
    wpAny (model prog w) A (execs (fdef 31).body env) (fun f s' => ∃ r t, f = .ret (.int r t) ∧ 0 ≤ r ∧ r < mm ∧ Ch (fun b => b = B ∨ b = I) s s' ∧ Box B I s'.heap (k + 1)) NoE s := by
  conv => arg 3; arg 1; whnf
  refine wpAny_execs_cons (wpAny_mono (take_1 Bg' HO rm I0 hB hbox hk ?_ ?_ hI) (fun f s₁ y => ?_) fun _ _ x => x)
  · rw [hsc]; decide +kernel
  · rw [hsc]; decide +kernel
  (refine e0_4 ?_ y; clear y; intro zz1 c₁ zz2 hbox₁; subst zz1; refine e2_2 ?_ zz2; clear zz2; intro ad' m' hB' I₁)
  refine wpAny_execs_cons (wpAny_mono (take_2 Bg' HO rm I₁ hB' hbox₁ hm ?_ rfl hns) (fun f s₂ y => ?_) fun _ _ x => x)
  · rw [hsc]; decide +kernel
  rcases y with ⟨rfl, kk⟩ | ⟨r, t, rfl, h1, h2, c₂, hbox₂⟩
  · have h1 : evE O (.BinOp (.BinOp (.BinOp (.Constant (.int 7) 0 ⟨0, 0, 0, 0⟩) .Mult (.Subscript (.Name "box" ⟨0, 0, 0, 0⟩) (.Constant (.int 1) 0 ⟨0, 0, 0, 0⟩) ⟨0, 0, 0, 0⟩) ⟨0, 0, 0, 0⟩) .Add (.BinOp (.Subscript (.Name "box" ⟨0, 0, 0, 0⟩) (.Constant (.int 1) 0 ⟨0, 0, 0, 0⟩) ⟨0, 0, 0, 0⟩) .FloorDiv (.Constant (.int 3) 0 ⟨0, 0, 0, 0⟩) ⟨0, 0, 0, 0⟩) ⟨0, 0, 0, 0⟩) .Mod (.Name "many" ⟨0, 0, 0, 0⟩) ⟨0, 0, 0, 0⟩) false (tkS ns (k + 1) mm) = some (.int ((7 * (k + 1) + (k + 1).fdiv 3).fmod mm)) := by
      have lo2 : lenOk 2 = true := rfl
      have sk : smallI (k + 1) = true := small_of (by lia)
      have e1 := @tk1 ns (k + 1) mm
      have e2 := @tk2 ns (k + 1) mm
      show bind2 (binV .Mod) (bind2 (binV .Add) (bind2 (binV .Mult) (some (.int 7)) (bind2 idxV ((tkS ns (k + 1) mm "box").map Slot.data) (some (.int 1)))) (bind2 (binV .FloorDiv) (bind2 idxV ((tkS ns (k + 1) mm "box").map Slot.data) (some (.int 1))) (some (.int 3)))) ((tkS ns (k + 1) mm "many").bind valS) = _
      rw [e1, e2]
      show bind2 (binV .Mod) (bind2 (binV .Add) (binV .Mult (.int 7) (.int (k + 1))) (some (.int ((k + 1).fdiv 3)))) (some (.int mm)) = _
      rw [binMul sk]
      show (if mm ≠ 0 then some (PyData.int ((7 * (k + 1) + (k + 1).fdiv 3).fmod mm)) else none) = _
      rw [if_pos (by lia)]
    refine wpAny_execs_cons (wpAny_Return_some (wpAny_mono ((main Bg' HO _).v env _ _ A s₂ m' _ ?_ h1 (I₁.up kk).R rm) (fun v s₃ y => ?_) fun _ _ x => x))
    · rw [hsc]; decide +kernel
    (refine e0_2 ?_ y; clear y; intro k3 rv)
    (refine e1_1 ?_ (int_inv rv); intro t zz1; subst zz1)
    have hmod := Int.fmod_eq_emod_of_nonneg (7 * (k + 1) + (k + 1).fdiv 3) (show (0 : Int) ≤ mm by lia)
    refine ⟨_, t, rfl, ?_, ?_, ?_, ?_⟩
    · rw [hmod]; exact Int.emod_nonneg _ (by lia)
    · rw [hmod]; exact Int.emod_lt_of_pos _ (by lia)
    · exact c₁.tr (kch (ktr kk k3) fun _ => False) fun d o nd e => ⟨fun q => nd (.inl q), id⟩
    · exact hbox₁.keep (fun o e => kle (ktr kk k3) _ _ e) fun o e => kle (ktr kk k3) _ _ e
  · exact ⟨r, t, rfl, h1, h2, c₁.tr c₂ fun d o nd e => ⟨fun q => nd (.inl q), fun q => nd (.inr q)⟩, hbox₂⟩
end
end Mine
end
noncomputable section
open PySem PySem.W PyProof.Rows PySem.Calls PySem.Spec
set_option Elab.async false
set_option linter.all false
namespace Mine

section
variable {prog : Program} {w : World} {A : Around} {base : Heap} {mg mb : Str → Option Value} {O : Orc} {n : Nat} {env : Env} {s : Shared} {m : Str → Option Value} {ad : Str → Addr} {B I : Addr} {k mm : Int} {ns : List Int}

noncomputable def TakeOk (prog : Program) (w : World) (base : Heap) (n : Nat) (fv : Value) : Prop := ∀ (A : Around) (s : Shared) (B I : Addr) (k mm : Int) (tm : Tok), Room A n → HLe base s.heap → base.get? B = none → base.get? I = none → 0 ≤ k → k ≤ 1000 → 1 ≤ mm → mm ≤ 100 → Box B I s.heap k →
  wpAny (model prog w) A (call fv [.ref B, .int mm tm] []) (fun v s' => (∃ r t, v = .int r t ∧ 0 ≤ r ∧ r < mm) ∧ Ch (fun b => b = B ∨ b = I) s s' ∧ Box B I s'.heap (k + 1)) NoE s

theorem take_call (hT : FnAt base mg (fdef 31)) (Bg' : Bg base mg mb) (HO : OSound prog w base mg mb n O) : ∃ fv, mg (fdef 31).name = some fv ∧ KeepOk prog w base fv ∧ TakeOk prog w base (n + 1) fv := by
  (refine e5_4 ?_ hT; clear hT; intro a o pm code doc h1 h2 h3 h4)
  refine ⟨.ref a, h1, fun h hh => ⟨.frame, .inl rfl, ?_⟩, ?_⟩
  · have L := (Looks.ld (M := model prog w) (part := none) (hh _ _ h2))
    obtain ⟨c, d1, d2, d3⟩ := o
    simp only at h3
    subst h3
    exact L.andThen .now
  · intro A s B I k mm tm rm hb bB bI hk0 hk1 hm0 hm1 hbox
    have hroom : A.depth < recursionLimit := by have := rm.d; show A.depth < 1000; lia
    have hnm : ∀ x ∈ ["box", "many"], (fdef 31).scope.names.lookup (Str.ofString x) = some .local ∧ (Str.ofString x == ("__debug__" : Str)) = false := by decide +kernel
    have hks : ∀ x, (fdef 31).scope.names.lookup x ≠ some .cell := fun x hx => by
      have h0 : (fdef 31).scope.names.all (fun y => !(y.2 == NameKind.cell)) = true := by decide +kernel
      have := List.all_eq_true.mp h0 _ (mem_of_lookup hx)
      simp at this
    refine wpAny_call (codeAny_call_cells (fd := docDef (fdef 31).name (fdef 31).params (fdef 31).body (fdef 31).scope pm code doc) (vals := [.ref B, .int mm tm]) (binds := [("box", .ref B), ("many", .int mm tm)]) hroom (hb _ _ h2) h3 (Bg'.nolimit.keeps hb) (h4.keeps hb) rfl rfl rfl (fun x hx => ?_) (fun s₁ IC => ?_) rfl rfl rfl)
    · left
      simp only [List.mem_cons, List.not_mem_nil, or_false] at hx
      rcases hx with rfl | rfl
      · exact (hnm "box" (by simp)).1
      · exact (hnm "many" (by simp)).1
    · generalize hE : callEnvC (docDef (fdef 31).name (fdef 31).params (fdef 31).body (fdef 31).scope pm code doc) s.heap.objs.size a = env at IC ⊢
      have hsc : env.scope = (fdef 31).scope := by subst hE; rfl
      have hgl : env.globals = mainGlobals := by subst hE; rfl
      have hbl : env.builtins = builtinsNs := by subst hE; rfl
      have hL : env.locals = s.heap.objs.size := by subst hE; rfl
      have hko : ∀ x, env.kindOf x = (fdef 31).scope.names.lookup x := fun x => by show env.scope.names.lookup x = _; rw [hsc]
      have hnc : ∀ x, env.kindOf x ≠ some .cell := fun x => by rw [hko]; exact hks x
      (refine e2_2 ?_ IC.done; intro h₁ tk zz1 hkeep; subst zz1)
      have frL : s.heap.get? env.locals = none := none_size _ (by rw [hL]; exact Nat.le_refl _)
      have hbox₁ : Box B I h₁ k := hbox.keep (hkeep B) (hkeep I)
      (refine e2_1 ?_ hbox₁.b; intro nb tb gb)
      (refine e3_3 ?_ hbox₁.i; intro vs ni ns gi ri hlen)
      have hBL : B ≠ env.locals := fun q => by (refine e2_1 ?_ hbox.b; intro _ _ e); rw [q, frL] at e; cases e
      have hIL : I ≠ env.locals := fun q => by (refine e3_2 ?_ hbox.i; intro _ _ _ e _); rw [q, frL] at e; cases e
      have kb : env.kindOf "box" = some .local := by rw [hko]; exact (hnm "box" (by simp)).1
      have km : env.kindOf "many" = some .local := by rw [hko]; exact (hnm "many" (by simp)).1
      have eb : bindL env.kindOf [("box", .ref B), ("many", .int mm tm)] (fun _ => none) "box" = some (.ref B) := by
        simp [bindL, kb, km, str_inj]
      have em : bindL env.kindOf [("box", .ref B), ("many", .int mm tm)] (fun _ => none) "many" = some (.int mm tm) := by
        simp [bindL, kb, km, str_inj]
      have hwr : ∀ c, Wr env (fun _ => B) (tkS ns k mm) c → c = env.locals ∨ c = B := fun c q => by
        rcases q with q | ⟨x, q, _⟩ | ⟨x, xs, _, q⟩
        · exact .inl q
        · exact (hnc x q).elim
        · exact .inr q
      have hxx : ∀ c, c ≠ env.locals → c ≠ B → ¬ XX F0 env (fun _ => B) (tkS ns k mm) c := fun c h1 h2 q => q.elim (fun q => q) fun q => (hwr c q).elim h1 h2
      have cb : CurM env h₁ (bindL env.kindOf [("box", .ref B), ("many", .int mm tm)] fun _ => none) "box" (.ref B) := ⟨(hnm "box" (by simp)).2, .inl ⟨kb, eb⟩⟩
      have cmm : CurM env h₁ (bindL env.kindOf [("box", .ref B), ("many", .int mm tm)] fun _ => none) "many" (.int mm tm) := ⟨(hnm "many" (by simp)).2, .inl ⟨km, em⟩⟩
      have I₀ : SI base F0 env (fun _ => B) (tkS ns k mm) { s with heap := h₁, toks := tk } (bindL env.kindOf [("box", .ref B), ("many", .int mm tm)] fun _ => none) := {
        R := {
          fn := by rw [hsc]; rfl
          gl := hgl
          bl := hbl
          ba := fun b o e => hkeep b o (hb b o e)
          pres := fun c q => by
            rcases q with q | q
            · exact q.elim
            · rcases hwr c q with q | q
              · rw [q]; (refine e3_2 ?_ IC.toInCall.ns; intro o es ep e _); exact ⟨o, e⟩
              · rw [q]; exact ⟨_, gb⟩
          ns := IC.toInCall.ns
          ci := fun x q => (hnc x q).elim
          cellAt := fun x c q _ => (hnc x q).elim
          vals := fun x d' e => by
            unfold tkS at e
            split at e
            · cases e
            · split at e
              · rename_i q; subst q; cases e; exact ⟨_, cmm, .int _ _⟩
              · cases e
          owns := fun x xs e => by
            have q := only_box x xs e
            subst q
            rw [tk1] at e; cases e
            exact ⟨B, _, _, cb, gb, .cons (.list (hxx I hIL hbox.ne.symm) gi (ints_any ri)) (.cons (.int _ _) .nil)⟩ }
        cur := fun x xs e => by rw [only_box x xs e]; exact cb
        inj := fun x y xs ys e e' _ => by rw [only_box x xs e, only_box y ys e']
        ap := fun x y c e1 e2 => name_of_addr IC.apart (mem_of_lookup e1) (mem_of_lookup e2)
        dis := fun c q1 q2 => q1
        bn := fun c q => by
          rcases hwr c q with q | q
          · rw [q]; exact none_old hb frL
          · rw [q]; exact bB }
      have rm' : Room (A.deeper env) n := ⟨rm.h, by have := rm.d; show A.depth + 1 + n < 900; lia, by have := rm.u; show A.units + 3 + 4 * n + 100 < cLine; lia⟩
      refine wpAny_mono (take_body Bg' HO rm' I₀ rfl hbox₁ ⟨hk0, hk1⟩ ⟨hm0, hm1⟩ hlen hsc hIL) (fun f s' po => ?_) fun _ _ x => x.elim
      (refine e2_5 ?_ po; clear po; intro r t zz1 p1 p2 c b; subst zz1)
      refine ⟨⟨r, t, rfl, p1, p2⟩, ?_, b⟩
      have k₁ : Keeps s { s with heap := h₁, toks := tk } := keeps_heap s h₁ tk hkeep
      exact (kch k₁ fun _ => False).tr c fun c o nd e => ⟨id, nd⟩
end
end Mine
end
noncomputable section
open PySem PySem.W PyProof.Rows PySem.Calls PySem.Spec
set_option Elab.async false
set_option linter.all false
namespace Mine

section
variable {prog : Program} {w : World} {A : Around} {X : Addr → Prop} {base : Heap} {mg mb : Str → Option Value} {env : Env} {σ : Sto} {s s₀ : Shared} {m : Str → Option Value}

theorem comp_core2 {elt : Expr} {scope : Scope} {pos p : Pos} {t i : Expr} {ifs : List Expr} {gs : List Comprehension} {use : Option (Value → Sem Unit)} {Q : Value → Shared → Prop} {Pst : List PyData → Shared → Prop}
    (R₀ : RdM base env X σ s₀.heap m) (S : ScopeOk scope env.scope.names)
    (hi : ∀ x, foldedSetIterable i env x = pure x)
    (hit : wpAny (model prog w) A (eval i env) (fun xv s => ∃ items, Pst items s ∧ RdM base env X σ s.heap m ∧ ItRO prog w A X t items s xv s) NoE s₀)
    (hloop : ∀ (items : List PyData) (s : Shared) (cenv : Env) (D I : Addr) (wr : List Addr) (St : Nat → Heap → Prop) (X' : Addr → Prop) (s₄ : Shared) (m₄ : Str → Option Value), Pst items s → Keeps s s₄ → s.heap.get? D = none → s.heap.get? cenv.locals = none → (∀ b ∈ wr, s.heap.get? b = none) →
      X' = (fun a => X a ∨ a = cenv.locals ∨ a = D ∨ a ∈ wr) → (∀ y, scope.names.lookup y = some .free → cenv.kindOf y = some .cell ∧ ∃ c, env.cells.lookup y = some c ∧ cenv.cells.lookup y = some c) →
      cenv.scope.names = relNames env.scope.names scope → RdM base cenv X' (compSto scope σ) s₄.heap m₄ →
      (∀ x xs, compSto scope σ x ≠ some (.own xs)) → cenv.locals ≠ D → cenv.locals ∉ wr → D ∉ wr → (∀ x c, cenv.kindOf x = some .cell → cenv.cells.lookup x = some c → c ≠ cenv.locals ∧ c ≠ D ∧ c ∉ wr) →
      Its prog w A X' t I wr items St → St 0 s₄.heap → s₄.heap.get? D = some (listOf ([] : List Value).toArray 0) →
      codeAny (model prog w) A (.compLoop (.ListComp elt (⟨t, i, ifs, 0⟩ :: gs) scope pos) 0 (.ref I) (.ref D) cenv) (compPost (model prog w) A NoE use Q (.ref D) cenv.locals) s₄) :
    wpAny (model prog w) A (comprehension (.ListComp elt (⟨t, i, ifs, 0⟩ :: gs) scope pos) scope env p (newList []) false (eval i env) use) Q NoE s₀ := by
  (refine e1_3 ?_ (closure_ok R₀ S); intro cl hcl hcl1 hcl2)
  refine wpAny_comprehension_free (g := ⟨t, i, ifs, 0⟩) (gs := gs) (cl := cl) rfl hi hcl S.kind (fun x hx hl => ?_) (wpAny_mono hit (fun xv s h₁ => let ⟨items, hP, R, h₁⟩ := h₁; wpAny_mono h₁ (fun it s₂ h₂ => ?_) fun _ _ x => x) fun _ _ x => x)
  · rcases S.each x.1 x.2 hx with ⟨_, b⟩ | ⟨a, _⟩ | a
    · exact b
    · rw [hl] at a; cases a
    · rw [hl] at a; cases a
  (refine e2_4 ?_ h₂; clear h₂; intro I wr zz1 k₂ hwr hIts; subst zz1)
  refine wpAny_newObj_type (wpAny_newFunctionEnv (fun x hx => ?_) (by intro y hy; simp at hy) (fun h₁ hns₁ hsb₁ => ?_) S.kind)
  · rcases S.each x.1 x.2 hx with ⟨a, _⟩ | ⟨a, _⟩ | a <;> rw [a] <;> simp
  dsimp only at hns₁ hsb₁ ⊢
  generalize hH2 : s₂.heap.push { cls := .type "list", dict := none, data := .seq ([] : List Value).toArray } = H2 at hns₁ hsb₁ ⊢
  have hC : H2.objs.size = s₂.heap.objs.size + 1 := by rw [← hH2, Heap.size_push]
  have hDC : s₂.heap.objs.size ≠ H2.objs.size := by rw [hC]; exact Nat.ne_of_lt (Nat.lt_succ_self _)
  have below : ∀ b o, s₂.heap.get? b = some o → b ≠ H2.objs.size ∧ b ≠ s₂.heap.objs.size := fun b o e => by
    have := Heap.lt_size e
    exact ⟨by rw [hC]; exact Nat.ne_of_lt (Nat.lt_succ_of_lt this), Nat.ne_of_lt this⟩
  have old : HLe s₂.heap h₁ := fun b o e => hsb₁.extBut b o (below b o e).1 (Heap.get?_push_of_some _ (hH2 ▸ Heap.get?_push_of_some _ e))
  have hDl : h₁.get? s₂.heap.objs.size = some (listOf ([] : List Value).toArray 0) := hsb₁.extBut _ _ hDC (Heap.get?_push_of_some _ (hH2 ▸ Heap.get?_push_size _ rfl))
  have nC : s₂.heap.get? H2.objs.size = none := none_size _ (by rw [hC]; exact Nat.le_succ _)
  have nD : s₂.heap.get? s₂.heap.objs.size = none := none_size _ (Nat.le_refl _)
  have wrP : ∀ b ∈ wr, ∃ o, s₂.heap.get? b = some o := fun b hb => (hwr b hb).2
  let X' : Addr → Prop := fun a => X a ∨ a = H2.objs.size ∨ a = s₂.heap.objs.size ∨ a ∈ wr
  (refine e1_2 ?_ (hIts X' (fun b hb => .inr (.inr (.inr hb))) fun a o xa aw e q => by
    rcases q with q | q | q | q
    · exact xa q
    · rw [q, nC] at e; cases e
    · rw [q, nD] at e; cases e
    · exact aw q); intro St hSt hI)
  have base2 : HLe base s₂.heap := fun b o e => kle k₂ b o (R.ba b o e)
  have R₄ : RdM base (compEnvC scope cl H2.objs.size env) X' (compSto scope σ) h₁ (fun x => List.lookup x ([] : List (Str × Value)).reverse) := {
    fn := S.kind, gl := R.gl, bl := R.bl
    ba := fun b o e => old b o (base2 b o e)
    pres := fun a xa => by
      rcases xa with xa | xa | xa | xa
      · (refine e1_1 ?_ (R.pres a xa); intro o e); exact ⟨o, old _ _ (kle k₂ _ _ e)⟩
      · rw [xa]; (refine e3_2 ?_ hns₁; clear hns₁; intro o es ep h1 _); exact ⟨o, h1⟩
      · rw [xa]; exact ⟨_, hDl⟩
      · (refine e1_1 ?_ (wrP a xa); intro o e); exact ⟨o, old _ _ e⟩
    ns := hns₁
    ci := fun x hx => by
      exact hcl2 x (kind_cell R S hx).1
    cellAt := fun x c h1 h2 => by
      have hK := (kind_cell R S h1).2
      (refine e1_1 ?_ (R.cellAt x c hK (hcl1 x c h2)); intro u hu)
      exact ⟨u, hu.keeps fun b o e => old _ _ (kle k₂ _ _ e)⟩
    vals := fun x d e => by
      (refine e0_2 ?_ (compSto_some e); intro hf zz1; refine e1_2 ?_ zz1; clear zz1; intro d' hσ e)
      obtain rfl := Slot.val.inj e
      clear e
      (refine e1_2 ?_ (R.vals x _ hσ); intro v cu r)
      have hK : env.scope.names.lookup x = some .cell := by
        rcases S.each x _ (lookup_mem hf) with ⟨a, _⟩ | ⟨_, _, c⟩ | a
        · cases a
        · exact c
        · cases a
      refine ⟨v, ⟨cu.1, .inr ⟨?_, ?_⟩⟩, r.to fun a o xa e => ⟨fun q => ?_, old _ _ (kle k₂ _ _ e)⟩⟩
      · rw [kind_rel R, hf]; simp [hK]
      · rcases cu.2 with ⟨a, _⟩ | ⟨_, c, hc, hi⟩
        · rw [show env.kindOf x = _ from hK] at a; cases a
        · (refine e1_1 ?_ (hcl2 x hf); intro c' hc')
          have := hcl1 x c' hc'
          rw [hc] at this; cases this
          exact ⟨c, hc', hi.keeps fun b o e => old _ _ (kle k₂ _ _ e)⟩
      · have e2 := kle k₂ _ _ e
        rcases q with q | q | q | q
        · exact xa q
        · rw [q, nC] at e2; cases e2
        · rw [q, nD] at e2; cases e2
        · rw [(hwr a q).1] at e; cases e
    owns := fun x xs e => let ⟨_, _, _, e⟩ := compSto_some e; nomatch e }
  have loop : ∀ s₃ : Shared, s₃ = { s₂ with heap := h₁, toks := s₂.toks + ([] : List (Str × Value)).length } →
      codeAny (model prog w) A (.compLoop (.ListComp elt (⟨t, i, ifs, 0⟩ :: gs) scope pos) 0 (.ref I) (.ref s₂.heap.objs.size) (compEnvC scope cl H2.objs.size env)) (compPost (model prog w) A NoE use Q (.ref s₂.heap.objs.size) H2.objs.size) s₃ := by
    rintro s₃ rfl
    have k₃ : Keeps s { s₂ with heap := h₁, toks := s₂.toks + ([] : List (Str × Value)).length } := ktr k₂ (keeps_heap s₂ h₁ _ old)
    refine hloop items s (compEnvC scope cl H2.objs.size env) s₂.heap.objs.size I wr St X' _ _ hP k₃ (none_old (kle k₂) nD) (none_old (kle k₂) nC) (fun b hb => (hwr b hb).1) rfl (fun y hy => ?_) (rel_names R) R₄ ?_ hDC.symm ?_ ?_ ?_ hI (hSt _ old) hDl
    · have hK : env.scope.names.lookup y = some .cell := by
        rcases S.each y _ (lookup_mem hy) with ⟨a, _⟩ | ⟨_, _, c⟩ | a
        · cases a
        · exact c
        · cases a
      (refine e1_1 ?_ (hcl2 y hy); intro c hc)
      refine ⟨?_, c, hcl1 _ _ hc, hc⟩
      rw [kind_rel R, hy]; simp [hK]
    · intro x xs e
      (refine e0_2 ?_ (compSto_some e); intro _ zz1; refine e1_2 ?_ zz1; clear zz1; intro _ _ e)
      cases e
    · intro hm; (refine e1_1 ?_ (wrP _ hm); intro o e); rw [show s₂.heap.get? (compEnvC scope cl H2.objs.size env).locals = none from nC] at e; cases e
    · intro hm; (refine e1_1 ?_ (wrP _ hm); intro o e); rw [nD] at e; cases e
    · intro x c h1 h2
      have h3 := hcl1 x c h2
      have hK := (kind_cell R S h1).2
      (refine e1_1 ?_ (R.cellAt x c hK h3); intro u hu)
      (refine e1_2 ?_ hu; clear hu; intro o ho _)
      have e2 := kle k₂ _ _ ho
      exact ⟨(below _ _ e2).1, (below _ _ e2).2, fun q => by rw [(hwr c q).1] at ho; cases ho⟩
  exact codeAny_compStart_list (loop _ rfl) (wpAny_mono (hI.self 0 _ (hSt _ old)) (fun it' s' x => by (refine e0_2 ?_ x; clear x; intro zz1 zz2; subst zz1; subst zz2); exact loop _ rfl) fun _ _ x => x.elim)
end
end Mine
end
noncomputable section
open PySem PySem.W PyProof.Rows PySem.Calls PySem.Spec
set_option Elab.async false
set_option linter.all false
namespace Mine

section
variable {prog : Program} {w : World} {A : Around} {X : Addr → Prop} {base : Heap} {mg mb : Str → Option Value} {env : Env} {σ τ : Sto} {s s₀ : Shared} {m : Str → Option Value} {B J : Addr} {k : Int}

theorem RdM.less {τ τ1 : Sto} {h : Heap} (R : RdM base env X τ1 h m) (k : ∀ y sl, τ y = some sl → τ1 y = some sl) : RdM base env X τ h m :=
  { R with vals := fun x d e => R.vals x d (k _ _ e), owns := fun x xs e => R.owns x xs (k _ _ e) }

/-- the box stands in a cell -/
noncomputable def BoxC (env : Env) (h : Heap) (B : Addr) : Prop := env.kindOf ("box" : Str) = some .cell ∧ ∃ c, env.cells.lookup ("box" : Str) = some c ∧ h.IsCell c (some (.ref B))
theorem BoxC.to {h h' : Heap} (x : BoxC env h B) (k : ∀ c o, env.cells.lookup ("box" : Str) = some c → h.get? c = some o → h'.get? c = some o) : BoxC env h' B :=
  let ⟨a, c, e, i⟩ := x; ⟨a, c, e, cell_congr i fun o q => k c o e q⟩
theorem Box.getB {h : Heap} (x : Box B J h k) : ∃ vs n, h.get? B = some (listOf vs n) := let ⟨_, _, e⟩ := x.b; ⟨_, _, e⟩
theorem Box.getJ {h : Heap} (x : Box B J h k) : ∃ vs n, h.get? J = some (listOf vs n) := let ⟨_, _, _, e, _⟩ := x.i; ⟨_, _, e⟩

theorem poly_loop {elt iter : Expr} {scope : Scope} {pos px : Pos} {x : Str} {D I : Addr} {wr : List Addr} {items : List PyData} {St : Nat → Heap → Prop} {p k₀ : Int}
    (hh : A.handled = none)
    (hI : Its prog w A X (.Name x px) I wr items St) (hC : X env.locals) (hD : X D) (hCD : env.locals ≠ D) (hCw : env.locals ∉ wr) (hDw : D ∉ wr)
    (hB : X B ∧ B ≠ env.locals ∧ B ≠ D ∧ B ∉ wr) (hJ : X J ∧ J ≠ env.locals ∧ J ≠ D ∧ J ∉ wr)
    (hcell : ∀ x c, env.kindOf x = some .cell → env.cells.lookup x = some c → c ≠ env.locals ∧ c ≠ D ∧ c ∉ wr)
    (hbase : base.get? env.locals = none ∧ base.get? D = none ∧ (∀ b ∈ wr, base.get? b = none) ∧ base.get? B = none ∧ base.get? J = none)
    (hno : ∀ x xs, τ x ≠ some (.own xs)) (ht : tgtLoc (.Name x px) env.scope.names = true) (hun : τ x = none)
    (hk : 0 ≤ k₀) (hlen : items.length ≤ 100)
    (hemit : ∀ s m k (acc : List Int) vs n, RdM base env X τ s.heap m → BoxC env s.heap B → Box B J s.heap k → 0 ≤ k → k ≤ k₀ + items.length → s.heap.get? D = some (listOf vs.toArray n) → RpA X s.heap vs (acc.map .int) → acc.length ≤ 100 →
      wpAny (model prog w) A (do let _ ← call (.builtin "list.append") [.ref D, ← eval elt env] : Sem Unit) (fun _ s' => Ch (fun b => b = D ∨ b = B ∨ b = J) s s' ∧ Box B J s'.heap (k + 1) ∧ ∃ r vs' n', 0 ≤ r ∧ r < p ∧ s'.heap.get? D = some (listOf vs'.toArray n') ∧ RpA X s'.heap vs' ((acc ++ [r]).map .int)) NoE s)
    (R : RdM base env X τ s.heap m) (hbc : BoxC env s.heap B) (hbox : Box B J s.heap k₀) (hst : St 0 s.heap) (hDl : s.heap.get? D = some (listOf ([] : List Value).toArray 0)) :
    codeAny (model prog w) A (.compLoop (LC1 elt (.Name x px) iter [] scope pos) 0 (.ref I) (.ref D) env) (fun r s' => r = .ok .next ∧ Ch (fun b => b = env.locals ∨ b = D ∨ b ∈ wr ∨ b = B ∨ b = J) s s' ∧
      (∃ m', s'.heap.Ns env.locals m') ∧ ∃ (xs : List Int) (vs' : List Value) (n' : Nat), s'.heap.get? D = some (listOf vs'.toArray n') ∧ RpA X s'.heap vs' (xs.map .int) ∧ xs.length = items.length ∧ (∀ a ∈ xs, 0 ≤ a ∧ a < p) ∧ Box B J s'.heap (k₀ + items.length)) s := by
  refine post_any fun R' hR => ?_
  let W : Addr → Prop := fun b => b = env.locals ∨ b = D ∨ b ∈ wr ∨ b = B ∨ b = J
  let K : Nat → Shared → Prop := fun n s' => ∃ (i : Nat) (m' : Str → Option Value) (vs : List Value) (nn : Nat) (acc : List Int), i ≤ items.length ∧ n = items.length + 1 - i ∧ Ch W s s' ∧ RdM base env X τ s'.heap m' ∧ BoxC env s'.heap B ∧
    s'.heap.get? D = some (listOf vs.toArray nn) ∧ RpA X s'.heap vs (acc.map PyData.int) ∧ St i s'.heap ∧ acc.length = i ∧ (∀ a ∈ acc, 0 ≤ a ∧ a < p) ∧ Box B J s'.heap (k₀ + i)
  refine codeAny_loop rfl K (fun n s' hK => ?_) (items.length + 1) ⟨0, m, [], 0, [], Nat.zero_le _, rfl, Ch.refl _ _, R, hbc, hDl, .nil, hst, rfl, by simp, by simpa using hbox⟩
  (refine e5_10 ?_ hK; clear hK; intro i m₁ vs nn acc hi zz1 c R₁ bc₁ hDl₁ hacc₁ st hal zz2; subst zz1; refine e0_2 ?_ zz2; clear zz2; intro hap hbx₁)
  show wpAny _ A ((compTurn (LC1 elt (.Name x px) iter [] scope pos) 0 (.ref I) (.ref D) env).onRaise (fun x => do noteFrame x env; theTreesLotGoes x)) _ _ s'
  refine wpAny_noted ?_
  rw [turn_one]
  unfold turnForm
  refine wpAny_bind (wpAny_standAt (wpAny_bind ?_))
  have hnc : ∀ {s' : Shared} {m' : Str → Option Value} {k : Int}, RdM base env X τ s'.heap m' → Box B J s'.heap k → ∀ y c, env.kindOf y = some .cell → env.cells.lookup y = some c → c ≠ B ∧ c ≠ J := fun R' b' y c h1 h2 => by
    (refine e1_1 ?_ (R'.cellAt y c h1 h2); intro u i)
    (refine e2_1 ?_ b'.getB; intro _ _ e1)
    (refine e2_1 ?_ b'.getJ; intro _ _ e2)
    exact ⟨fun q => cell_not_list i (q ▸ e1), fun q => cell_not_list i (q ▸ e2)⟩
  by_cases hlt : i < items.length
  · have hd : items[i]? = some items[i] := by simp [hlt]
    refine wpAny_mono (hI.item i items[i] s' hd st R₁.pres) (fun r s₁ xx => ?_) fun _ _ x => x.elim
    (refine e1_2 ?_ xx; clear xx; intro v zz1 xx; subst zz1)
    dsimp only
    refine wpAny_bind (wpAny_mono xx (fun _ s₂ y => ?_) fun _ _ x => x.elim)
    (refine e0_3 ?_ y; clear y; intro c₂ rv st₂)
    have R₂ : RdM base env X τ s₂.heap m₁ := R₁.back c₂ hI.wrX (hI.pres _ _ st₂) hbase.2.2.1 (R₁.ns.at' fun o e => c₂.at hCw e) (fun _ _ => rfl) hno fun x cc h1 h2 => (hcell x cc h1 h2).2.2
    refine wpAny_bind (wpAny_mono (s_bind_local hh R₂ (show bindT (.Name x px) items[i] τ = some (setS τ x (.val items[i])) from rfl) ht hC hbase.1 rv) (fun _ s₃ y => ?_) fun _ _ x => x.elim)
    (refine e0_2 ?_ y; clear y; intro c₃ zz1; refine e1_2 ?_ zz1; clear zz1; intro m₃ R₃' ag₃)
    have R₃ : RdM base env X τ s₃.heap m₃ := R₃'.less fun y sl e => by
      by_cases q : y = x
      · rw [q, hun] at e; cases e
      · exact (setS_off q).trans e
    refine wpAny_bind (wpAny_pure ?_)
    have hcl : ∀ c, env.cells.lookup ("box" : Str) = some c → c ≠ env.locals ∧ c ≠ D ∧ c ∉ wr := fun c e => hcell "box" c hbc.1 e
    have hD₃ : s₃.heap.get? D = some (listOf vs.toArray nn) := c₃.at hCD.symm (c₂.at hDw hDl₁)
    have f23 : ∀ a o, ¬ X a → s'.heap.get? a = some o → s₃.heap.get? a = some o := fun a o xa e => (c₃.at (fun q => xa (q ▸ hC)) (c₂.at (fun q => xa (hI.wrX a q)) e))
    have hacc₃ : RpA X s₃.heap vs (acc.map .int) := hacc₁.to fun a o xa e => ⟨xa, f23 a o xa e⟩
    have c23 : Ch (fun b => b = env.locals ∨ b ∈ wr) s' s₃ := c₂.tr c₃ (W'' := fun b => b = env.locals ∨ b ∈ wr) fun d o nd _ => ⟨fun q => nd (.inr q), fun q => nd (.inl q)⟩
    have st₃ : St (i + 1) s₃.heap := hI.frame _ _ _ st₂ fun b o hb e => c₃.at (fun q => by
      subst q
      rcases hb with hb | hb
      · exact hb hC
      · exact hCw hb) e
    have hbx₃ : Box B J s₃.heap (k₀ + i) := hbx₁.keep (fun o e => c23.at (fun q => q.elim hB.2.1 hB.2.2.2) e) fun o e => c23.at (fun q => q.elim hJ.2.1 hJ.2.2.2) e
    have bc₃ : BoxC env s₃.heap B := bc₁.to fun c o e q => c23.at (fun z => z.elim (hcl c e).1 (hcl c e).2.2) q
    have em := hemit s₃ m₃ (k₀ + i) acc vs nn R₃ bc₃ hbx₃ (by lia) (by lia) hD₃ hacc₃ (by lia)
    refine wpAny_bind (wpAny_mono em (fun _ s₅ y => wpAny_pure ?_) fun _ _ x => x.elim)
    (refine e0_3 ?_ y; clear y; intro c₅ hbx₅ zz1; refine e3_4 ?_ zz1; clear zz1; intro r vs₅ n₅ r0 r1 hD₅ hacc₅)
    have st₅ : St (i + 1) s₅.heap := hI.frame _ _ _ st₃ fun b o hb e => c₅.at (fun q => by
      rcases q with rfl | rfl | rfl
      · exact hb.elim (fun z => z hD) hDw
      · exact hb.elim (fun z => z hB.1) hB.2.2.2
      · exact hb.elim (fun z => z hJ.1) hJ.2.2.2) e
    have c25 : Ch W s' s₅ := c23.tr c₅ fun d o nd _ => ⟨fun q => nd (q.elim .inl fun q => .inr (.inr (.inl q))), fun q => nd (q.elim (fun q => .inr (.inl q)) fun q => q.elim (fun q => .inr (.inr (.inr (.inl q)))) fun q => .inr (.inr (.inr (.inr q))))⟩
    have ns₅ : s₅.heap.Ns env.locals m₃ := R₃.ns.at' fun o e => c₅.at (fun q => q.elim hCD fun q => q.elim (fun q => hB.2.1 q.symm) fun q => hJ.2.1 q.symm) e
    refine ⟨rfl, items.length + 1 - (i + 1), by lia, i + 1, m₃, vs₅, n₅, acc ++ [r], hlt, rfl, c.tr c25 fun d o nd _ => ⟨nd, nd⟩, ?_, ?_, hD₅, hacc₅, st₅, by simp [hal], ?_, ?_⟩
    · refine R₃.back c₅ (fun a q => ?_) (fun a q => ?_) (fun a q => ?_) ns₅ (fun _ _ => rfl) hno fun y cc h1 h2 q => ?_
      · rcases q with rfl | rfl | rfl
        · exact hD
        · exact hB.1
        · exact hJ.1
      · rcases q with rfl | rfl | rfl
        · exact ⟨_, hD₅⟩
        · (refine e2_1 ?_ hbx₅.getB; intro _ _ e); exact ⟨_, e⟩
        · (refine e2_1 ?_ hbx₅.getJ; intro _ _ e); exact ⟨_, e⟩
      · rcases q with rfl | rfl | rfl
        · exact hbase.2.1
        · exact hbase.2.2.2.1
        · exact hbase.2.2.2.2
      · rcases q with q | q | q
        · exact (hcell y cc h1 h2).2.1 q
        · exact (hnc R₃ hbx₃ y cc h1 h2).1 q
        · exact (hnc R₃ hbx₃ y cc h1 h2).2 q
    · exact bc₃.to fun c o e q => c₅.at (fun z => by
        rcases z with z | z | z
        · exact (hcl c e).2.1 z
        · exact (hnc R₃ hbx₃ "box" c bc₃.1 e).1 z
        · exact (hnc R₃ hbx₃ "box" c bc₃.1 e).2 z) q
    · intro a ha
      rcases List.mem_append.mp ha with ha | ha
      · exact hap a ha
      · rw [List.mem_singleton.mp ha]; exact ⟨r0, r1⟩
    · have e1 : k₀ + ((i + 1 : Nat) : Int) = k₀ + i + 1 := by push_cast; lia
      rw [e1]; exact hbx₅
  · have hin : i = items.length := by lia
    subst hin
    refine wpAny_mono (hI.done s' st) (fun r s₁ x => ?_) fun _ _ x => x.elim
    (refine e0_2 ?_ x; clear x; intro zz1 c₁; subst zz1)
    refine wpAny_pure (hR (.ok .next) _ ⟨rfl, c.tr c₁ fun d o nd _ => ⟨nd, fun q => nd (.inr (.inr (.inl q)))⟩, ⟨m₁, R₁.ns.at' fun o e => c₁.at hCw e⟩, acc, vs, nn, c₁.at hDw hDl₁, hacc₁.to fun a o xa e => ⟨xa, c₁.at (fun q => xa (hI.wrX a q)) e⟩, hal, hap, ?_⟩)
    exact hbx₁.keep (fun o e => c₁.at hB.2.2.2 e) fun o e => c₁.at hJ.2.2.2 e
end
end Mine
end
noncomputable section
open PySem PySem.W PyProof.Rows PySem.Calls PySem.Spec
set_option Elab.async false
set_option linter.all false
namespace Mine

section
variable {prog : Program} {w : World} {A : Around} {X : Addr → Prop} {base : Heap} {mg mb : Str → Option Value} {env : Env} {σ τ : Sto} {s s₀ : Shared} {m : Str → Option Value} {B J : Addr} {k mm : Int} {n : Nat} {O : Orc} {fv : Value}

theorem take_eval {fp pb p : Pos} {ae : Expr} (Bg' : Bg base mg mb) (R : RdM base env X σ s.heap m) (hf : mg "_law_take" = some fv) (hK : KeepOk prog w base fv) (hT : TakeOk prog w base n fv) (rm : Room A n)
    (hk : env.kindOf "_law_take" = some .globalImplicit) (bB : base.get? B = none) (bJ : base.get? J = none) (hbx : Box B J s.heap k) (k0 : 0 ≤ k) (k1 : k ≤ 1000) (m0 : 1 ≤ mm) (m1 : mm ≤ 100)
    (hb : ∀ (Q : Value → Shared → Prop), Q (.ref B) s → wpAny (model prog w) A (eval (.Name "box" pb) env) Q NoE s)
    (hs : ∀ v p, ae ≠ .Starred v p) (ha : wpAny (model prog w) A (eval ae env) (fun v s'' => Keeps s s'' ∧ ∃ t, v = .int mm t) NoE s) :
    wpAny (model prog w) A (eval (.Call (.Name "_law_take" fp) [.Name "box" pb, ae] [] p) env) (fun v s' => (∃ r t, v = .int r t ∧ 0 ≤ r ∧ r < mm) ∧ Ch (fun b => b = B ∨ b = J) s s' ∧ Box B J s'.heap (k + 1)) NoE s := by
  refine wpAny_Call_NameR (s_glob Bg' R hk rfl (.inl hf) ?_)
  refine s_callWith hK R.ba ?_ ?_ ?_
  · rw [starEach_cons (fun _ _ q => by cases q)]; simp [backTo]
  · rw [starEach_cons (fun _ _ q => by cases q), starEach_cons hs]; rfl
  · rw [starEach_cons (fun _ _ q => by cases q), starEach_cons hs]
    show wpAny (model prog w) A (spliced [(false, eval (.Name "box" pb) env), (false, eval ae env)]) _ NoE s
    refine spliced_cons (hb _ (spliced_cons (wpAny_mono ha (fun v s₁ y => spliced_nil ⟨y.1, ?_⟩) fun _ _ x => x)))
    (refine e0_2 ?_ y; clear y; intro kk zz1; refine e1_1 ?_ zz1; clear zz1; intro t zz2; subst zz2)
    have kx := hbx.keep (fun o e => kle kk _ _ e) fun o e => kle kk _ _ e
    refine wpAny_mono (hT A s₁ B J k mm t rm (fun b o e => kle kk _ _ (R.ba b o e)) bB bJ k0 k1 m0 m1 kx) (fun v s₂ z => ⟨z.1, ?_, z.2.2⟩) fun _ _ x => x
    exact (kch kk fun _ => False).tr z.2.1 fun d o nd _ => ⟨id, nd⟩

theorem box_of_cell {pb : Pos} {Q : Value → Shared → Prop} (R : RdM base env X σ s.heap m) (h : BoxC env s.heap B) (hQ : Q (.ref B) s) : wpAny (model prog w) A (eval (.Name "box" pb) env) Q NoE s :=
  s_cur R ⟨rfl, .inr h⟩ hQ

theorem take_emit {fp pb pp p : Pos} {pI : Int} {D : Addr} {acc : List Int} {vs : List Value} {nn : Nat} (Bg' : Bg base mg mb) (R : RdM base env X σ s.heap m) (hf : mg "_law_take" = some fv) (hK : KeepOk prog w base fv) (hT : TakeOk prog w base n fv) (rm : Room A n)
    (hk : env.kindOf "_law_take" = some .globalImplicit) (bB : base.get? B = none) (bJ : base.get? J = none) (hbx : Box B J s.heap k) (k0 : 0 ≤ k) (k1 : k ≤ 1000) (m0 : 1 ≤ pI) (m1 : pI ≤ 100)
    (hbc : BoxC env s.heap B) (hp : rdV σ "p" = some (.int pI)) (hDl : s.heap.get? D = some (listOf vs.toArray nn)) (hacc : RpA X s.heap vs (acc.map .int)) (hal : acc.length ≤ 100) (hDB : D ≠ B ∧ D ≠ J) :
    wpAny (model prog w) A (do let _ ← call (.builtin "list.append") [.ref D, ← eval (.Call (.Name "_law_take" fp) [.Name "box" pb, .Name "p" pp] [] p) env] : Sem Unit) (fun _ s' => Ch (fun b => b = D ∨ b = B ∨ b = J) s s' ∧ Box B J s'.heap (k + 1) ∧
      ∃ (r : Int) (vs' : List Value) (n' : Nat), 0 ≤ r ∧ r < pI ∧ s'.heap.get? D = some (listOf vs'.toArray n') ∧ RpA X s'.heap vs' ((acc ++ [r]).map .int)) NoE s := by
  refine wpAny_bind (wpAny_mono (take_eval Bg' R hf hK hT rm hk bB bJ hbx k0 k1 m0 m1 (fun Q hQ => box_of_cell R hbc hQ) (fun _ _ q => by cases q) (wpAny_mono (s_rdV R hp) (fun v s₁ x => ⟨x.1, by (refine e0_2 ?_ x; clear x; intro _ y); cases y; exact ⟨_, rfl⟩⟩) fun _ _ x => x)) (fun v s₁ x => wpAny_bind ?_) fun _ _ x => x)
  (refine e0_3 ?_ x; clear x; intro zz1 c bx; refine e2_3 ?_ zz1; clear zz1; intro r t zz2 r0 r1; subst zz2)
  have g₁ : s₁.heap.get? D = some (listOf vs.toArray nn) := c.at (fun q => q.elim hDB.1 hDB.2) hDl
  have hlen := hacc.length
  refine wpAny_list_append_plain ⟨nn, g₁⟩ (fun h' hp hs => ?_) (by rw [List.size_toArray, hlen, sizeLine_eq]; simp; lia)
  (refine e1_1 ?_ hp; clear hp; intro n' g')
  refine wpAny_pure ⟨?_, ?_, r, vs ++ [.int r t], n', r0, r1, ?_, ?_⟩
  · exact c.tr (ch_heap (W := fun b => b = D) s₁ h' s₁.toks fun b o nb e => (hs.2 b nb).trans e) fun d o nd _ => ⟨fun q => nd (.inr q), fun q => nd (.inl q)⟩
  · exact bx.keep (fun o e => (hs.2 B hDB.1.symm).trans e) fun o e => (hs.2 J hDB.2.symm).trans e
  · have : vs.toArray.push (Value.int r t) = (vs ++ [Value.int r t]).toArray := by simp
    rw [← this]; exact g'
  · rw [List.map_append]
    exact (ints_any hacc).append (.cons (.int _ _) .nil)
end
end Mine
end
noncomputable section
open PySem PySem.W PyProof.Rows PySem.Calls PySem.Spec
set_option Elab.async false
set_option linter.all false
namespace Mine

noncomputable def scP : Scope := match (fdef 34).body with
  | [.Return (some (.BinOp (.ListComp _ _ sc _) _ _ _)) _] => sc
  | _ => noScope
/-- what is written or held apart in _law_poly -/
noncomputable def XB (env : Env) (B J : Addr) (a : Addr) : Prop := a = env.locals ∨ (∃ x, env.kindOf x = some .cell ∧ env.cells.lookup x = some a) ∨ a = B ∨ a = J
noncomputable def ptS (p most : Int) : Sto := fun y => if y = "p" then some (.val (.int p)) else if y = "most" then some (.val (.int most)) else none

section
variable {prog : Program} {w : World} {A : Around} {base : Heap} {mg mb : Str → Option Value} {env : Env} {s s₀ : Shared} {m : Str → Option Value} {B J : Addr} {k P most : Int} {n : Nat} {O : Orc} {fv : Value}

theorem rangeL_len {r : Int} (h0 : 0 ≤ r) : (rangeL 0 r 1).length = r.toNat := by
  unfold rangeL Builtin.Range.rangeSize
  simp
  split
  · lia
  · lia

theorem ptno : ∀ x xs, ptS P most x ≠ some (.own xs) := fun x xs e => by
  unfold ptS at e
  split at e
  · cases e
  · split at e <;> cases e
theorem XB.back {s' : Shared} (R : RdM base env (XB env B J) (ptS P most) s.heap m) (c : Ch (fun b => b = B ∨ b = J) s s') (bB : base.get? B = none) (bJ : base.get? J = none) (hbx : Box B J s.heap k) {k' : Int} (hbx' : Box B J s'.heap k') (hBL : B ≠ env.locals ∧ J ≠ env.locals) :
    RdM base env (XB env B J) (ptS P most) s'.heap m := by
  refine R.back c (fun a q => ?_) (fun a q => ?_) (fun a q => ?_) (R.ns.at' fun o e => c.at (fun q => q.elim (fun q => hBL.1 q.symm) fun q => hBL.2 q.symm) e) (fun _ _ => rfl) ptno fun x cc h1 h2 q => ?_
  · exact .inr (.inr q)
  · rcases q with rfl | rfl
    · (refine e2_1 ?_ hbx'.getB; intro _ _ e); exact ⟨_, e⟩
    · (refine e2_1 ?_ hbx'.getJ; intro _ _ e); exact ⟨_, e⟩
  · rcases q with rfl | rfl
    · exact bB
    · exact bJ
  · (refine e1_1 ?_ (R.cellAt x cc h1 h2); intro u i)
    (refine e2_1 ?_ hbx.getB; intro _ _ e1)
    (refine e2_1 ?_ hbx.getJ; intro _ _ e2)
    rcases q with q | q
    · exact cell_not_list i (q ▸ e1)
    · exact cell_not_list i (q ▸ e2)
theorem BoxC.back {s' : Shared} (h : BoxC env s.heap B) (c : Ch (fun b => b = B ∨ b = J) s s') (hbx : Box B J s.heap k) : BoxC env s'.heap B := by
  (refine e0_2 ?_ h; clear h; intro a zz1; refine e1_2 ?_ zz1; clear zz1; intro cc e i)
  (refine e2_1 ?_ hbx.getB; intro _ _ e1)
  (refine e2_1 ?_ hbx.getJ; intro _ _ e2)
  exact ⟨a, cc, e, cell_congr i fun o q => c.at (fun z => z.elim (fun z => cell_not_list i (z ▸ e1)) fun z => cell_not_list i (z ▸ e2)) q⟩

theorem poly_list {q1 q2 q3 q4 q5 q6 q7 q8 q9 q10 q11 q12 : Pos} (Bg' : Bg base mg mb) (R₀ : RdM base env (XB env B J) (ptS P most) s₀.heap m) (hsc : env.scope = (fdef 34).scope) (hf : mg "_law_take" = some fv) (hK : KeepOk prog w base fv) (hT : TakeOk prog w base n fv) (rm : Room A n)
    (bB : base.get? B = none) (bJ : base.get? J = none) (hbx : Box B J s₀.heap k) (k0 : 0 ≤ k) (k1 : k ≤ 500) (hP : 2 ≤ P ∧ P ≤ 5) (hM : 1 ≤ most ∧ most ≤ 10) (hbc : BoxC env s₀.heap B) (hBL : B ≠ env.locals ∧ J ≠ env.locals) :
    wpAny (model prog w) A (eval (.ListComp (.Call (.Name "_law_take" q1) [.Name "box" q2, .Name "p" q3] [] q4)
        [⟨.Name "at" q5, .Call (.Name "range" q6) [.Call (.Name "_law_take" q7) [.Name "box" q8, .Name "most" q9] [] q10] [] q11, [], 0⟩] scP q12) env)
      (fun v s' => ∃ (xs : List Int) (k' : Int), Rp (XB env B J) s'.heap v (L xs) ∧ (xs.length : Int) < most ∧ (∀ a ∈ xs, 0 ≤ a ∧ a < P) ∧ Ch (fun b => b = B ∨ b = J) s₀ s' ∧ k ≤ k' ∧ k' ≤ k + 15 ∧ Box B J s'.heap k') NoE s₀ := by
  rw [eval_ListComp]
  have S : ScopeOk scP env.scope.names := by rw [hsc]; exact scopeOk_spec (by decide +kernel)
  refine comp_core2 (Pst := fun items s => ∃ r : Int, items = rangeL 0 r 1 ∧ 0 ≤ r ∧ r < most ∧ Ch (fun b => b = B ∨ b = J) s₀ s ∧ Box B J s.heap (k + 1)) R₀ S (fun _ => rfl) ?_ ?_
  · have hkt : env.kindOf "_law_take" = some .globalImplicit := by show env.scope.names.lookup _ = _; rw [hsc]; decide +kernel
    have hkr : env.kindOf "range" = some .globalImplicit := by show env.scope.names.lookup _ = _; rw [hsc]; decide +kernel
    refine wpAny_Call_NameR (s_glob Bg' R₀ hkr rfl (.inr Bg'.range) ?_)
    have te := take_eval (mm := most) (fp := q7) (pb := q8) (p := q10) (ae := .Name "most" q9) Bg' R₀ hf hK hT rm hkt bB bJ hbx k0 (by lia) (by lia) (by lia) (fun Q hQ => box_of_cell R₀ hbc hQ) (fun _ _ q => by cases q)
      (wpAny_mono (s_rdV R₀ (show rdV (ptS P most) "most" = some (.int most) by show (ptS P most "most").bind valS = _; rw [show ptS P most "most" = some (.val (.int most)) by simp [ptS, str_inj]]; rfl)) (fun v s₁ x => ⟨x.1, by (refine e0_2 ?_ x; clear x; intro _ y); cases y; exact ⟨_, rfl⟩⟩) fun _ _ x => x)
    rw [starEach_cons (fun _ _ q => by cases q)]
    show wpAny (model prog w) A (callWith q11 (.type "range") [] [(false, eval _ env)] []) _ NoE s₀
    refine callWith_of (P := HLe base) (by simp) (fun h hh => ⟨.machine, .inr (.inl rfl), Looks.now⟩) (evalArgs_plain ?_)
    refine spliced_cons (wpAny_mono te (fun v s₁ x => spliced_nil ?_) fun _ _ x => x)
    (refine e0_3 ?_ x; clear x; intro zz1 c bx; refine e2_3 ?_ zz1; clear zz1; intro r t zz2 r0 r1; subst zz2)
    have R₁ := XB.back R₀ c bB bJ hbx bx hBL
    refine ⟨R₁.ba, ?_⟩
    have hsm : smallI r = true := small_of (by lia)
    refine call_range_1 ⟨rangeL 0 r 1, ⟨r, rfl, r0, r1, c.tr (kch (keeps_push _ _ _) fun _ => False) fun d o nd _ => ⟨nd, id⟩, bx.keep (fun o e => kle (keeps_push s₁ _ _) _ _ e) fun o e => kle (keeps_push s₁ _ _) _ _ e⟩, R₁.up (kle (keeps_push s₁ _ _)), ?_⟩
    exact (itr_rangeObj rm.h (keeps_refl _) (IsRange.new ..) (size_small (by decide) hsm (by decide))).o
  · (intro items s cenv D I wr St X' s₄ m₄ zz1; refine e1_5 ?_ zz1; clear zz1; intro r zz2 r0 r1 c bx; subst zz2; intro k₄ hD hL hwr hX hfree hnm R₄ hno hCD hCw hDw hcell hI hst hDl)
    have bx₄ : Box B J s₄.heap (k + 1) := bx.keep (fun o e => kle k₄ _ _ e) fun o e => kle k₄ _ _ e
    have hbc₁ := hbc.back c hbx
    have hbc₄ : BoxC cenv s₄.heap B := by
      (refine e0_2 ?_ (hfree "box" (by decide +kernel)); intro hk zz1; refine e1_2 ?_ zz1; clear zz1; intro cc e1 e2)
      (refine e0_2 ?_ hbc₁; clear hbc₁; intro _ zz1; refine e1_2 ?_ zz1; clear zz1; intro cc' e3 i)
      rw [e3] at e1; cases e1
      exact ⟨hk, _, e2, i.keeps (kle k₄)⟩
    (refine e2_1 ?_ bx.getB; intro _ _ gB)
    (refine e2_1 ?_ bx.getJ; intro _ _ gJ)
    have hBD : B ≠ D := fun q => by rw [q, hD] at gB; cases gB
    have hJD : J ≠ D := fun q => by rw [q, hD] at gJ; cases gJ
    have hBC : B ≠ cenv.locals := fun q => by rw [q, hL] at gB; cases gB
    have hJC : J ≠ cenv.locals := fun q => by rw [q, hL] at gJ; cases gJ
    have hBw : B ∉ wr := fun q => by rw [hwr B q] at gB; cases gB
    have hJw : J ∉ wr := fun q => by rw [hwr J q] at gJ; cases gJ
    have bb : ∀ a, s.heap.get? a = none → base.get? a = none := fun a e => by
      cases q : base.get? a with
      | none => rfl
      | some o =>
        have e2 := c.at (fun z => by
          rcases z with rfl | rfl
          · rw [bB] at q; cases q
          · rw [bJ] at q; cases q) (R₀.ba a o q)
        rw [e] at e2; cases e2
    have hXB : X' B ∧ X' J := by subst hX; exact ⟨.inl (.inr (.inr (.inl rfl))), .inl (.inr (.inr (.inr rfl)))⟩
    have hXC : X' cenv.locals ∧ X' D := by subst hX; exact ⟨.inr (.inl rfl), .inr (.inr (.inl rfl))⟩
    have ht : tgtLoc (.Name "at" q5) cenv.scope.names = true := by
      rw [hnm, hsc]
      show tgtLoc (.Name "at" ⟨0, 0, 0, 0⟩) (relNames (fdef 34).scope.names scP) = true
      decide +kernel
    have hpS : rdV (compSto scP (ptS P most)) "p" = some (.int P) := by
      have : scP.names.lookup ("p" : Str) = some .free := by decide +kernel
      show ((scP.names.lookup ("p" : Str)).bind (freeS (ptS P most) "p")).bind valS = _
      rw [this]
      show (((ptS P most "p").bind valS).map Slot.val).bind valS = _
      rw [show ptS P most "p" = some (.val (.int P)) by simp [ptS]]; rfl
    have hkt : cenv.kindOf "_law_take" = some .globalImplicit := by show cenv.scope.names.lookup _ = _; rw [hnm, hsc]; decide +kernel
    have hun : compSto scP (ptS P most) "at" = none := by
      have : scP.names.lookup ("at" : Str) = some .local := by decide +kernel
      show (scP.names.lookup ("at" : Str)).bind _ = _
      rw [this]; rfl
    have hlen := rangeL_len r0
    have pl := poly_loop (p := P) (iter := .Call (.Name "range" q6) [.Call (.Name "_law_take" q7) [.Name "box" q8, .Name "most" q9] [] q10] [] q11) (scope := scP) (pos := q12) (k₀ := k + 1) rm.h hI hXC.1 hXC.2 hCD hCw hDw ⟨hXB.1, hBC, hBD, hBw⟩ ⟨hXB.2, hJC, hJD, hJw⟩ hcell ⟨bb _ hL, bb _ hD, fun b hb => bb _ (hwr b hb), bB, bJ⟩ hno ht hun (by lia) (by rw [hlen]; lia)
      (elt := .Call (.Name "_law_take" q1) [.Name "box" q2, .Name "p" q3] [] q4) (fun s₅ m₅ k₅ acc vs nn R₅ bc₅ bx₅ p1 p2 g₅ a₅ l₅ => take_emit Bg' R₅ hf hK hT rm hkt bB bJ bx₅ p1 (by rw [hlen] at p2; lia) (by lia) (by lia) bc₅ hpS g₅ a₅ l₅ ⟨hBD.symm, hJD.symm⟩) R₄ hbc₄ bx₄ hst hDl
    refine codeAny_mono pl fun rr s' x => ?_
    (refine e0_4 ?_ x; clear x; intro zz1 c' zz2 zz3; subst zz1; refine e1_1 ?_ zz2; clear zz2; intro m' hn'; refine e3_5 ?_ zz3; clear zz3; intro xs vs' n' g' a' hl' hp' bx')
    refine ⟨m', hn', fun h' hs' => ⟨xs, k + 1 + (rangeL 0 r 1).length, ?_, ?_, hp', ?_, by lia, by rw [hlen]; lia, ?_⟩⟩
    · refine .list (fun q => ?_) ((hs'.2 D hCD.symm).trans g') (ints_any a')
      (refine e1_1 ?_ (R₀.pres D q); intro o e)
      by_cases z : D = B ∨ D = J
      · exact z.elim (fun z => hBD z.symm) fun z => hJD z.symm
      · rw [c.at z e] at hD; cases hD
    · rw [hl', hlen]; lia
    · have k4 := (c.tr (W'' := fun b => b = B ∨ b = J) (kch k₄ fun _ => False) fun d o nd _ => ⟨nd, id⟩)
      have fr : ∀ d o, ¬ (d = B ∨ d = J) → s₀.heap.get? d = some o → d ≠ cenv.locals ∧ d ≠ D ∧ d ∉ wr := fun d o nd e => by
        have e1 := c.at nd e
        refine ⟨fun q => ?_, fun q => ?_, fun q => ?_⟩
        · rw [q, hL] at e1; cases e1
        · rw [q, hD] at e1; cases e1
        · rw [hwr d q] at e1; cases e1
      have k5 := k4.tr (W'' := fun b => b = B ∨ b = J) c' fun d o nd e => ⟨nd, fun q => by
        (refine e0_3 ?_ (fr d o nd e); intro f1 f2 f3)
        rcases q with q | q | q | q
        · exact f1 q
        · exact f2 q
        · exact f3 q
        · exact nd q⟩
      (refine e2_2 ?_ k5; clear k5; intro h1 t1 zz1 kk; subst zz1)
      exact ⟨h', t1, rfl, fun b o nb e => (hs'.2 b (fr b o nb e).1).trans (kk b o nb e)⟩
    · exact bx'.keep (fun o e => (hs'.2 B hBC).trans e) fun o e => (hs'.2 J hJC).trans e
end
end Mine
end
noncomputable section
open PySem PySem.W PyProof.Rows PySem.Calls PySem.Spec
set_option Elab.async false
set_option linter.all false
namespace Mine

section
variable {prog : Program} {w : World} {A : Around} {base : Heap} {mg mb : Str → Option Value} {env : Env} {s s₀ : Shared} {m : Str → Option Value} {B J : Addr} {k P most : Int} {n : Nat} {O : Orc} {fv : Value}

noncomputable def PolyPost (B J : Addr) (k P most : Int) (s : Shared) (v : Value) (s' : Shared) : Prop := ∃ (xs : List Int) (z k' : Int), Rp (fun a => a = B ∨ a = J) s'.heap v (L (xs ++ [z])) ∧ (xs.length : Int) < most ∧ (∀ a ∈ xs, 0 ≤ a ∧ a < P) ∧ 1 ≤ z ∧ z < P ∧ Ch (fun b => b = B ∨ b = J) s s' ∧ k ≤ k' ∧ k' ≤ k + 20 ∧ Box B J s'.heap k'

theorem poly_body (Bg' : Bg base mg mb) (HO : OSound prog w base mg mb n O) (R₀ : RdM base env (XB env B J) (ptS P most) s₀.heap m) (hsc : env.scope = (fdef 34).scope) (hf : mg "_law_take" = some fv) (hK : KeepOk prog w base fv) (hT : TakeOk prog w base n fv) (rm : Room A n)
    (bB : base.get? B = none) (bJ : base.get? J = none) (hbx : Box B J s₀.heap k) (k0 : 0 ≤ k) (k1 : k ≤ 500) (hP : 2 ≤ P ∧ P ≤ 5) (hM : 1 ≤ most ∧ most ≤ 10) (hbc : BoxC env s₀.heap B) (hBL : B ≠ env.locals ∧ J ≠ env.locals) :
    wpAny (model prog w) A (execs (fdef 34).body env) (fun f s' => ∃ v, f = .ret v ∧ PolyPost B J k P most s₀ v s') NoE s₀ := by
  conv => arg 3; arg 1; whnf
  refine wpAny_execs_cons (wpAny_Return_some (wpAny_BinOp ?_))
  refine wpAny_mono (poly_list Bg' R₀ hsc hf hK hT rm bB bJ hbx k0 k1 hP hM hbc hBL) (fun v s₁ x => ?_) fun _ _ x => x
  (refine e2_7 ?_ x; clear x; intro xs k' rv hl hxs c kk1 kk2 bx)
  have R₁ := XB.back R₀ c bB bJ hbx bx hBL
  have hbc₁ := hbc.back c hbx
  have hkt : env.kindOf "_law_take" = some .globalImplicit := by show env.scope.names.lookup _ = _; rw [hsc]; decide +kernel
  have h1 : evE O (.BinOp (.Name "p" ⟨0, 0, 0, 0⟩) .Sub (.Constant (.int 1) 0 ⟨0, 0, 0, 0⟩) ⟨0, 0, 0, 0⟩) false (ptS P most) = some (.int (P - 1)) := by
    have e1 : ptS P most "p" = some (.val (.int P)) := by simp [ptS]
    show bind2 (binV .Sub) ((ptS P most "p").bind valS) (some (.int 1)) = _
    rw [e1]; rfl
  refine wpAny_List_spliced ?_
  rw [starEach_cons (fun _ _ q => by cases q)]
  show wpAny (model prog w) A (spliced [(false, eval _ env)]) _ NoE s₁
  refine spliced_cons (wpAny_BinOp (wpAny_Constant_int ?_))
  refine wpAny_mono (take_eval (mm := P - 1) Bg' (R₁.up (kle (keeps_toks s₁ _))) hf hK hT rm hkt bB bJ (bx.keep (fun o e => e) fun o e => e) (by lia) (by lia) (by lia) (by lia) (fun Q hQ => box_of_cell (R₁.up (kle (keeps_toks s₁ _))) (hbc₁.to fun c o e q => q) hQ) (fun _ _ q => by cases q)
      (wpAny_mono ((main Bg' HO _).v env _ _ A _ m _ ?_ h1 (R₁.up (kle (keeps_toks s₁ _))) rm) (fun v s₁ x => ⟨x.1, by (refine e0_2 ?_ x; clear x; intro _ y); cases y; exact ⟨_, rfl⟩⟩) fun _ _ x => x)) (fun v₂ s₂ x => ?_) fun _ _ x => x
  · rw [hsc]; decide +kernel
  (refine e0_3 ?_ x; clear x; intro zz1 c₂ bx₂; refine e2_3 ?_ zz1; clear zz1; intro r t zz2 r0 r1; subst zz2)
  have k₁ : Keeps s₁ { s₁ with toks := s₁.toks + 1 } := keeps_toks s₁ _
  have c13 := ((kch k₁ fun _ => False).tr (W'' := fun b => b = B ∨ b = J) c₂ fun d o nd _ => ⟨id, nd⟩)
  have rv₂ : Rp (XB env B J) s₂.heap v (L xs) := rv.to fun a o xa e => ⟨xa, c13.at (fun q => xa (.inr (.inr q))) e⟩
  refine add_int (spliced_nil ⟨by simp [sizeLine_eq], ?_⟩)
  generalize hs3 : ({ s₂ with toks := s₂.toks + 1 } : Shared) = s₃
  have k₃ : Keeps s₂ s₃ := hs3 ▸ keeps_toks s₂ _
  have R₃ := (XB.back R₁ c13 bB bJ bx bx₂ hBL).up (kle k₃)
  have hr : Rp (XB env B J) ({ s₃ with heap := s₃.heap.push (listOf ([Value.int (1 + r) s₂.toks]).toArray 0) } : Shared).heap (.ref s₃.heap.objs.size) (L [1 + r]) := push_list R₃.pres (.cons (.int _ _) .nil)
  have k₄ : Keeps s₃ { s₃ with heap := s₃.heap.push (listOf ([Value.int (1 + r) s₂.toks]).toArray 0) } := keeps_push' _ _
  have hb : binV .Add (L xs) (L [1 + r]) = some (L (xs ++ [1 + r])) := by
    have : lenOk (xs.length + 1) = true := by unfold lenOk; simp; lia
    show altO none (if lenOk ((xs.map PyData.int).length + 1) then some (PyData.list (xs.map .int ++ [.int (1 + r)])) else none) = _
    rw [List.length_map, if_pos this]
    show some (PyData.list _) = some (PyData.list _)
    rw [List.map_append]; rfl
  refine wpAny_mono (s_bin hb (R₃.up (kle k₄)).pres (rv₂.up (kle (ktr k₃ k₄))) hr) (fun v₅ s₅ y => ?_) fun _ _ x => x
  (refine e0_2 ?_ y; clear y; intro k₅ r₅)
  have kk := ktr (ktr k₃ k₄) k₅
  refine ⟨v₅, rfl, xs, 1 + r, k' + 1, r₅.to fun a o xa e => ⟨fun q => xa (.inr (.inr q)), e⟩, hl, hxs, by lia, by lia, ?_, by lia, by lia, ?_⟩
  · exact (c.tr (W'' := fun b => b = B ∨ b = J) c13 fun d o nd _ => ⟨nd, nd⟩).tr (kch kk fun _ => False) fun d o nd _ => ⟨nd, id⟩
  · exact bx₂.keep (fun o e => kle kk _ _ e) fun o e => kle kk _ _ e
end
end Mine
end
noncomputable section
open PySem PySem.W PyProof.Rows PySem.Calls PySem.Spec
set_option Elab.async false
set_option linter.all false
namespace Mine

section
variable {prog : Program} {w : World} {A : Around} {base : Heap} {mg mb : Str → Option Value} {env : Env} {s s₀ : Shared} {m : Str → Option Value} {B J : Addr} {k P most : Int} {n : Nat} {O : Orc} {fv : Value}

noncomputable def PolyOk (prog : Program) (w : World) (base : Heap) (n : Nat) (fv : Value) : Prop := ∀ (A : Around) (s : Shared) (B J : Addr) (k P most : Int) (tp tm : Tok), Room A n → HLe base s.heap → base.get? B = none → base.get? J = none → 0 ≤ k → k ≤ 500 → 2 ≤ P ∧ P ≤ 5 → 1 ≤ most ∧ most ≤ 10 → Box B J s.heap k →
  wpAny (model prog w) A (call fv [.ref B, .int P tp, .int most tm] []) (fun v s' => PolyPost B J k P most s v s') NoE s

theorem poly_call (hT₀ : FnAt base mg (fdef 34)) (Bg' : Bg base mg mb) (HO : OSound prog w base mg mb n O) (hf : mg "_law_take" = some fv) (hK : KeepOk prog w base fv) (hT : TakeOk prog w base n fv) : ∃ pv, mg (fdef 34).name = some pv ∧ KeepOk prog w base pv ∧ PolyOk prog w base (n + 1) pv := by
  (refine e5_4 ?_ hT₀; clear hT₀; intro a o pm code doc h1 h2 h3 h4)
  refine ⟨.ref a, h1, fun h hh => ⟨.frame, .inl rfl, ?_⟩, ?_⟩
  · have L := (Looks.ld (M := model prog w) (part := none) (hh _ _ h2))
    obtain ⟨c, d1, d2, d3⟩ := o
    simp only at h3
    subst h3
    exact L.andThen .now
  · intro A s B J k P most tp tm rm hb bB bJ k0 k1 hP hM hbox
    have hroom : A.depth < recursionLimit := by have := rm.d; show A.depth < 1000; lia
    have hkb : (fdef 34).scope.names.lookup (Str.ofString "box") = some .cell := by decide +kernel
    have hkp : (fdef 34).scope.names.lookup (Str.ofString "p") = some .cell := by decide +kernel
    have hkm : (fdef 34).scope.names.lookup (Str.ofString "most") = some .local := by decide +kernel
    have hcell : ∀ (N : Nat) x, (fdef 34).scope.names.lookup x = some .cell → ((cellsFrom N (fdef 34).scope.names []).lookup x).isSome = true := fun N x hx => cellsFrom_has _ _ _ x (.inl (mem_of_lookup hx))
    refine wpAny_call (codeAny_call_cells (fd := docDef (fdef 34).name (fdef 34).params (fdef 34).body (fdef 34).scope pm code doc) (vals := [.ref B, .int P tp, .int most tm]) (binds := [("box", .ref B), ("p", .int P tp), ("most", .int most tm)]) hroom (hb _ _ h2) h3 (Bg'.nolimit.keeps hb) (h4.keeps hb) rfl rfl rfl (fun x hx => ?_) (fun s₁ IC => ?_) rfl rfl rfl)
    · simp only [List.mem_cons, List.not_mem_nil, or_false] at hx
      rcases hx with rfl | rfl | rfl
      · exact .inr ⟨hkb, hcell _ _ hkb⟩
      · exact .inr ⟨hkp, hcell _ _ hkp⟩
      · exact .inl hkm
    · generalize hE : callEnvC (docDef (fdef 34).name (fdef 34).params (fdef 34).body (fdef 34).scope pm code doc) s.heap.objs.size a = env at IC ⊢
      have hsc : env.scope = (fdef 34).scope := by subst hE; rfl
      have hgl : env.globals = mainGlobals := by subst hE; rfl
      have hbl : env.builtins = builtinsNs := by subst hE; rfl
      have hL : env.locals = s.heap.objs.size := by subst hE; rfl
      have hcs : env.cells = cellsFrom (s.heap.objs.size + 1) (fdef 34).scope.names [] := by subst hE; rfl
      have hko : ∀ x, env.kindOf x = (fdef 34).scope.names.lookup x := fun x => by show env.scope.names.lookup x = _; rw [hsc]
      (refine e2_2 ?_ IC.done; intro h₁ tk zz1 hkeep; subst zz1)
      have frL : s.heap.get? env.locals = none := none_size _ (by rw [hL]; exact Nat.le_refl _)
      have frC : ∀ x c, env.cells.lookup x = some c → s.heap.get? c = none := fun x c e => none_size _ (by have := IC.above x c (mem_of_lookup e); rw [hL] at this; exact Nat.le_of_lt this)
      have hbox₁ : Box B J h₁ k := hbox.keep (hkeep B) (hkeep J)
      have hBL : B ≠ env.locals := fun q => by (refine e2_1 ?_ hbox.b; intro _ _ e); rw [q, frL] at e; cases e
      have hJL : J ≠ env.locals := fun q => by (refine e3_2 ?_ hbox.i; intro _ _ _ e _); rw [q, frL] at e; cases e
      have kb : env.kindOf "box" = some .cell := by rw [hko]; exact hkb
      have kp : env.kindOf "p" = some .cell := by rw [hko]; exact hkp
      have km : env.kindOf "most" = some .local := by rw [hko]; exact hkm
      have eb : bindC env.kindOf [("box", .ref B), ("p", .int P tp), ("most", .int most tm)] (fun _ => none) "box" = some (.ref B) := by
        simp [bindC, kb, kp, km, str_inj]
      have ep : bindC env.kindOf [("box", .ref B), ("p", .int P tp), ("most", .int most tm)] (fun _ => none) "p" = some (.int P tp) := by
        simp [bindC, kb, kp, km, str_inj]
      have em : bindL env.kindOf [("box", .ref B), ("p", .int P tp), ("most", .int most tm)] (fun _ => none) "most" = some (.int most tm) := by
        simp [bindL, kb, kp, km, str_inj]
      have ci : ∀ x, env.kindOf x = some .cell → ∃ c, env.cells.lookup x = some c := fun x q => by
        rw [hko] at q
        rw [hcs]
        exact Option.isSome_iff_exists.mp (hcell _ x q)
      have hbc : BoxC env h₁ B := by
        (refine e1_1 ?_ (ci _ kb); intro c e)
        exact ⟨kb, c, e, eb ▸ IC.cell _ c e⟩
      have R : RdM base env (XB env B J) (ptS P most) ({ s with heap := h₁, toks := tk } : Shared).heap (bindL env.kindOf [("box", .ref B), ("p", .int P tp), ("most", .int most tm)] fun _ => none) := {
        fn := by rw [hsc]; rfl
        gl := hgl
        bl := hbl
        ba := fun b o e => hkeep b o (hb b o e)
        pres := fun c q => by
          rcases q with q | ⟨x, _, q⟩ | q | q
          · rw [q]; (refine e3_2 ?_ IC.toInCall.ns; intro o es ep e _); exact ⟨o, e⟩
          · (refine e1_2 ?_ (IC.cell x c q); intro o e _); exact ⟨o, e⟩
          · rw [q]; (refine e2_1 ?_ hbox₁.getB; intro _ _ e); exact ⟨_, e⟩
          · rw [q]; (refine e2_1 ?_ hbox₁.getJ; intro _ _ e); exact ⟨_, e⟩
        ns := IC.toInCall.ns
        ci := ci
        cellAt := fun x c _ e => ⟨_, IC.cell x c e⟩
        vals := fun x d e => by
          unfold ptS at e
          split at e
          · rename_i q
            subst q; cases e
            (refine e1_1 ?_ (ci _ kp); intro c e)
            exact ⟨.int P tp, ⟨rfl, .inr ⟨kp, c, e, ep ▸ IC.cell _ c e⟩⟩, .int _ _⟩
          · split at e
            · rename_i q
              subst q; cases e
              exact ⟨.int most tm, ⟨rfl, .inl ⟨km, em⟩⟩, .int _ _⟩
            · cases e
        owns := fun x xs e => absurd e (ptno x xs) }
      have rm' : Room (A.deeper env) n := ⟨rm.h, by have := rm.d; show A.depth + 1 + n < 900; lia, by have := rm.u; show A.units + 3 + 4 * n + 100 < cLine; lia⟩
      refine wpAny_mono (poly_body Bg' HO R hsc hf hK hT rm' bB bJ hbox₁ k0 k1 hP hM hbc ⟨hBL, hJL⟩) (fun f s' po => ?_) fun _ _ x => x.elim
      (refine e1_2 ?_ po; clear po; intro v zz1 zz2; subst zz1; refine e3_9 ?_ zz2; clear zz2; intro xs z k' p1 p2 p3 p4 p5 p6 p7 p8 p9)
      have k₁ : Keeps s { s with heap := h₁, toks := tk } := keeps_heap s h₁ tk hkeep
      exact ⟨xs, z, k', p1, p2, p3, p4, p5, (kch k₁ fun _ => False).tr p6 fun c o nd e => ⟨id, nd⟩, p7, p8, p9⟩
end
end Mine
end
noncomputable section
open PySem PySem.W PyProof.Rows PySem.Calls PySem.Spec
set_option Elab.async false
set_option linter.all false
namespace Mine

section
variable {prog : Program} {w : World} {A : Around} {X : Addr → Prop} {base : Heap} {mg mb : Str → Option Value} {env : Env} {σ : Sto} {s s₀ : Shared} {m : Str → Option Value} {B J : Addr} {k : Int} {n : Nat} {O : Orc} {fv : Value}

/-- two names get two values -/
theorem two_store {x y : Str} {px py p p2 pos : Pos} {k1 k2 : Nat} {e1 e2 : Expr} {Q : Flow → Shared → Prop} (hh : A.handled = none)
    (hx : env.kindOf x = some .local ∧ (x == ("__debug__" : Str)) = false) (hy : env.kindOf y = some .local ∧ (y == ("__debug__" : Str)) = false) (hxy : x ≠ y) (hX : X env.locals) (hb : base.get? env.locals = none)
    (hc : [e1, e2].all (constantsAlone 8) = false) (hs1 : ∀ v p, e1 ≠ .Starred v p) (hs2 : ∀ v p, e2 ≠ .Starred v p)
    (h : wpAny (model prog w) A (eval e1 env) (fun v1 s₁ => wpAny (model prog w) A (eval e2 env) (fun v2 s₂ => ∃ d1 d2 m, RdM base env X σ s₂.heap m ∧ Rp X s₂.heap v1 d1 ∧ Rp X s₂.heap v2 d2 ∧
      (∀ s' m', Ch (· = env.locals) s₂ s' → RdM base env X (setS (setS σ x (.val d1)) y (.val d2)) s'.heap m' → (∀ z, z ≠ x → z ≠ y → m' z = m z) → Q .next s')) NoE s₁) NoE s) :
    wpAny (model prog w) A (exec (.Assign [.Tuple [.Name x px, .Name y py] k1 p] (.Tuple [e1, e2] k2 p2) pos) env) Q NoE s := by
  rw [exec_Assign_arm, sole_false rfl]
  refine wpAny_bind (wpAny_standAt (wpAny_bind (wpAny_pure ?_)))
  rw [if_neg (by decide)]
  (refine e1_2 ?_ (swapped_or (ts := [.Name x px, .Name y py]) (vs := [e1, e2]) (xs := [x, y]) (env := env) (k := k1) (k2 := k2) (p := p) (p2 := p2) rfl hc); intro r hr1 hr2)
  refine wpAny_bind (wpAny_Tuple_spliced ?_)
  rw [starEach_cons hs1, starEach_cons hs2]
  show wpAny (model prog w) A (spliced [(false, eval e1 env), (false, eval e2 env)]) _ NoE s
  refine spliced_cons (wpAny_mono h (fun v1 s₁ h1 => spliced_cons (wpAny_mono h1 (fun v2 s₂ h2 => spliced_nil ⟨by simp [sizeLine_eq], ?_⟩) fun _ _ x => x)) fun _ _ x => x)
  (refine e3_4 ?_ h2; clear h2; intro d1 d2 m R r1 r2 hq)
  rw [hr1]
  refine wpAny_bind (wpAny_pure ?_)
  have k₂ : Keeps s₂ { s₂ with heap := s₂.heap.push (tupOf ([v1, v2]).toArray 0) } := keeps_push' _ _
  have hq' : ∀ s' m', Ch (· = env.locals) { s₂ with heap := s₂.heap.push (tupOf ([v1, v2]).toArray 0) } s' → RdM base env X (setS (setS σ x (.val d1)) y (.val d2)) s'.heap m' → (∀ z, z ≠ x → z ≠ y → m' z = m z) → Q .next s' :=
    fun s' m' c => hq s' m' ((kch k₂ fun _ => False).tr c fun d o nd _ => ⟨id, nd⟩)
  have R₂ := R.up (kle k₂)
  have rt : Rp X ({ s₂ with heap := s₂.heap.push (tupOf ([v1, v2]).toArray 0) } : Shared).heap (.ref s₂.heap.objs.size) (.tuple [d1, d2]) := push_tup R.pres (.cons r1 (.cons r2 .nil))
  have q1 := r1.up (kle k₂)
  have q2 := r2.up (kle k₂)
  have ht : ({ s₂ with heap := s₂.heap.push (tupOf ([v1, v2]).toArray 0) } : Shared).heap.IsTuple s₂.heap.objs.size ([v1, v2]).toArray := isTup_of (Heap.get?_push_size _ rfl)
  show wpAny (model prog w) A (assignStores env (.ref s₂.heap.objs.size) r _) Q NoE { s₂ with heap := s₂.heap.push (tupOf ([v1, v2]).toArray 0) }
  generalize ({ s₂ with heap := s₂.heap.push (tupOf ([v1, v2]).toArray 0) } : Shared) = s₃ at *
  rcases hr2 with rfl | rfl
  · rw [stores_none]
    have e0 : tgtNames (.Tuple [.Name x px, .Name y py] k1 p) = [x, y] := rfl
    have ht' : tgtLoc (.Tuple [.Name x px, .Name y py] k1 p) env.scope.names = true := by
      have hx1 : env.scope.names.lookup x = some .local := hx.1
      have hy1 : env.scope.names.lookup y = some .local := hy.1
      show (true && ([x, y] : List Str).all (fun x => env.scope.names.lookup x == some .local && !(x == ("__debug__" : Str))) && decide ([x, y] : List Str).Nodup) = true
      simp [hx1, hx.2, hy1, hy.2, hxy]
    refine wpAny_bind (wpAny_mono (s_bind_local hh R₂ (show bindT (.Tuple [.Name x px, .Name y py] k1 p) (.tuple [d1, d2]) σ = some (setS (setS σ x (.val d1)) y (.val d2)) from rfl) ht' hX hb rt) (fun _ s₄ z => wpAny_pure ?_) fun _ _ x => x)
    (refine e0_2 ?_ z; clear z; intro c zz1; refine e1_2 ?_ zz1; clear zz1; intro m' R₄ ag)
    exact hq' s₄ m' c R₄ fun z h1 h2 => ag z (by rw [e0]; simp [h1, h2])
  · rw [stores_some]
    have e1 : [x, y].length = ([v1, v2]).toArray.size := rfl
    rw [e1]
    refine wpAny_bind (wpAny_rule (wpAny_bind (wpAny_unpackItems_tuple hh ht fun h' hk' => ?_)))
    have kk : HLe s₃.heap h' := fun b o e => hk' b o (Nat.ne_of_lt (Heap.lt_size e)) e
    have kh : Keeps s₃ { s₃ with heap := h' } := keeps_heap s₃ h' s₃.toks kk
    have R₄ := R₂.up (kle kh)
    have u1 := q1.up (kle kh)
    have u2 := q2.up (kle kh)
    show wpAny (model prog w) A (do (do holding [v1] (bindName env y v2); holding [] (bindName env x v1); pure ()); pure Flow.next) Q NoE { s₃ with heap := h' }
    have kc : ∀ s' m', Ch (· = env.locals) { s₃ with heap := h' } s' → RdM base env X (setS (setS σ x (.val d1)) y (.val d2)) s'.heap m' → (∀ z, z ≠ x → z ≠ y → m' z = m z) → Q .next s' :=
      fun s' m' c => hq' s' m' ((kch kh fun _ => False).tr c fun d o nd _ => ⟨id, nd⟩)
    generalize ({ s₃ with heap := h' } : Shared) = s₄ at *
    refine wpAny_bind (wpAny_bind (wpAny_holding (wpAny_bindName (wpAny_mono (s_store_local R₄ hy.1 hy.2 hX hb u2) (fun _ s₅ z => ?_) fun _ _ x => x))))
    (refine e0_2 ?_ z; clear z; intro c₅ R₅)
    have u1' : Rp X s₅.heap v1 d1 := u1.to fun a o xa e => ⟨xa, c₅.at (fun q => xa (q ▸ hX)) e⟩
    refine wpAny_bind (wpAny_holding (wpAny_bindName (wpAny_mono (s_store_local R₅ hx.1 hx.2 hX hb u1') (fun _ s₆ z => wpAny_pure (wpAny_pure ?_)) fun _ _ x => x)))
    (refine e0_2 ?_ z; clear z; intro c₆ R₆)
    rw [setS_comm hxy.symm] at R₆
    exact kc s₆ _ (c₅.tr c₆ fun d o nd _ => ⟨nd, nd⟩) R₆ fun z h1 h2 => by simp [h1, h2]
end
end Mine
end
noncomputable section
open PySem PySem.W PyProof.Rows PySem.Calls PySem.Spec
set_option Elab.async false
set_option linter.all false
namespace Mine

noncomputable def XL (env : Env) (B J : Addr) (a : Addr) : Prop := a = env.locals ∨ a = B ∨ a = J
structure LE (base : Heap) (env : Env) (B J : Addr) : Prop where
  sc : env.scope = (fdef 39).scope
  bL : base.get? env.locals = none
  bB : base.get? B = none
  bJ : base.get? J = none
  nB : B ≠ env.locals
  nJ : J ≠ env.locals
structure LI (base : Heap) (env : Env) (B J : Addr) (σ : Sto) (s : Shared) (m : Str → Option Value) (k : Int) : Prop where
  R : RdM base env (XL env B J) σ s.heap m
  no : ∀ x xs, σ x ≠ some (.own xs)
  box : m ("box" : Str) = some (.ref B)
  bx : Box B J s.heap k

section
variable {prog : Program} {w : World} {A : Around} {X : Addr → Prop} {base : Heap} {mg mb : Str → Option Value} {env : Env} {σ : Sto} {s s' s₀ : Shared} {m : Str → Option Value} {B J : Addr} {k k' : Int} {n : Nat} {O : Orc} {fv : Value}

theorem LE.loc (E : LE base env B J) {x : Str} (h : (fdef 39).scope.names.lookup x = some .local) : env.kindOf x = some .local := by
  show env.scope.names.lookup x = _; rw [E.sc]; exact h
theorem LE.glob (E : LE base env B J) {x : Str} (h : (fdef 39).scope.names.lookup x = some .globalImplicit) : env.kindOf x = some .globalImplicit := by
  show env.scope.names.lookup x = _; rw [E.sc]; exact h
theorem LE.nc (E : LE base env B J) : ∀ x, env.kindOf x ≠ some .cell := fun x hx => by
  have hx' : (fdef 39).scope.names.lookup x = some .cell := by rw [← E.sc]; exact hx
  have h0 : (fdef 39).scope.names.all (fun y => !(y.2 == NameKind.cell)) = true := by decide +kernel
  have := List.all_eq_true.mp h0 _ (mem_of_lookup hx')
  simp at this
theorem LI.up (I : LI base env B J σ s m k) (kk : Keeps s s') : LI base env B J σ s' m k :=
  ⟨I.R.up (kle kk), I.no, I.box, I.bx.keep (fun o e => kle kk _ _ e) fun o e => kle kk _ _ e⟩
theorem LI.ch (E : LE base env B J) (I : LI base env B J σ s m k) (c : Ch (fun b => b = B ∨ b = J) s s') (bx : Box B J s'.heap k') : LI base env B J σ s' m k' := by
  refine ⟨I.R.back c (fun a q => .inr q) (fun a q => ?_) (fun a q => ?_) (I.R.ns.at' fun o e => c.at (fun q => q.elim (fun q => E.nB q.symm) fun q => E.nJ q.symm) e) (fun _ _ => rfl) I.no fun x cc h1 h2 q => (E.nc x h1).elim, I.no, I.box, bx⟩
  · rcases q with rfl | rfl
    · (refine e2_1 ?_ bx.getB; intro _ _ e); exact ⟨_, e⟩
    · (refine e2_1 ?_ bx.getJ; intro _ _ e); exact ⟨_, e⟩
  · rcases q with rfl | rfl
    · exact E.bB
    · exact E.bJ
/-- a store into the locals -/
theorem LI.st (E : LE base env B J) (I : LI base env B J σ s m k) {σ' : Sto} {m' : Str → Option Value} (c : Ch (· = env.locals) s s') (R : RdM base env (XL env B J) σ' s'.heap m') (no : ∀ x xs, σ' x ≠ some (.own xs)) (hb : m' ("box" : Str) = m ("box" : Str)) : LI base env B J σ' s' m' k :=
  ⟨R, no, hb.trans I.box, I.bx.keep (fun o e => c.at E.nB e) fun o e => c.at E.nJ e⟩
theorem LI.boxE (E : LE base env B J) (I : LI base env B J σ s m k) {pb : Pos} {Q : Value → Shared → Prop} (hQ : Q (.ref B) s) : wpAny (model prog w) A (eval (.Name "box" pb) env) Q NoE s :=
  s_cur I.R ⟨rfl, .inl ⟨E.loc (by decide +kernel), I.box⟩⟩ hQ
theorem noSet {x : Str} {d : PyData} (no : ∀ x xs, σ x ≠ some (.own xs)) : ∀ y xs, setS σ x (.val d) y ≠ some (.own xs) := fun y xs => by
  unfold setS
  split
  · simp
  · exact no y xs

theorem law_take {fp pb p pc : Pos} {cc : Nat} {mm : Int} (E : LE base env B J) (Bg' : Bg base mg mb) (I : LI base env B J σ s m k) (hf : mg "_law_take" = some fv) (hK : KeepOk prog w base fv) (hT : TakeOk prog w base n fv) (rm : Room A n) (k0 : 0 ≤ k) (k1 : k ≤ 1000) (m0 : 1 ≤ mm) (m1 : mm ≤ 100) :
    wpAny (model prog w) A (eval (.Call (.Name "_law_take" fp) [.Name "box" pb, .Constant (.int mm) cc pc] [] p) env) (fun v s' => (∃ r t, v = .int r t ∧ 0 ≤ r ∧ r < mm) ∧ Ch (fun b => b = B ∨ b = J) s s' ∧ LI base env B J σ s' m (k + 1)) NoE s :=
  wpAny_mono (take_eval Bg' I.R hf hK hT rm (E.glob (by decide +kernel)) E.bB E.bJ I.bx k0 k1 m0 m1 (fun Q hQ => I.boxE E hQ) (fun _ _ q => by cases q) (wpAny_Constant_int ⟨keeps_toks _ _, _, rfl⟩))
    (fun v s' x => ⟨x.1, x.2.1, I.ch E x.2.1 x.2.2⟩) fun _ _ x => x

theorem law_2 {q1 q2 q3 q4 q5 q6 q7 q8 q9 q10 q11 q12 q13 q14 q15 q16 q17 q18 : Pos} {c1 c2 c3 c4 c5 k1 k2 : Nat} (E : LE base env B J) (Bg' : Bg base mg mb) (I : LI base env B J σ s m k) (hf : mg "_law_take" = some fv) (hK : KeepOk prog w base fv) (hT : TakeOk prog w base n fv) (rm : Room A n) (k0 : 0 ≤ k) (kk1 : k ≤ 500)
    {Q : Flow → Shared → Prop}
    (hQ : ∀ s' m' P form, (P = 2 ∨ P = 3 ∨ P = 5) → 0 ≤ form → form < 4 → Ch (XL env B J) s s' → LI base env B J (setS (setS σ "p" (.val (.int P))) "form" (.val (.int form))) s' m' (k + 1 + 1) → Q .next s') :
    wpAny (model prog w) A (exec (.Assign [.Tuple [.Name "p" q1, .Name "form" q2] k1 q3]
      (.Tuple [.Subscript (.List [.Constant (.int 2) c1 q4, .Constant (.int 3) c2 q5, .Constant (.int 5) c3 q6] q7) (.Call (.Name "_law_take" q8) [.Name "box" q9, .Constant (.int 3) c4 q10] [] q11) q12,
        .Call (.Name "_law_take" q13) [.Name "box" q14, .Constant (.int 4) c5 q15] [] q16] k2 q17) q18) env) Q NoE s := by
  refine two_store (X := XL env B J) (σ := σ) rm.h ⟨E.loc (by decide +kernel), rfl⟩ ⟨E.loc (by decide +kernel), rfl⟩ (by rw [ne_eq, str_inj]; decide) (.inl rfl) E.bL rfl (fun _ _ q => by cases q) (fun _ _ q => by cases q) ?_
  refine s_sub ?_
  refine wpAny_List_spliced ?_
  rw [starEach_cons (fun _ _ q => by cases q), starEach_cons (fun _ _ q => by cases q), starEach_cons (fun _ _ q => by cases q)]
  show wpAny (model prog w) A (spliced [(false, eval (.Constant (.int 2) c1 q4) env), (false, eval (.Constant (.int 3) c2 q5) env), (false, eval (.Constant (.int 5) c3 q6) env)]) _ NoE s
  refine spliced_cons (wpAny_Constant_int (spliced_cons (wpAny_Constant_int (spliced_cons (wpAny_Constant_int (spliced_nil ⟨by simp [sizeLine_eq], ?_⟩))))))
  have ka : Keeps s { s with toks := s.toks + 1 + 1 + 1 } := keeps_toks s _
  generalize hs1 : ({ s with toks := s.toks + 1 + 1 + 1 } : Shared) = s₁ at ka
  have kb : Keeps s₁ { s₁ with heap := s₁.heap.push (listOf ([Value.int 2 s.toks, Value.int 3 (s.toks + 1), Value.int 5 (s.toks + 1 + 1)]).toArray 0) } := keeps_push' _ _
  have gl : ({ s₁ with heap := s₁.heap.push (listOf ([Value.int 2 s.toks, Value.int 3 (s.toks + 1), Value.int 5 (s.toks + 1 + 1)]).toArray 0) } : Shared).heap.get? s₁.heap.objs.size = some (listOf ([Value.int 2 s.toks, Value.int 3 (s.toks + 1), Value.int 5 (s.toks + 1 + 1)]).toArray 0) := Heap.get?_push_size _ rfl
  have fr : s₁.heap.get? s₁.heap.objs.size = none := none_size _ (Nat.le_refl _)
  have I₁ := I.up ka
  have hlB : s₁.heap.objs.size ≠ B := fun q => by (refine e2_1 ?_ I₁.bx.getB; intro _ _ e); rw [← q, fr] at e; cases e
  have hlJ : s₁.heap.objs.size ≠ J := fun q => by (refine e2_1 ?_ I₁.bx.getJ; intro _ _ e); rw [← q, fr] at e; cases e
  have I₂ := I₁.up kb
  subst hs1
  refine wpAny_mono (law_take E Bg' I₂ hf hK hT rm k0 (by lia) (by lia) (by lia)) (fun v s₃ x => ?_) fun _ _ x => x
  (refine e0_3 ?_ x; clear x; intro zz1 c I₃; refine e2_3 ?_ zz1; clear zz1; intro r t zz2 r0 r1; subst zz2)
  have gl₃ := c.at (fun q => q.elim hlB hlJ) gl
  obtain ⟨P, tP, hP, hPe⟩ : ∃ P tP, (P = 2 ∨ P = 3 ∨ P = 5) ∧ ([Value.int 2 s.toks, Value.int 3 (s.toks + 1), Value.int 5 (s.toks + 1 + 1)]).toArray[r.toNat]? = some (.int P tP) := by
    have : r = 0 ∨ r = 1 ∨ r = 2 := by lia
    rcases this with rfl | rfl | rfl
    · exact ⟨2, _, .inl rfl, rfl⟩
    · exact ⟨3, _, .inr (.inl rfl), rfl⟩
    · exact ⟨5, _, .inr (.inr rfl), rfl⟩
  refine ⟨.inl ⟨_, gl₃, rfl⟩, wpAny_getItem_list (isList_of gl₃) r0 (by lia) hPe ?_⟩
  refine wpAny_mono (law_take E Bg' I₃ hf hK hT rm (by lia) (by lia) (by lia) (by lia)) (fun v s₄ x => ?_) fun _ _ x => x
  (refine e0_3 ?_ x; clear x; intro zz1 c2 I₄; refine e2_3 ?_ zz1; clear zz1; intro r2 t2 zz2 p0 p1; subst zz2)
  refine ⟨.int P, .int r2, m, I₄.R, .int _ _, .int _ _, fun s' m' c5 R5 ag => ?_⟩
  have e1 : ("box" : Str) ≠ "p" := by rw [ne_eq, str_inj]; decide
  have e2 : ("box" : Str) ≠ "form" := by rw [ne_eq, str_inj]; decide
  refine hQ s' m' P r2 hP p0 p1 ?_ (I₄.st E c5 R5 (noSet (noSet I.no)) (ag _ e1 e2))
  have ck := ktr ka kb
  exact (((kch ck fun _ => False).tr (W'' := fun b => b = B ∨ b = J) c fun d o nd _ => ⟨id, nd⟩).tr (W'' := fun b => b = B ∨ b = J) c2 fun d o nd _ => ⟨nd, nd⟩).tr c5 fun d o nd _ => ⟨fun q => nd (.inr q), fun q => nd (.inl q)⟩
end
end Mine
end
noncomputable section
open PySem PySem.W PyProof.Rows PySem.Calls PySem.Spec
set_option Elab.async false
set_option linter.all false
namespace Mine

section
variable {prog : Program} {w : World} {A : Around} {X : Addr → Prop} {base : Heap} {mg mb : Str → Option Value} {env : Env} {σ : Sto} {s s' s₀ : Shared} {m : Str → Option Value} {B J : Addr} {k k' P most : Int} {n : Nat} {O : Orc} {fv pv : Value}

theorem rp_ints {X Y : Addr → Prop} {h : Heap} {v : Value} {xs : List Int} (r : Rp X h v (L xs)) (hY : ∀ a vs n, v = .ref a → ¬ X a → h.get? a = some (listOf vs n) → ¬ Y a) : Rp Y h v (L xs) := by
  cases r with | list x g q => exact .list (hY _ _ _ rfl x g) g (ints_any q)

theorem law_poly {fp pb pp p pc : Pos} {cc : Nat} (E : LE base env B J) (Bg' : Bg base mg mb) (I : LI base env B J σ s m k) (hf : mg "_law_poly" = some pv) (hK : KeepOk prog w base pv) (hT : PolyOk prog w base n pv) (rm : Room A n) (k0 : 0 ≤ k) (k1 : k ≤ 500) (hP : 2 ≤ P ∧ P ≤ 5) (hM : 1 ≤ most ∧ most ≤ 10)
    (hp : rdV σ "p" = some (.int P)) :
    wpAny (model prog w) A (eval (.Call (.Name "_law_poly" fp) [.Name "box" pb, .Name "p" pp, .Constant (.int most) cc pc] [] p) env) (fun v s' => ∃ (xs : List Int) (z k' : Int), Rp (XL env B J) s'.heap v (L (xs ++ [z])) ∧ (xs.length : Int) < most ∧ (∀ a ∈ xs, 0 ≤ a ∧ a < P) ∧ 1 ≤ z ∧ z < P ∧
      Ch (fun b => b = B ∨ b = J) s s' ∧ k ≤ k' ∧ k' ≤ k + 20 ∧ LI base env B J σ s' m k') NoE s := by
  refine wpAny_Call_NameR (s_glob Bg' I.R (E.glob (by decide +kernel)) rfl (.inl hf) ?_)
  refine s_callWith hK I.R.ba ?_ ?_ ?_
  · rw [starEach_cons (fun _ _ q => by cases q)]; simp [backTo]
  · rw [starEach_cons (fun _ _ q => by cases q), starEach_cons (fun _ _ q => by cases q), starEach_cons (fun _ _ q => by cases q)]; rfl
  · rw [starEach_cons (fun _ _ q => by cases q), starEach_cons (fun _ _ q => by cases q), starEach_cons (fun _ _ q => by cases q)]
    show wpAny (model prog w) A (spliced [(false, eval (.Name "box" pb) env), (false, eval (.Name "p" pp) env), (false, eval (.Constant (.int most) cc pc) env)]) _ NoE s
    refine spliced_cons (I.boxE E (spliced_cons (wpAny_mono (s_rdV I.R hp) (fun v s₁ y => spliced_cons (wpAny_Constant_int (spliced_nil ?_))) fun _ _ x => x)))
    (refine e0_2 ?_ y; clear y; intro kk rv)
    (refine e1_1 ?_ (int_inv rv); intro tp zz1; subst zz1)
    have k₂ := ktr kk (keeps_toks s₁ (s₁.toks + 1))
    refine ⟨k₂, ?_⟩
    have I₂ := I.up k₂
    refine wpAny_mono (hT A _ B J k P most tp _ rm I₂.R.ba E.bB E.bJ k0 k1 hP hM I₂.bx) (fun v s₃ z => ?_) fun _ _ x => x
    (refine e3_9 ?_ z; clear z; intro xs z k' rr h1 h2 h3 h4 c h5 h6 bx)
    have I₃ := I₂.ch E c bx
    refine ⟨xs, z, k', rp_ints rr fun a vs nn e x g q => ?_, h1, h2, h3, h4, (kch k₂ fun _ => False).tr c fun d o nd _ => ⟨id, nd⟩, h5, h6, I₃⟩
    rcases q with q | q
    · exact ns_not_list I₃.R.ns (q ▸ g)
    · exact x q

/-- a list that _law_poly may have made -/
noncomputable def PolyL (P : Int) (l : Int) (a : List Int) : Prop := ∃ xs z, a = xs ++ [z] ∧ (xs.length : Int) < l ∧ (∀ x ∈ xs, 0 ≤ x ∧ x < P) ∧ 1 ≤ z ∧ z < P

theorem law_3 {q1 q2 q3 q4 q5 q6 q7 q8 q9 q10 q11 q12 q13 q14 q15 : Pos} {c1 c2 k1 k2 : Nat} (E : LE base env B J) (Bg' : Bg base mg mb) (I : LI base env B J σ s m k) (hf : mg "_law_poly" = some pv) (hK : KeepOk prog w base pv) (hT : PolyOk prog w base n pv) (rm : Room A n) (k0 : 0 ≤ k) (kk1 : k ≤ 400)
    (hP : 2 ≤ P ∧ P ≤ 5) (hp : rdV σ "p" = some (.int P)) {Q : Flow → Shared → Prop}
    (hQ : ∀ s' m' k' a b, PolyL P 4 a → PolyL P 3 b → Ch (XL env B J) s s' → LI base env B J (setS (setS σ "a" (.val (L a))) "b" (.val (L b))) s' m' k' → Q .next s') :
    wpAny (model prog w) A (exec (.Assign [.Tuple [.Name "a" q1, .Name "b" q2] k1 q3]
      (.Tuple [.Call (.Name "_law_poly" q4) [.Name "box" q5, .Name "p" q6, .Constant (.int 4) c1 q7] [] q8, .Call (.Name "_law_poly" q9) [.Name "box" q10, .Name "p" q11, .Constant (.int 3) c2 q12] [] q13] k2 q14) q15) env) Q NoE s := by
  refine two_store (X := XL env B J) (σ := σ) rm.h ⟨E.loc (by decide +kernel), rfl⟩ ⟨E.loc (by decide +kernel), rfl⟩ (by rw [ne_eq, str_inj]; decide) (.inl rfl) E.bL rfl (fun _ _ q => by cases q) (fun _ _ q => by cases q) ?_
  refine wpAny_mono (law_poly E Bg' I hf hK hT rm k0 (by lia) hP (by lia) hp) (fun v1 s₁ x => ?_) fun _ _ x => x
  (refine e3_9 ?_ x; clear x; intro xs z k1 r1 a1 a2 a3 a4 c a5 a6 I₁)
  refine wpAny_mono (law_poly E Bg' I₁ hf hK hT rm (by lia) (by lia) hP (by lia) hp) (fun v2 s₂ x => ?_) fun _ _ x => x
  (refine e3_9 ?_ x; clear x; intro ys y k2 r2 b1 b2 b3 b4 c2 b5 b6 I₂)
  refine ⟨L (xs ++ [z]), L (ys ++ [y]), m, I₂.R, r1.to fun a o xa e => ⟨xa, c2.at (fun q => xa (.inr q)) e⟩, r2, fun s' m' c5 R5 ag => ?_⟩
  have e1 : ("box" : Str) ≠ "a" := by rw [ne_eq, str_inj]; decide
  have e2 : ("box" : Str) ≠ "b" := by rw [ne_eq, str_inj]; decide
  refine hQ s' m' k2 _ _ ⟨xs, z, rfl, a1, a2, a3, a4⟩ ⟨ys, y, rfl, b1, b2, b3, b4⟩ ?_ (I₂.st E c5 R5 (noSet (noSet I.no)) (ag _ e1 e2))
  exact (c.tr (W'' := fun b => b = B ∨ b = J) c2 fun d o nd _ => ⟨nd, nd⟩).tr c5 fun d o nd _ => ⟨fun q => nd (.inr q), fun q => nd (.inl q)⟩

theorem law_4 {q1 q2 q3 q4 q5 q6 q7 q8 q9 q10 q11 q12 q13 q14 : Pos} {c1 c2 c3 c4 c5 : Nat} (E : LE base env B J) (Bg' : Bg base mg mb) (HO : OSound prog w base mg mb n O) (I : LI base env B J σ s m k) (rm : Room A n)
    (hp : σ "p" = some (.val (.int P))) (hg : O "mgcd" [L [1, 1], L [1], .int P] = some (L [1]))
    (ok : okE (.Compare (.Call (.Name "mgcd" q1) [.List [.Constant (.int 1) c1 q2, .Constant (.int 1) c2 q3] q4, .List [.Constant (.int 1) c3 q5] q6, .Name "p" q7] [] q8) [.NotEq] [.List [.Constant (.int 1) c4 q9] q10] q11) env.scope.names = true) {Q : Flow → Shared → Prop}
    (hQ : ∀ s', Keeps s s' → LI base env B J σ s' m k → Q .next s') :
    wpAny (model prog w) A (exec (.If (.Compare (.Call (.Name "mgcd" q1) [.List [.Constant (.int 1) c1 q2, .Constant (.int 1) c2 q3] q4, .List [.Constant (.int 1) c3 q5] q6, .Name "p" q7] [] q8) [.NotEq] [.List [.Constant (.int 1) c4 q9] q10] q11)
      [.Return (some (.Constant (.bool false) c5 q12)) q13] [] q14) env) Q NoE s := by
  have h1 : evT O (.Compare (.Call (.Name "mgcd" q1) [.List [.Constant (.int 1) c1 q2, .Constant (.int 1) c2 q3] q4, .List [.Constant (.int 1) c3 q5] q6, .Name "p" q7] [] q8) [.NotEq] [.List [.Constant (.int 1) c4 q9] q10] q11) σ = some false := by
    have e1 : PyData.list [.int 1, .int 1] = L [1, 1] := rfl
    have e2 : PyData.list [.int 1] = L [1] := rfl
    rw [et_cmp, ev_call rfl]
    show bind2 (cmpV .NotEq) ((bind2 consO (some (L [1, 1])) (bind2 consO (some (L [1])) (bind2 consO ((σ "p").bind valS) (some [])))).bind (O "mgcd")) (some (L [1])) = _
    rw [hp]
    show bind2 (cmpV .NotEq) (O "mgcd" [L [1, 1], L [1], .int P]) (some (L [1])) = _
    rw [hg]
    exact cmpNeL (a := [1]) (b := [1])
  refine wpAny_If (wpAny_mono ((main Bg' HO _).t env _ _ A s m _ ok h1 I.R rm) (fun c s₁ x => ?_) fun _ _ x => x)
  (refine e0_2 ?_ x; clear x; intro zz1 kk; subst zz1)
  show wpAny _ A (execs [] env) _ NoE s₁
  exact wpAny_execs_nil (hQ s₁ kk (I.up kk))
end
end Mine
end
noncomputable section
open PySem PySem.W PyProof.Rows PySem.Calls PySem.Spec
set_option Elab.async false
set_option linter.all false
namespace Mine

section
variable {prog : Program} {w : World} {A : Around} {X : Addr → Prop} {base : Heap} {mg mb : Str → Option Value} {env : Env} {σ : Sto} {s s' s₀ : Shared} {m : Str → Option Value} {B J : Addr} {k k' P form : Int} {n : Nat} {O : Orc} {fv pv : Value}

theorem callSub {value slice : Expr} {p pos : Pos} {args : List Expr} {Q : Value → Shared → Prop}
    (h : wpAny (model prog w) A (eval (.Subscript value slice p) env) (fun f s₁ => wpAny (model prog w) A (callWith pos f [] (backTo pos (starEach args env)) []) Q NoE s₁) NoE s) : wpAny (model prog w) A (eval (.Call (.Subscript value slice p) args [] pos) env) Q NoE s := by
  show wpAny (model prog w) A (do callWith pos (← eval (.Subscript value slice p) env) [] (backTo pos (starEach args env)) (backToKw pos (keywordEach [] env))) Q NoE s
  exact wpAny_bind h

theorem law_5 {q1 q2 q3 q4 q5 q6 q7 q8 q9 q10 q11 q12 : Pos} {a b : List Int} (E : LE base env B J) (Bg' : Bg base mg mb) (HO : OSound prog w base mg mb n O) (I : LI base env B J σ s m k) (rm : Room A n)
    (hp : σ "p" = some (.val (.int P))) (hfm : σ "form" = some (.val (.int form))) (ha : σ "a" = some (.val (L a))) (hb : σ "b" = some (.val (L b))) (f0 : 0 ≤ form) (f1 : form < 4)
    (g0 : OGood prog w base mg mb n "_law_plain_right" [L a, L b, .int P] (.bool true)) (g1 : OGood prog w base mg mb n "_law_divided_right" [L a, L b, .int P] (.bool true))
    (g2 : OGood prog w base mg mb n "_law_divisors_right" [L a, L b, .int P] (.bool true)) (g3 : OGood prog w base mg mb n "_law_parts_right" [L a, L b, .int P] (.bool true)) :
    wpAny (model prog w) A (exec (.Return (some (.Call (.Subscript (.List [.Name "_law_plain_right" q1, .Name "_law_divided_right" q2, .Name "_law_divisors_right" q3, .Name "_law_parts_right" q4] q5) (.Name "form" q6) q7)
      [.Name "a" q8, .Name "b" q9, .Name "p" q10] [] q11)) q12) env) (fun f s' => f = .ret (.bool true) ∧ Keeps s s') NoE s := by
  (refine e1_3 ?_ g0; clear g0; intro v0 h0 K0 C0)
  (refine e1_3 ?_ g1; clear g1; intro v1 h1 K1 C1)
  (refine e1_3 ?_ g2; clear g2; intro v2 h2 K2 C2)
  (refine e1_3 ?_ g3; clear g3; intro v3 h3 K3 C3)
  refine wpAny_Return_some (callSub (s_sub (wpAny_List_spliced ?_)))
  rw [starEach_cons (fun _ _ q => by cases q), starEach_cons (fun _ _ q => by cases q), starEach_cons (fun _ _ q => by cases q), starEach_cons (fun _ _ q => by cases q)]
  show wpAny (model prog w) A (spliced [(false, eval (.Name "_law_plain_right" q1) env), (false, eval (.Name "_law_divided_right" q2) env), (false, eval (.Name "_law_divisors_right" q3) env), (false, eval (.Name "_law_parts_right" q4) env)]) _ NoE s
  refine spliced_cons (s_glob Bg' I.R (E.glob (by decide +kernel)) rfl h0 (spliced_cons (s_glob Bg' I.R (E.glob (by decide +kernel)) rfl h1 (spliced_cons (s_glob Bg' I.R (E.glob (by decide +kernel)) rfl h2 (spliced_cons (s_glob Bg' I.R (E.glob (by decide +kernel)) rfl h3 (spliced_nil ⟨by simp [sizeLine_eq], ?_⟩))))))))
  have kb : Keeps s { s with heap := s.heap.push (listOf ([v0, v1, v2, v3]).toArray 0) } := keeps_push' _ _
  have gl : ({ s with heap := s.heap.push (listOf ([v0, v1, v2, v3]).toArray 0) } : Shared).heap.get? s.heap.objs.size = some (listOf ([v0, v1, v2, v3]).toArray 0) := Heap.get?_push_size _ rfl
  have I₁ := I.up kb
  have hform : rdV σ "form" = some (.int form) := by show (σ "form").bind valS = _; rw [hfm]; rfl
  refine wpAny_mono (s_rdV I₁.R hform) (fun v s₂ x => ?_) fun _ _ x => x
  (refine e0_2 ?_ x; clear x; intro k2 rv)
  (refine e1_1 ?_ (int_inv rv); intro tf zz1; subst zz1)
  have gl₂ := kle k2 _ _ gl
  obtain ⟨fv, hfv, KK, CC⟩ : ∃ fv, ([v0, v1, v2, v3]).toArray[form.toNat]? = some fv ∧ KeepOk prog w base fv ∧ OCall prog w base n fv [L a, L b, .int P] (.bool true) := by
    have : form = 0 ∨ form = 1 ∨ form = 2 ∨ form = 3 := by lia
    rcases this with rfl | rfl | rfl | rfl
    · exact ⟨v0, rfl, K0, C0⟩
    · exact ⟨v1, rfl, K1, C1⟩
    · exact ⟨v2, rfl, K2, C2⟩
    · exact ⟨v3, rfl, K3, C3⟩
  refine ⟨.inl ⟨_, gl₂, rfl⟩, wpAny_getItem_list (isList_of gl₂) f0 (by lia) hfv ?_⟩
  have I₂ := I₁.up k2
  have hL : evL O [.Name "a" q8, .Name "b" q9, .Name "p" q10] σ = some [L a, L b, .int P] := by
    show bind2 consO ((σ "a").bind valS) (bind2 consO ((σ "b").bind valS) (bind2 consO ((σ "p").bind valS) (some []))) = _
    rw [ha, hb, hp]; rfl
  have ok : okL [.Name "a" q8, .Name "b" q9, .Name "p" q10] env.scope.names = true := by rfl
  (refine e0_2 ?_ (starEach_plain (env := env) (pos := q11) hL); intro p1 p2)
  refine s_callWith KK I₂.R.ba (p2 (by simp)) p1 (wpAny_mono (s_list [.Name "a" q8, .Name "b" q9, .Name "p" q10] s₂ q11 _ (fun e _ => (main Bg' HO e).v) ok hL I₂.R rm) (fun vs s₃ x => ⟨x.1, ?_⟩) fun _ _ x => x)
  (refine e0_2 ?_ x; clear x; intro k3 rs)
  have I₃ := I₂.up k3
  refine wpAny_mono (CC A s₃ (XL env B J) vs rm I₃.R.pres I₃.R.ba rs) (fun v s₄ x => ?_) fun _ _ x => x
  (refine e0_2 ?_ x; clear x; intro k4 rv)
  cases rv
  exact ⟨rfl, ktr (ktr (ktr kb k2) k3) k4⟩
end
end Mine
end
noncomputable section
open PySem PySem.W PyProof.Rows PySem.Calls PySem.Spec
set_option Elab.async false
set_option linter.all false
namespace Mine

structure Bg3 (mg mb : Str → Option Value) : Prop where
  abs : mg "abs" = none ∧ mb "abs" = some (.builtin "abs")
  int : mg "int" = none ∧ mb "int" = some (.type "int")
noncomputable def absI (a : Int) : Int := if a < 0 then -a else a
noncomputable def lawO : Orc := fun f args =>
  if f = "abs" then ((oneOf args).bind intOf).map fun a => .int (absI a)
  else if f = "int" then ((oneOf args).bind intOf).map .int
  else none
noncomputable def scL : Scope := match (fdef 39).body with
  | .Assign _ (.List [.ListComp _ _ sc _, _] _) _ :: _ => sc
  | _ => noScope
noncomputable def scriptS (is : List Int) : Sto := fun y => if y = "script" then some (.val (L is)) else none

section
variable {prog : Program} {w : World} {A : Around} {X : Addr → Prop} {base : Heap} {mg mb : Str → Option Value} {env : Env} {σ : Sto} {s s' s₀ : Shared} {m : Str → Option Value} {B J : Addr} {k k' P form : Int} {n : Nat} {O : Orc} {fv pv : Value}

theorem one_int {h : Heap} {args : List PyData} {vals : List Value} {a : Int} (he : (oneOf args).bind intOf = some a) (r : RpA X h vals args) : ∃ t, vals = [.int a t] := by
  revert he
  refine bind_r fun d h1 h2 => ?_
  obtain rfl := intOf_some h2
  obtain rfl := one_some h1
  (refine e1_2 ?_ (one_inv r); intro v zz1 r1; subst zz1)
  (refine e1_1 ?_ (int_inv r1); intro t zz1; subst zz1)
  exact ⟨t, rfl⟩
theorem lawO_sound (B3 : Bg3 mg mb) : OSound prog w base mg mb n lawO := by
  intro f args r he
  unfold lawO at he
  by_cases hf : f = "abs"
  · rw [if_pos hf] at he
    rw [hf]
    refine ⟨_, .inr B3.abs, keep_builtin, fun A s X vals rm hX hb hr => ?_⟩
    revert he; apply map_r; intro a h1
    (refine e1_1 ?_ (one_int h1 hr); intro t zz1; subst zz1)
    exact call_abs_int fun u tk => ⟨keeps_toks s tk, .int _ _⟩
  · rw [if_neg hf] at he
    by_cases hf : f = "int"
    · rw [if_pos hf] at he
      rw [hf]
      refine ⟨_, .inr B3.int, keep_type, fun A s X vals rm hX hb hr => ?_⟩
      revert he; apply map_r; intro a h1
      (refine e1_1 ?_ (one_int h1 hr); intro t zz1; subst zz1)
      exact call_int_int ⟨keeps_refl _, .int _ _⟩
    · rw [if_neg hf] at he; exact none_e he

theorem law_1 {q1 q2 q3 q4 q5 q6 q7 q8 q9 q10 q11 q12 q13 q14 q15 : Pos} {c1 c2 : Nat} {is : List Int} (Bg' : Bg base mg mb) (B3 : Bg3 mg mb) (hsc : env.scope = (fdef 39).scope) (hbL : base.get? env.locals = none) (R : RdM base env (· = env.locals) (scriptS is) s.heap m) (rm : Room A n)
    (hl : is.length ≤ 100) {Q : Flow → Shared → Prop}
    (hQ : ∀ s' m' B J, LE base env B J → s.heap.get? B = none → s.heap.get? J = none → Ch (· = env.locals) s s' → LI base env B J (scriptS is) s' m' 0 → Q .next s') :
    wpAny (model prog w) A (exec (.Assign [.Name "box" q1] (.List [.ListComp (.Call (.Name "abs" q2) [.Call (.Name "int" q3) [.Name "one" q4] [] q5] [] q6)
      [⟨.Name "one" q7, .Subscript (.Name "script" q8) (.Slice none (some (.Constant (.int 30) c1 q9)) none q10) q11, [], 0⟩] scL q12, .Constant (.int 0) c2 q13] q14) q15) env) Q NoE s := by
  have HO : OSound prog w base mg mb n lawO := lawO_sound B3
  rw [exec_Assign_arm, sole_false rfl]
  refine wpAny_bind (wpAny_standAt (wpAny_bind (wpAny_pure ?_)))
  rw [if_neg (by decide)]
  refine wpAny_bind (wpAny_List_spliced ?_)
  rw [starEach_cons (fun _ _ q => by cases q), starEach_cons (fun _ _ q => by cases q)]
  show wpAny (model prog w) A (spliced [(false, eval (.ListComp _ _ scL q12) env), (false, eval (.Constant (.int 0) c2 q13) env)]) _ NoE s
  have ok : okE (.ListComp (.Call (.Name "abs" q2) [.Call (.Name "int" q3) [.Name "one" q4] [] q5] [] q6)
      [⟨.Name "one" q7, .Subscript (.Name "script" q8) (.Slice none (some (.Constant (.int 30) c1 q9)) none q10) q11, [], 0⟩] scL q12) env.scope.names = true := by
    rw [hsc]
    show okE (.ListComp (.Call (.Name "abs" ⟨0, 0, 0, 0⟩) [.Call (.Name "int" ⟨0, 0, 0, 0⟩) [.Name "one" ⟨0, 0, 0, 0⟩] [] ⟨0, 0, 0, 0⟩] [] ⟨0, 0, 0, 0⟩)
      [⟨.Name "one" ⟨0, 0, 0, 0⟩, .Subscript (.Name "script" ⟨0, 0, 0, 0⟩) (.Slice none (some (.Constant (.int 30) 0 ⟨0, 0, 0, 0⟩)) none ⟨0, 0, 0, 0⟩) ⟨0, 0, 0, 0⟩, [], 0⟩] scL ⟨0, 0, 0, 0⟩) (fdef 39).scope.names = true
    decide +kernel
  have hev : evC lawO [⟨.Name "one" q7, .Subscript (.Name "script" q8) (.Slice none (some (.Constant (.int 30) c1 q9)) none q10) q11, [], 0⟩] (evE lawO (.Call (.Name "abs" q2) [.Call (.Name "int" q3) [.Name "one" q4] [] q5] [] q6) false) scL (scriptS is) = some (((is.take 30).map absI).map .int) := by
    have e1 : scriptS is "script" = some (.val (L is)) := by simp [scriptS]
    have sl30 : smallI 30 = true := by decide
    show ((bind2 takeV ((scriptS is "script").map Slot.data) (some (.int 30))).bind itemsOf).bind (compItems _ _ _ _) = _
    rw [e1]
    show ((if 0 ≤ (30 : Int) ∧ smallI 30 = true ∧ lenOk (is.map PyData.int).length = true then some (PyData.list ((is.map PyData.int).take 30)) else none).bind itemsOf).bind (compItems _ _ _ _) = _
    rw [if_pos ⟨by decide, sl30, lenOk_of (by simp; lia)⟩]
    show compItems _ _ _ _ ((is.map PyData.int).take 30) = _
    rw [compItems_all (fun d => match d with | .int x => .int (absI x) | d => d)]
    · congr 1
      rw [← List.map_take, List.map_map, List.map_map]
      rfl
    · intro d hd
      rw [← List.map_take] at hd
      (refine e1_2 ?_ (List.mem_map.mp hd); intro x hx zz1; subst zz1)
      refine ⟨_, rfl, rfl, ?_⟩
      have o1 : lawO (Str.ofString "int") [.int x] = some (.int x) := by show (if (Str.ofString "int") = "abs" then _ else if (Str.ofString "int") = "int" then some (PyData.int x) else none) = _; rw [if_neg (by decide), if_pos rfl]
      have o2 : lawO (Str.ofString "abs") [.int x] = some (.int (absI x)) := by show (if (Str.ofString "abs") = "abs" then some (PyData.int (absI x)) else _) = _; rw [if_pos rfl]
      rw [eg_nil, ev_call rfl]
      show (((bind2 consO (evE lawO (.Call (.Name "int" q3) [.Name "one" q4] [] q5) false _) (some [])).bind (lawO "abs")).map _) = _
      rw [ev_call rfl]
      show (((bind2 consO (lawO "int" [.int x]) (some [])).bind (lawO "abs")).map _) = _
      rw [o1]
      show ((lawO "abs" [.int x]).map _) = _
      rw [o2]; rfl
  have hlen : lenOk (((is.take 30).map absI).map PyData.int).length = true := lenOk_of (by simp; lia)
  refine spliced_cons (Q := fun vs s₁ => _) ?_
  rw [eval_ListComp]
  refine s_comp (main Bg' HO _) (mainG Bg' HO _) ok hev hlen R rm fun D C vs nn s₁ m₁ kk hD hC hDC hn g r => ⟨m₁, hn, fun h' hs' => ?_⟩
  have off : ∀ a o, s.heap.get? a = some o → a ≠ C := fun a o e q => by rw [q, hC] at e; cases e
  have k₁ : Keeps s { s₁ with heap := h' } := by
    (refine e2_2 ?_ kk; clear kk; intro h1 t1 zz1 k1; subst zz1)
    exact ⟨h', t1, rfl, fun b o e => (hs'.2 b (off b o e)).trans (k1 b o e)⟩
  have g₁ : h'.get? D = some (listOf vs.toArray nn) := (hs'.2 D hDC).trans g
  have r₁ : RpA F0 h' vs (((is.take 30).map absI).map .int) := ints_any r
  generalize hs1 : ({ s₁ with heap := h' } : Shared) = s₂ at k₁ ⊢
  have g₂ : s₂.heap.get? D = some (listOf vs.toArray nn) := by subst hs1; exact g₁
  have r₂ : RpA F0 s₂.heap vs (((is.take 30).map absI).map .int) := ints_any r₁
  refine spliced_cons (wpAny_Constant_int (spliced_nil ⟨by simp [sizeLine_eq], ?_⟩))
  have k₃ : Keeps s₂ { s₂ with toks := s₂.toks + 1 } := keeps_toks s₂ _
  generalize hs3 : ({ s₂ with toks := s₂.toks + 1 } : Shared) = s₃ at k₃ ⊢
  have g₃ := kle k₃ _ _ g₂
  have k₄ : Keeps s₃ { s₃ with heap := s₃.heap.push (listOf ([Value.ref D, Value.int 0 s₂.toks]).toArray 0) } := keeps_push' _ _
  have gB : ({ s₃ with heap := s₃.heap.push (listOf ([Value.ref D, Value.int 0 s₂.toks]).toArray 0) } : Shared).heap.get? s₃.heap.objs.size = some (listOf ([Value.ref D, Value.int 0 s₂.toks]).toArray 0) := Heap.get?_push_size _ rfl
  have fB : s₃.heap.get? s₃.heap.objs.size = none := none_size _ (Nat.le_refl _)
  have hDB : s₃.heap.objs.size ≠ D := fun q => by rw [← q, fB] at g₃; cases g₃
  have kt := ktr (ktr k₁ k₃) k₄
  have R₄ := R.up (kle kt)
  have g₄ := kle k₄ _ _ g₃
  have fB' : s.heap.get? s₃.heap.objs.size = none := none_old (kle (ktr k₁ k₃)) fB
  generalize hBe : s₃.heap.objs.size = B at *
  show wpAny (model prog w) A (do assign (.Name "box" q1) env (.ref B); pure Flow.next) _ NoE { s₃ with heap := s₃.heap.push (listOf ([Value.ref D, Value.int 0 s₂.toks]).toArray 0) }
  generalize ({ s₃ with heap := s₃.heap.push (listOf ([Value.ref D, Value.int 0 s₂.toks]).toArray 0) } : Shared) = s₄ at *
  have kl : env.kindOf "box" = some .local := by show env.scope.names.lookup _ = _; rw [hsc]; decide +kernel
  have ls : ∃ o, s.heap.get? env.locals = some o := R.pres _ rfl
  have hBL : B ≠ env.locals := fun q => by (refine e1_1 ?_ ls; clear ls; intro o e); rw [← q, fB'] at e; cases e
  have hDL : D ≠ env.locals := fun q => by (refine e1_1 ?_ ls; clear ls; intro o e); rw [← q, hD] at e; cases e
  have E : LE base env B D := ⟨hsc, hbL, none_old R.ba fB', none_old R.ba hD, hBL, hDL⟩
  have R₅' := R.wide (wr := [B, D]) kt fun b hb => by
    rcases List.mem_cons.mp hb with rfl | hb
    · exact ⟨fB', _, gB⟩
    · rw [List.mem_singleton.mp hb]; exact ⟨hD, _, g₄⟩
  have eX : (fun a => a = env.locals ∨ a ∈ [B, D]) = XL env B D := by funext a; simp [XL]
  rw [eX] at R₅'
  refine wpAny_bind (wpAny_assign_Name (wpAny_storeName_local kl R₅'.ns (fun h' hn hs => wpAny_pure ?_) (by rw [R.fn]; rfl)))
  have hno : ∀ x xs, scriptS is x ≠ some (.own xs) := fun x xs e => by
    unfold scriptS at e
    split at e <;> cases e
  have c₅ : Ch (· = env.locals) s₄ { s₄ with heap := h', toks := s₄.toks + 1 } := ch_heap s₄ h' _ fun b o nb e => (hs.2 b nb).trans e
  refine hQ _ (fun x => if x = ("box" : Str) then some (.ref B) else m x) B D E fB' hD ?_ ⟨R₅'.back c₅ (fun a q => .inl q) (fun a q => ?_) (fun a q => q ▸ hbL) hn (fun x hx => ?_) hno (fun x c h1 h2 q => (E.nc x h1).elim), hno, by simp, ?_⟩
  · exact (kch kt fun _ => False).tr c₅ fun d o nd _ => ⟨id, nd⟩
  · subst q
    (refine e3_2 ?_ hn; clear hn; intro o es ep e _)
    exact ⟨o, e⟩
  · refine if_neg fun q => ?_
    subst q
    simp [scriptS, str_inj] at hx
  · refine ⟨⟨_, _, (hs.2 B hBL).trans gB⟩, ⟨vs, nn, (is.take 30).map absI, (hs.2 D hDL).trans g₄, ints_any r₂, by simp; lia⟩, fun q => hDB (hBe ▸ q)⟩
end
end Mine
end
noncomputable section
open PySem PySem.W PyProof.Rows PySem.Calls PySem.Spec
set_option Elab.async false
set_option linter.all false
namespace Mine

section
variable {prog : Program} {w : World} {A : Around} {X : Addr → Prop} {base : Heap} {mg mb : Str → Option Value} {env : Env} {σ : Sto} {s s' s₀ : Shared} {m : Str → Option Value} {B J : Addr} {k k' : Int} {n n1 n2 : Nat} {O : Orc} {fv pv : Value}

noncomputable def PIs (P : Int) : Prop := P = 2 ∨ P = 3 ∨ P = 5
noncomputable def Forms (prog : Program) (w : World) (base : Heap) (mg mb : Str → Option Value) (n : Nat) : Prop := ∀ P a b, PIs P → PolyL P 4 a → PolyL P 3 b →
  OGood prog w base mg mb n "_law_plain_right" [L a, L b, .int P] (.bool true) ∧ OGood prog w base mg mb n "_law_divided_right" [L a, L b, .int P] (.bool true) ∧
  OGood prog w base mg mb n "_law_divisors_right" [L a, L b, .int P] (.bool true) ∧ OGood prog w base mg mb n "_law_parts_right" [L a, L b, .int P] (.bool true)

theorem law_body {is : List Int} (Bg' : Bg base mg mb) (B3 : Bg3 mg mb) (HO : OSound prog w base mg mb n O) (hsc : env.scope = (fdef 39).scope) (hbL : base.get? env.locals = none) (R : RdM base env (· = env.locals) (scriptS is) s.heap m) (rm : Room A n) (rm1 : Room A n1) (rm2 : Room A n2) (hl : is.length ≤ 100)
    (hf : mg "_law_take" = some fv) (hK : KeepOk prog w base fv) (hT : TakeOk prog w base n1 fv) (hf2 : mg "_law_poly" = some pv) (hK2 : KeepOk prog w base pv) (hT2 : PolyOk prog w base n2 pv)
    (hG : ∀ P, PIs P → O "mgcd" [L [1, 1], L [1], .int P] = some (L [1])) (hF : Forms prog w base mg mb n) :
    wpAny (model prog w) A (execs (fdef 39).body env) (fun f s' => f = .ret (.bool true) ∧ Ch (· = env.locals) s s') NoE s := by
  conv => arg 3; arg 1; whnf
  refine wpAny_execs_cons (law_1 Bg' B3 hsc hbL R rm hl fun s₁ m₁ B J E fB fJ c₁ I₁ => ?_)
  refine wpAny_execs_cons (law_2 E Bg' I₁ hf hK hT rm1 (by lia) (by lia) fun s₂ m₂ P form hP f0 f1 c₂ I₂ => ?_)
  have hP' : 2 ≤ P ∧ P ≤ 5 := by lia
  have sp : ∀ (σ : Sto) (d1 : Slot), setS (setS σ "p" d1) "form" (.val (.int form)) "p" = some d1 := fun σ d1 => by simp [setS, str_inj]
  refine wpAny_execs_cons (law_3 (P := P) E Bg' I₂ hf2 hK2 hT2 rm2 (by lia) (by lia) hP' (by simp [rdV, setS, str_inj, valS]) fun s₃ m₃ k₃ a b ha hb c₃ I₃ => ?_)
  refine wpAny_execs_cons (law_4 (P := P) E Bg' HO I₃ rm (by simp [setS, str_inj]) (hG P hP) (by rw [hsc]; decide +kernel) fun s₄ kk I₄ => ?_)
  (refine e0_4 ?_ (hF P a b hP ha hb); intro g0 g1 g2 g3)
  refine wpAny_execs_cons (wpAny_mono (law_5 (P := P) (form := form) (a := a) (b := b) E Bg' HO I₄ rm (by simp [setS, str_inj]) (by simp [setS, str_inj]) (by simp [setS, str_inj]) (by simp [setS, str_inj]) f0 f1 g0 g1 g2 g3) (fun f s₅ x => ?_) fun _ _ x => x)
  (refine e0_2 ?_ x; clear x; intro zz1 k5; subst zz1)
  refine ⟨rfl, ?_⟩
  have c23 : Ch (XL env B J) s₁ s₃ := c₂.tr c₃ fun d o nd _ => ⟨nd, nd⟩
  have c25 : Ch (XL env B J) s₁ s₅ := c23.tr (kch (ktr kk k5) fun _ => False) fun d o nd _ => ⟨nd, id⟩
  refine c₁.tr c25 fun d o nd e => ⟨nd, fun q => ?_⟩
  rcases q with q | q | q
  · exact nd q
  · rw [q, fB] at e; cases e
  · rw [q, fJ] at e; cases e

theorem law_call (hT₀ : FnAt base mg (fdef 39)) (Bg' : Bg base mg mb) (B3 : Bg3 mg mb) (HO : OSound prog w base mg mb n O)
    (hf : mg "_law_take" = some fv) (hK : KeepOk prog w base fv) (hT : TakeOk prog w base n1 fv) (hf2 : mg "_law_poly" = some pv) (hK2 : KeepOk prog w base pv) (hT2 : PolyOk prog w base n2 pv)
    (hG : ∀ P, PIs P → O "mgcd" [L [1, 1], L [1], .int P] = some (L [1])) (hF : Forms prog w base mg mb n) (h1n : n1 ≤ n) (h2n : n2 ≤ n) :
    ∃ a, mg (fdef 39).name = some (.ref a) ∧ ∀ (A : Around) (s : Shared) (v : Value) (is : List Int), Room A (n + 1) → HLe base s.heap → is.length ≤ 100 → Rp F0 s.heap v (L is) →
      wpAny (model prog w) A (call (.ref a) [v] []) (fun u s' => u = .bool true ∧ Keeps s s') NoE s := by
  (refine e5_4 ?_ hT₀; clear hT₀; intro a o pm code doc h1 h2 h3 h4)
  refine ⟨a, h1, fun A s v is rm hb hl rv => ?_⟩
  have hroom : A.depth < recursionLimit := by have := rm.d; show A.depth < 1000; lia
  have hks : ∀ x, (fdef 39).scope.names.lookup x ≠ some .cell := fun x hx => by
    have h0 : (fdef 39).scope.names.all (fun y => !(y.2 == NameKind.cell)) = true := by decide +kernel
    have := List.all_eq_true.mp h0 _ (mem_of_lookup hx)
    simp at this
  have hns : (fdef 39).scope.names.lookup (Str.ofString "script") = some .local := by decide +kernel
  refine wpAny_call (codeAny_call_cells (fd := docDef (fdef 39).name (fdef 39).params (fdef 39).body (fdef 39).scope pm code doc) (vals := [v]) (binds := [("script", v)]) hroom (hb _ _ h2) h3 (Bg'.nolimit.keeps hb) (h4.keeps hb) rfl rfl rfl (fun x hx => ?_) (fun s₁ IC => ?_) rfl rfl rfl)
  · left
    rw [List.mem_singleton.mp hx]; exact hns
  · generalize hE : callEnvC (docDef (fdef 39).name (fdef 39).params (fdef 39).body (fdef 39).scope pm code doc) s.heap.objs.size a = env at IC ⊢
    have hsc : env.scope = (fdef 39).scope := by subst hE; rfl
    have hgl : env.globals = mainGlobals := by subst hE; rfl
    have hbl : env.builtins = builtinsNs := by subst hE; rfl
    have hL : env.locals = s.heap.objs.size := by subst hE; rfl
    have hko : ∀ x, env.kindOf x = (fdef 39).scope.names.lookup x := fun x => by show env.scope.names.lookup x = _; rw [hsc]
    have hnc : ∀ x, env.kindOf x ≠ some .cell := fun x => by rw [hko]; exact hks x
    (refine e2_2 ?_ IC.done; intro h₁ tk zz1 hkeep; subst zz1)
    have frL : s.heap.get? env.locals = none := none_size _ (by rw [hL]; exact Nat.le_refl _)
    have kS : env.kindOf "script" = some .local := by rw [hko]; exact hns
    have eS : bindL env.kindOf [("script", v)] (fun _ => none) "script" = some v := by simp [bindL, kS]
    have R : RdM base env (· = env.locals) (scriptS is) ({ s with heap := h₁, toks := tk } : Shared).heap (bindL env.kindOf [("script", v)] fun _ => none) := {
      fn := by rw [hsc]; rfl
      gl := hgl
      bl := hbl
      ba := fun b o e => hkeep b o (hb b o e)
      pres := fun c q => by rw [q]; (refine e3_2 ?_ IC.toInCall.ns; intro o es ep e _); exact ⟨o, e⟩
      ns := IC.toInCall.ns
      ci := fun x q => (hnc x q).elim
      cellAt := fun x c q _ => (hnc x q).elim
      vals := fun x d e => by
        unfold scriptS at e
        split at e
        · rename_i q
          subst q; cases e
          exact ⟨v, ⟨rfl, .inl ⟨kS, eS⟩⟩, rv.to fun c o _ e => ⟨fun q => (by rw [q, frL] at e; cases e), hkeep c o e⟩⟩
        · cases e
      owns := fun x xs e => by
        unfold scriptS at e
        split at e <;> cases e }
    have rmN : ∀ j, j ≤ n → Room (A.deeper env) j := fun j hj => ⟨rm.h, by have := rm.d; show A.depth + 1 + j < 900; lia, by have := rm.u; show A.units + 3 + 4 * j + 100 < cLine; lia⟩
    refine wpAny_mono (law_body Bg' B3 HO hsc (none_old hb frL) R (rmN n (Nat.le_refl _)) (rmN n1 h1n) (rmN n2 h2n) hl hf hK hT hf2 hK2 hT2 hG hF) (fun f s' po => ?_) fun _ _ x => x.elim
    (refine e0_2 ?_ po; clear po; intro zz1 c; subst zz1)
    have k₁ : Keeps s { s with heap := h₁, toks := tk } := keeps_heap s h₁ tk hkeep
    exact ⟨rfl, ((kch k₁ fun _ => False).tr (W'' := fun _ => False) c fun d o _ e => ⟨id, fun q => (by rw [q, frL] at e; cases e)⟩).keeps fun _ _ _ => id⟩
end
end Mine
end
noncomputable section
open PySem PySem.W PyProof.Rows PySem.Calls PySem.Spec
open AutoSeq1 (wpAny_loadPart')
set_option Elab.async false
set_option linter.all false
namespace Mine
theorem lt_loop0 (l b : Addr) (items items2 : Array Value) (n n2 : Nat) (x y : Int) (t u : Tok) (h1 : items[0]? = some (.int x t)) (h2 : items2[0]? = some (.int y u)) (hxy : x ≠ y) :
    Meets (Builtin.«list.__eq__.loop» ⟨[.ref l, .ref b, rawInt 0, rawInt 0], []⟩)
      (fun A R s => s.heap.get? l = some (listOf items n) ∧ s.heap.get? b = some (listOf items2 n2) ∧ R (.ok (.ret (.bool (decide (x < y))))) s) := by
  intro prog w A R s h
  obtain ⟨hp, g, d, tk, os⟩ := s; (refine e0_3 ?_ h; clear h; intro hl hb h)
  wp_walk using wpAny_loadPart' hl, wpAny_loadPart' hb
  rw [show items[Int.toNat 0]? = some (.int x t) from h1, show items2[Int.toNat 0]? = some (.int y u) from h2]
  dsimp only
  have he : (x == y) = false := by simpa using hxy
  refine wpAny_bind (MeetsSeq.EqGives.int x y t u prog w _ _ _ _ ?_)
  rw [he]
  wp_walk using wpAny_loadPart' hl, wpAny_loadPart' hb
  rw [show items[Int.toNat 0]? = some (.int x t) from h1, show items2[Int.toNat 0]? = some (.int y u) from h2]
  dsimp only
  refine wpAny_bind (show wpAny (model prog w) _ (compareOp .Lt (.int x t) (.int y u)) _ _ _ from lt_int ?_)
  wp_walk
  exact h
theorem list_lt0 (l b : Addr) (items items2 : Array Value) (n n2 : Nat) (x y : Int) (t u : Tok) (h1 : items[0]? = some (.int x t)) (h2 : items2[0]? = some (.int y u)) (hxy : x ≠ y) :
    Meets (Builtin.«list.__lt__» ⟨[.ref l, .ref b], []⟩)
      (fun A R s => s.heap.get? l = some (listOf items n) ∧ s.heap.get? b = some (listOf items2 n2) ∧ R (.ok (.ret (.bool (decide (x < y))))) s) := by
  intro prog w A R s h
  obtain ⟨hp, g, d, tk, os⟩ := s; (refine e0_3 ?_ h; clear h; intro hl hb h)
  have f3 := AutoSeq1.sub_list_list
  wp_walk using wpAny_loadPart' hl, wpAny_loadPart' hb
  exact ⟨plainId_quiet MeetsSeq3.plain_eq_loop _, codeAny_builtin MeetsSeq3.entry_eq_loop (by
    rw [Around.under_plainId MeetsSeq3.plain_eq_loop _]
    exact lt_loop0 l b items items2 n n2 x y t u h1 h2 hxy prog w A R _ ⟨hl, hb, h⟩)⟩
section
variable {prog : Program} {w : World} {A : Around} {X : Addr → Prop} {base : Heap} {mg mb : Str → Option Value} {env : Env} {s s' s₀ : Shared} {n : Nat}

theorem oneLt_list {a b : Addr} {items items2 : Array Value} {na nb : Nat} {x y : Int} {t u : Tok} {Q : Bool → Shared → Prop} (hu : A.units < cLine) (ha : s.heap.get? a = some (listOf items na)) (hb : s.heap.get? b = some (listOf items2 nb))
    (h1 : items[0]? = some (.int x t)) (h2 : items2[0]? = some (.int y u)) (hxy : x ≠ y) (h : Q (decide (x < y)) s) : wpAny (model prog w) A (oneLt' true (.ref a) (.ref b)) Q NoE s := by
  rw [oneLt'_eq]
  simp only [if_true]
  refine wpAny_bind (wpAny_cRoomFor hu ?_)
  refine wpAny_bind (wpAny_callSpecialIfBound?_slot ⟨_, ha, rfl⟩ F.slot_list_lt (call_meets F.slot_list_lt ⟨_, ha, rfl⟩ F.entry_list_lt (F.args_list_lt_2 _ _) (list_lt0 a b items items2 na nb x y t u h1 h2 hxy) ⟨ha, hb, ?_⟩))
  exact wpAny_truthy_bool h

theorem eqBool_list {a b : Addr} {xs ys : List Int} {Q : Bool → Shared → Prop} (hu : A.units + 64 < cLine) (ha : Rp X s.heap (.ref a) (L xs)) (hb : Rp X s.heap (.ref b) (L ys)) (hab : a ≠ b) {c : Bool} (hc : cmpV .Eq (L xs) (L ys) = some c)
    (h : ∀ s', Keeps s s' → Q c s') : wpAny (model prog w) A (eqBool (.ref a) (.ref b)) Q NoE s := by
  unfold eqBool
  refine wpAny_holding ?_
  have hne : (Value.ref a == Value.ref b) = false := by
    simp [hab]
  rw [hne]
  simp only [Bool.false_eq_true, if_false]
  refine wpAny_bind (wpAny_mono (show wpAny (model prog w) A (compareOp .Eq (.ref a) (.ref b)) _ NoE s from s_cmp hc hu ha hb) (fun v s' x => ?_) fun _ _ x => x)
  (refine e0_2 ?_ x; clear x; intro zz1 k; subst zz1)
  exact wpAny_truthy_bool (h s' k)
end
end Mine
end
noncomputable section
open PySem PySem.W PyProof.Rows PySem.Calls PySem.Spec
set_option Elab.async false
set_option linter.all false
namespace Mine
section
variable {prog : Program} {w : World} {A : Around} {X : Addr → Prop} {base : Heap} {mg mb : Str → Option Value} {env : Env} {s s' s₀ : Shared} {n : Nat}

/-- two pairs (list, number), their lists told apart by their first number -/
theorem pair_lt {a b la lb : Addr} {u v : Value} {xs ys : List Int} {x y : Int} {Q : Bool → Shared → Prop} (hu : A.units + 64 < cLine) (ha : s.heap.IsTuple a ([Value.ref la, u]).toArray) (hb : s.heap.IsTuple b ([Value.ref lb, v]).toArray)
    (ra : Rp X s.heap (.ref la) (L (x :: xs))) (rb : Rp X s.heap (.ref lb) (L (y :: ys))) (hxy : x ≠ y) (hc : cmpV .Eq (L (x :: xs)) (L (y :: ys)) = some false)
    (h : ∀ s', Keeps s s' → Q (decide (x < y)) s') : wpAny (model prog w) A (keyLt' (tuples' true) (.ref a) (.ref b)) Q NoE s := by
  (refine e1_3 ?_ ha; clear ha; intro oa ga ca zz1; refine e1_1 ?_ zz1; clear zz1; intro na da)
  (refine e1_3 ?_ hb; clear hb; intro ob gb cb zz1; refine e1_1 ?_ zz1; clear zz1; intro nb db)
  have ra' := ra
  have rb' := rb
  (refine e2_2 ?_ (lst_at ra); intro vsa na' gla qa)
  (refine e2_2 ?_ (lst_at rb); intro vsb nb' glb qb)
  (refine e2_3 ?_ (cons_inv qa); intro v1 vsa zz1 q1 _; subst zz1)
  clear qa
  (refine e1_1 ?_ (int_inv q1); intro t zz1; subst zz1)
  clear q1
  (refine e2_3 ?_ (cons_inv qb); intro v2 vsb zz1 q2 _; subst zz1)
  clear qb
  (refine e1_1 ?_ (int_inv q2); intro t2 zz1; subst zz1)
  clear q2
  have hab : la ≠ lb := fun q => by
    subst q
    rw [gla] at glb
    have := Option.some.inj glb
    simp only [Obj.mk.injEq, Data.seq.injEq] at this
    have := this.2.2.1.1
    simp at this
    exact hxy this.1.1
  refine kat_lt ga da gb db (kat_cons (eqBool_list hu ra' rb' hab hc fun s' k => kat_no ?_))
  show wpAny (model prog w) A (oneLt' true (.ref la) (.ref lb)) Q _ s'
  exact oneLt_list (t := t) (u := t2) (by lia) (kle k _ _ gla) (kle k _ _ glb) (by simp) (by simp) hxy (h s' k)

theorem sort_end {D : Addr} {vs : List Value} {s₁ : Shared} {e1 : Nat} {P : PySem.Fin → Shared → Prop} {st : SortSt} (g : s₁.heap.get? D = some (seqObj "list" #[] e1)) (hl : vs.length ≤ 60) (har : (arrOf st).map (·.2) = vs.toArray) (hf : failedOf st = none)
    (h : ∀ s' n', Ch (· = D) s₁ s' → s'.heap.get? D = some (listOf vs.toArray n') → P (.done (.ret .none)) s') :
    wpAny (model prog w) A (do
      let sorted := (arrOf st).map (·.2)
      let touched := (← seqEpoch D) != e1
      Builtin.List.listUpdate (.ref D) fun _ => sorted
      if let some e := failedOf st then rule "list.sort.comparison-raised"; throw e
      if touched then rule "list.sort.modified"; raiseError "ValueError" "list modified during sort"
      ret .none) P NoE s₁ := by
  rw [har, hf]
  have hsz : vs.toArray.size = vs.length := by simp
  refine wpAny_bind (seqEpoch_at g rfl ?_)
  refine wpAny_bind (listUpdate_at g rfl ?_ (Nat.zero_le _) (by rw [hsz, sizeLine_eq]; lia))
  simp only [bne_self_eq_false, Bool.false_eq_true, if_false]
  refine wpAny_pure (h _ _ (ch_heap (W := (· = D)) s₁ _ s₁.toks fun b o nb e => ?_) (get?_update_seq g fun _ => vs.toArray))
  exact (Heap.get?_update_other _ _ (Ne.symm nb)).trans e

theorem sort_keep {D : Addr} {vs : List Value} {nn : Nat} {P : PySem.Fin → Shared → Prop} (ho : s.heap.get? D = some (listOf vs.toArray nn)) (hl : vs.length ≤ 60)
    (hs : 2 ≤ vs.length → ∀ s', (∀ b o, b ≠ D → s.heap.get? b = some o → s'.heap.get? b = some o) →
      wpAny (model prog w) A (keyKind' vs.toArray) (fun κ s'' => (kas_sort vs.length).kasWp (kas_ask prog w A κ vs) (fun p s3 => p.toList = List.range vs.length ∧ Keeps s' s3) s'') NoE s')
    (h : ∀ s' n', Ch (· = D) s s' → s'.heap.get? D = some (listOf vs.toArray n') → P (.done (.ret .none)) s') :
    wpAny (model prog w) A (Builtin.«list.sort» ⟨[.ref D], []⟩) P NoE s := by
  have hsz : vs.toArray.size = vs.length := by simp
  rw [list_sort_plain]
  refine wpAny_bind (listItems_at ho rfl ?_)
  refine wpAny_bind (listUpdate_at ho rfl ?_ (by rw [hsz, sizeLine_eq]; lia) (Nat.zero_le _))
  obtain ⟨e1, ho1⟩ : ∃ e1, (s.heap.update D (Obj.mapSeq fun _ => (#[] : Array Value))).get? D = some (seqObj "list" #[] e1) := ⟨_, get?_update_seq ho fun _ => #[]⟩
  refine wpAny_bind (seqEpoch_at ho1 rfl ?_)
  refine wpAny_bind (wpAny_newTuple ?_ (by show vs.length ≤ _; rw [sizeLine_eq]; lia))
  refine wpAny_bind (wpAny_newList ?_ (Nat.zero_le _))
  refine wpAny_holding ?_
  have hup : ∀ b, b ≠ D → (s.heap.update D (Obj.mapSeq fun _ => (#[] : Array Value))).get? b = s.heap.get? b := fun b nb => Heap.get?_update_other _ _ (Ne.symm nb)
  generalize hH : s.heap.update D (Obj.mapSeq fun _ => (#[] : Array Value)) = H at *
  have c1 : Ch (· = D) s { s with heap := (H.push { cls := .type "tuple", data := .seq vs.toArray }).push { cls := .type "list", data := .seq ([] : List Value).toArray } } := ch_heap (W := (· = D)) s _ s.toks fun b o nb e => Heap.get?_push_of_some _ (Heap.get?_push_of_some _ ((hup b nb).trans e))
  have g1 : ({ s with heap := (H.push { cls := .type "tuple", data := .seq vs.toArray }).push { cls := .type "list", data := .seq ([] : List Value).toArray } } : Shared).heap.get? D = some (seqObj "list" #[] e1) := Heap.get?_push_of_some _ (Heap.get?_push_of_some _ ho1)
  show wpAny (model prog w) A _ P NoE { s with heap := (H.push { cls := .type "tuple", data := .seq vs.toArray }).push { cls := .type "list", data := .seq ([] : List Value).toArray } }
  generalize ({ s with heap := (H.push { cls := .type "tuple", data := .seq vs.toArray }).push { cls := .type "list", data := .seq ([] : List Value).toArray } } : Shared) = s₁ at *
  dsimp only
  by_cases h2 : vs.toArray.size < 2
  · rw [if_pos h2, if_pos h2]
    refine wpAny_bind (wpAny_pure ?_)
    rw [StateT.run_pure]
    refine wpAny_bind (wpAny_pure ?_)
    refine sort_end g1 hl ?_ rfl fun s' n' c g => h s' n' (c1.tr c fun d o nd _ => ⟨nd, nd⟩) g
    show ((vs.toArray.zip vs.toArray).map (·.2)) = vs.toArray
    simp
    first | exact List.map_snd_zip (Nat.le_refl _) | exact List.map_snd_zip _ _ (Nat.le_refl _)
  · rw [if_neg h2, if_neg h2]
    have h2' : 2 ≤ vs.length := by rw [hsz] at h2; lia
    refine wpAny_bind (wpAny_mono (hs h2' s₁ fun b o nb e => c1.at nb e) (fun κ s₂ hk => ?_) fun _ _ x => x)
    refine wpAny_bind (wpAny_mono (kat_run (Q := fun st' s' => (arrOf st').map (·.2) = vs.toArray ∧ failedOf st' = none ∧ Keeps s₁ s') rfl h2' (by lia) (fun p st' s' a1 a2 a3 a4 => ⟨?_, a3, a4.2⟩) hk) ?_ fun _ _ e => e)
    · rw [kat_snds rfl a2, a4.1]
      congr 1
      apply List.ext_getElem
      · simp
      · intro i h1 h3
        simp [h3]
    · (intro zz1; rcases zz1 with ⟨⟨⟩, st'⟩; intro s₃ zz2; refine e0_3 ?_ zz2; clear zz2; intro har hf kk)
      exact sort_end (kle kk _ _ g1) hl har hf fun s' n' c g => h s' n' ((c1.tr (kch kk fun _ => False) fun d o nd _ => ⟨nd, id⟩).tr c fun d o nd _ => ⟨nd, nd⟩) g

theorem sorted_keep {l : Addr} {vs : List Value} {nn : Nat} {Q : Value → Shared → Prop} (hl : s.heap.get? l = some (listOf vs.toArray nn)) (h60 : vs.length ≤ 60)
    (hs : 2 ≤ vs.length → ∀ s', HLe s.heap s'.heap →
      wpAny (model prog w) A.in1.in1 (keyKind' vs.toArray) (fun κ s'' => (kas_sort vs.length).kasWp (kas_ask prog w A.in1.in1 κ vs) (fun p s3 => p.toList = List.range vs.length ∧ Keeps s' s3) s'') NoE s')
    (h : ∀ D s' n', Keeps s s' → s.heap.get? D = none → s'.heap.get? D = some (listOf vs.toArray n') → Q (.ref D) s') :
    wpAny (model prog w) A (call (.builtin "sorted") [.ref l]) Q NoE s := by
  refine Calls.call_function_entry kind_sorted plain_sorted entry_sorted (args_sorted1 _) ?_
  unfold Builtin.«sorted»
  refine wpAny_bind (m := checkCount "sorted" 1 1 _) (wpAny_pure ?_)
  refine wpAny_bind (collect_list (isList_of hl) ?_ (by rw [sizeLine_eq]; lia))
  refine wpAny_bind (wpAny_newList ?_ (by rw [sizeLine_eq]; lia))
  have hk0 : HLe s.heap ((s.heap.push (seqObj "list" #[] 0)).update s.heap.objs.size (Obj.mapSeq (· ++ vs.toArray))) := fun b o e => by
    have hlt := Heap.lt_size e
    exact (Heap.get?_update_other _ _ (Nat.ne_of_gt hlt)).trans (Heap.get?_push_of_some _ e)
  generalize (s.heap.push (seqObj "list" #[] 0)).update s.heap.objs.size (Obj.mapSeq (· ++ vs.toArray)) = H at *
  have fD : s.heap.get? H.objs.size = none := none_old hk0 (none_size _ (Nat.le_refl _))
  have gD : (H.push { cls := .type "list", data := .seq vs.toArray }).get? H.objs.size = some (listOf vs.toArray 0) := Heap.get?_push_size _ rfl
  have k1 : HLe s.heap (H.push { cls := .type "list", data := .seq vs.toArray }) := fun b o e => Heap.get?_push_of_some _ (hk0 b o e)
  have kk : Keeps s { s with heap := H.push { cls := .type "list", data := .seq vs.toArray } } := keeps_heap s _ s.toks k1
  show wpAny (model prog w) A.in1 _ _ _ { s with heap := H.push { cls := .type "list", data := .seq vs.toArray } }
  refine wpAny_bind (wpAny_holding (wpAny_call_entry slot_list_sort ⟨_, gD, rfl⟩ entry_list_sort ?_ (args_list_sort _)))
  refine sort_keep gD h60 (fun h2 s' hk => hs h2 s' fun b o e => hk b o (fun q => by rw [q, fD] at e; cases e) (k1 b o e)) fun s' n' c g => ⟨_, rfl, ?_⟩
  refine wpAny_pure ⟨_, rfl, h _ s' n' ?_ fD g⟩
  exact ((kch kk fun _ => False).tr (W'' := fun _ => False) c fun d o _ e => ⟨id, fun q => (by rw [q, fD] at e; cases e)⟩).keeps fun _ _ _ => id
end
end Mine
end
noncomputable section
open PySem PySem.W PyProof.Rows PySem.Calls PySem.Spec
set_option Elab.async false
set_option linter.all false
namespace Mine
/-- sorted, of the lists that the last form sorts -/
noncomputable abbrev oneD : PyData := .list [.tuple [.list [.int 0, .int 1, .int 1], .int 1]]
noncomputable abbrev twoD (m : Int) : PyData := .list [.tuple [.list [.int 0, .int 1], .int 1], .tuple [.list [.int 1, .int 1], .int m]]
open Classical in
noncomputable def sortS : List PyData → Option PyData := fun args => if (∃ d, args = [d] ∧ (d = oneD ∨ ∃ m, d = twoD m)) then args.head? else none
section
variable {prog : Program} {w : World} {A : Around} {X : Addr → Prop} {base : Heap} {mg mb : Str → Option Value} {env : Env} {s s' s₀ : Shared} {n : Nat}

theorem sorted_same {l : Addr} {vs : List Value} {ds : List PyData} {nn : Nat} (hX : Pres X s.heap) (g : s.heap.get? l = some (listOf vs.toArray nn)) (q : RpA X s.heap vs ds) (h60 : vs.length ≤ 60)
    (hs : 2 ≤ vs.length → ∀ s', HLe s.heap s'.heap →
      wpAny (model prog w) A.in1.in1 (keyKind' vs.toArray) (fun κ s'' => (kas_sort vs.length).kasWp (kas_ask prog w A.in1.in1 κ vs) (fun p s3 => p.toList = List.range vs.length ∧ Keeps s' s3) s'') NoE s') :
    wpAny (model prog w) A (call (.builtin "sorted") [.ref l]) (fun v s' => Keeps s s' ∧ Rp X s'.heap v (.list ds)) NoE s :=
  sorted_keep g h60 hs fun D s' n' k fD gD => ⟨k, .list (fun x => by (refine e1_1 ?_ (hX D x); intro o e); rw [fD] at e; cases e) gD (q.up (kle k))⟩

theorem two_key {a0 a1 l0 l1 : Addr} {vs0 vs1 : List Value} {n0 n1 : Nat} {z0 z1 : Value} {vs : List Value} (hv : vs = [.ref a0, .ref a1]) (hu : A.in1.in1.units + 64 < cLine) (hk : HLe s.heap s'.heap) (t0 : s.heap.IsTuple a0 #[.ref l0, z0]) (t1 : s.heap.IsTuple a1 #[.ref l1, z1])
    (g0 : s.heap.get? l0 = some (listOf vs0.toArray n0)) (g1 : s.heap.get? l1 = some (listOf vs1.toArray n1)) (u0 : Rp X s.heap (.ref l0) (L [0, 1])) (u1 : Rp X s.heap (.ref l1) (L [1, 1])) :
    wpAny (model prog w) A.in1.in1 (keyKind' vs.toArray) (fun κ s'' => (kas_sort vs.length).kasWp (kas_ask prog w A.in1.in1 κ vs) (fun p s3 => p.toList = List.range vs.length ∧ Keeps s' s3) s'') NoE s' := by
  subst hv
  have t0' := tup_at t0 (hk _)
  have t1' := tup_at t1 (hk _)
  (refine e1_3 ?_ t0; clear t0; intro o0 b0 c0 zz1; refine e1_1 ?_ zz1; clear zz1; intro n0 d0)
  (refine e1_3 ?_ t1; clear t1; intro o1 b1 c1 zz1; refine e1_1 ?_ zz1; clear zz1; intro n1 d1)
  refine kat_kind (fs := [.ref l0, .ref l1]) (T := .type "list") (KatTups.cons (hk _ _ b0) c0 d0 (by rfl) (KatTups.cons (hk _ _ b1) c1 d1 (by rfl) KatTups.nil)) (Nat.succ_pos _) (fun v hv => ?_) (by decide) ?_
  · rcases List.mem_cons.mp hv with q | hv
    · rw [q]; exact (Looks.ld (hk _ _ g0)).andThen .now
    · rw [List.mem_singleton.mp hv]; exact (Looks.ld (hk _ _ g1)).andThen .now
  · refine (show wpAny (model prog w) A.in1.in1 (keyLt' (tuples' true) (.ref a1) (.ref a0)) _ NoE s' from pair_lt hu t1' t0' (u1.up hk) (u0.up hk) (by decide) (by decide +kernel) fun s'' k => ?_)
    exact ⟨rfl, k⟩
theorem sortS_sound (hm : mg "sorted" = none ∧ mb "sorted" = some (.builtin "sorted")) {args : List PyData} {r : PyData} (he : sortS args = some r) : OGood prog w base mg mb n "sorted" args r := by
  refine ⟨_, .inr hm, keep_builtin, fun A s X vals rm hX hb hr => ?_⟩
  clear hb
  unfold sortS at he
  by_cases hd : ∃ d, args = [d] ∧ (d = oneD ∨ ∃ m, d = twoD m)
  case neg => rw [if_neg hd] at he; exact none_e he
  rw [if_pos hd] at he
  (refine e1_2 ?_ hd; clear hd; intro d zz1 hd; subst zz1)
  obtain rfl : d = r := Option.some.inj he
  clear he
  (refine e1_2 ?_ (one_inv hr); intro v zz1 r1; subst zz1)
  clear hr
  rcases hd with rfl | ⟨m, rfl⟩
  · (refine e3_4 ?_ (lst_inv r1); intro l vs nn zz1 hx g q; subst zz1)
    have hl : vs.length = 1 := q.length
    exact sorted_same hX g q (by lia) fun h2 => by lia
  · (refine e3_4 ?_ (lst_inv r1); intro l vs nn zz1 hx g q; subst zz1)
    refine sorted_same hX g q (by have : vs.length = 2 := q.length; lia) fun _ s' hk => ?_
    (refine e2_3 ?_ (two_inv q); intro v0 v1 e p0 p1)
    clear hX g q r1
    (refine e2_3 ?_ (tup_inv p0); intro a0 vs0 e0 t0 w0)
    (refine e2_3 ?_ (tup_inv p1); intro a1 vs1 e1 t1 w1)
    clear p0 p1
    (refine e2_3 ?_ (two_inv w0); intro u0 z0 f0 u0' _)
    (refine e2_3 ?_ (two_inv w1); intro u1 z1 f1 u1' _)
    clear w0 w1
    (refine e3_4 ?_ (lst_inv u0'); intro l0 es0 n0 h0 x0 g0 _)
    (refine e3_4 ?_ (lst_inv u1'); intro l1 es1 n1 h1 x1 g1 _)
    rw [f0, h0] at t0
    rw [f1, h1] at t1
    rw [h0] at u0'
    rw [h1] at u1'
    rw [e0, e1] at e
    exact two_key e (by have := rm.u; show A.units + 1 + 1 + 64 < cLine; lia) hk t0 t1 g0 g1 u0' u1'
end
end Mine
end
noncomputable section
open PySem PySem.W PyProof.Rows PySem.Calls PySem.Spec
set_option Elab.async false
set_option linter.all false
namespace Mine
section
variable {prog : Program} {w : World} {A : Around} {X : Addr → Prop} {base : Heap} {mg mb : Str → Option Value} {env : Env} {s s' s₀ : Shared} {n : Nat}

theorem base_sound (B : Bg base mg mb) (B2 : Bg2 mg mb) (hm : mg "sorted" = none ∧ mb "sorted" = some (.builtin "sorted")) : OSound prog w base mg mb n (baseO sortS) := by
  intro f args r he
  unfold baseO at he
  split at he
  · rename_i hf; subst hf
    exact sortS_sound hm he
  · exact blt_sound B B2 f args r he
theorem pre_sound (B : Bg base mg mb) (B2 : Bg2 mg mb) (hm : mg "sorted" = none ∧ mb "sorted" = some (.builtin "sorted")) (hT : ∀ i ∈ allFns, FnAt base mg (fdef i)) : OSound prog w base mg mb 33 (Pre sortS 33) :=
  chain_sound (n := 0) B allFns (baseO sortS) (fun i hi => ⟨fine_all i hi, hT i hi⟩) (base_sound B B2 hm)
theorem sortOk (P : Prm) : SortOk P sortS := by
  intro m hm
  unfold dueL
  split
  · exact (if_pos ⟨_, rfl, .inl rfl⟩).trans rfl
  · exact (if_pos ⟨_, rfl, .inr ⟨_, rfl⟩⟩).trans rfl
theorem polyL_good {P l : Int} {a : List Int} (hP : 1 < P) (h : PolyL P l a) : Good P a ∧ a ≠ [] ∧ (a.length : Int) ≤ l := by
  (refine e2_5 ?_ h; clear h; intro xs z zz1 h1 h2 h3 h4; subst zz1)
  refine ⟨⟨fun x hx => ?_, ?_⟩, by simp, by simp; lia⟩
  · rcases List.mem_append.mp hx with hx | hx
    · exact h2 x hx
    · rw [List.mem_singleton.mp hx]; lia
  · refine trim_id (.inr ?_)
    simp [lead]
    try lia
theorem forms (HO : OSound prog w base mg mb 33 (Pre sortS 33)) : Forms prog w base mg mb 33 := by
  intro P a b hP ha hb
  have hpp : PP P := hP
  (refine e0_3 ?_ (polyL_good hpp.pos.1 ha); intro ga na la)
  (refine e0_3 ?_ (polyL_good hpp.pos.1 hb); intro gb nb lb)
  have la' : a.length ≤ 5 := by lia
  have lb' : b.length ≤ 5 := by lia
  refine ⟨HO _ _ _ ?_, HO _ _ _ ?_, HO _ _ _ ?_, HO _ _ _ ?_⟩
  · exact (see (S := sortS) (k := 29) (by lia) (by lia) rfl).trans (run35 (P := ⟨P, hpp⟩) a b ga gb na nb la' lb')
  · exact (see (S := sortS) (k := 30) (by lia) (by lia) rfl).trans (run36 (P := ⟨P, hpp⟩) a b ga gb na nb la' lb')
  · exact (see (S := sortS) (k := 31) (by lia) (by lia) rfl).trans (run37 (P := ⟨P, hpp⟩) a b ga gb na nb (by lia) (by lia))
  · exact (see (S := sortS) (k := 32) (by lia) (by lia) rfl).trans (run38 (P := ⟨P, hpp⟩) (sortOk _) a b ga gb na nb la' lb')
theorem mgcd_one_ok {P : Int} (hP : PIs P) : Pre sortS 33 "mgcd" [L [1, 1], L [1], .int P] = some (L [1]) := by
  have hpp : PP P := hP
  have e : gcdL P [1, 1] [1] = [1] := by rcases hP with rfl | rfl | rfl <;> decide +kernel
  have g1 : Good P [1, 1] := ⟨fun x hx => by have := hpp.pos; simp at hx; lia, rfl⟩
  have g2 : Good P [1] := ⟨fun x hx => by have := hpp.pos; simp at hx; lia, rfl⟩
  rw [gcd_ok hpp (by lia) (by lia) [1, 1] [1] g1 g2 (by simp) (by simp), e]

/-- the whole: the law answers True and leaves all as it was -/
theorem law_true (hT : ∀ i ∈ allFns, FnAt base mg (fdef i)) (h31 : FnAt base mg (fdef 31)) (h34 : FnAt base mg (fdef 34)) (h39 : FnAt base mg (fdef 39)) (B : Bg base mg mb) (B2 : Bg2 mg mb) (B3 : Bg3 mg mb) (hm : mg "sorted" = none ∧ mb "sorted" = some (.builtin "sorted")) :
    ∃ a, mg (fdef 39).name = some (.ref a) ∧ ∀ (A : Around) (s : Shared) (v : Value) (is : List Int), Room A 34 → HLe base s.heap → is.length ≤ 100 → Rp F0 s.heap v (L is) →
      wpAny (model prog w) A (call (.ref a) [v] []) (fun u s' => u = .bool true ∧ Keeps s s') NoE s := by
  have HO := pre_sound (prog := prog) (w := w) B B2 hm hT
  have H0 : OSound prog w base mg mb 0 (fun _ _ => none) := fun f args r he => by cases he
  have H1 : OSound prog w base mg mb 1 (fun _ _ => none) := fun f args r he => by cases he
  (refine e1_3 ?_ (take_call h31 B H0); intro fv e1 K1 T1)
  (refine e1_3 ?_ (poly_call h34 B H1 e1 K1 T1); intro pv e2 K2 T2)
  exact law_call h39 B B3 HO e1 K1 T1 e2 K2 T2 (fun P hP => mgcd_one_ok hP) (forms HO) (by lia) (by lia)
end
end Mine
end
noncomputable section
open PySem PySem.W PyProof.Rows PySem.Calls PySem.Spec
set_option Elab.async false
set_option linter.all false
namespace Mine

theorem wcons {P : Params} {h : Heap} {vs : List Value} {d : WData} {ds : List WData} (w : WellAll P h vs (d :: ds)) : ∃ v vs', vs = v :: vs' ∧ Well P h v d ∧ WellAll P h vs' ds := by
  cases w with | cons a b => exact ⟨_, _, rfl, a, b⟩
theorem wint {R : WRecords} {P : Params} {h : Heap} {v : Value} {d : WData} (w : Well P h v d) (hi : WShape.has R d .int = true) : ∃ i t, v = .int i t := by
  cases w with
  | int i t => exact ⟨i, t, rfl⟩
  | _ => cases hi
theorem well_ints {R : WRecords} {P : Params} {h : Heap} : ∀ {ds : List WData} {vs : List Value}, WellAll P h vs ds → WShape.hasItems R ds .int = true → ∃ is : List Int, is.length = ds.length ∧ RpA F0 h vs (is.map .int) := by
  intro ds
  induction ds with
  | nil => intro vs w _; cases w; exact ⟨[], rfl, .nil⟩
  | cons d ds ih =>
    intro vs w hi
    (refine e2_3 ?_ (wcons w); intro v vs zz1 wv ws; subst zz1)
    (refine e0_2 ?_ (Bool.and_eq_true_iff.mp hi); intro h1 h2)
    (refine e1_2 ?_ (ih ws h2); intro is e1 e2)
    (refine e2_1 ?_ (wint wv h1); intro i t zz1; subst zz1)
    exact ⟨i :: is, congrArg Nat.succ e1, .cons (.int i t) e2⟩

theorem arg_ints {w : World} {h : Heap} {args : List WData} {vals : List Value} (hpre : PySem.Challenge.rw_pf0037_01.row.claim.pre args = true) (hw : WellAll w.params h vals args) : ∃ v is, vals = [v] ∧ is.length ≤ 100 ∧ Rp F0 h v (L is) := by
  have h1 : (WShape.hasAll [] args [.list .int] && PySem.Challenge.rw_pf0037_01.pre.holds [] { args := args }) = true := hpre
  simp only [Bool.and_eq_true] at h1
  (refine e0_2 ?_ h1; clear h1; intro h1 h2)
  cases args with
  | nil => cases h1
  | cons d r =>
    cases r with
    | cons x y => cases (Bool.and_eq_true_iff.mp h1).2
    | nil =>
      (refine e2_3 ?_ (wcons hw); intro v vs zz1 wv wn; subst zz1)
      clear hw hpre
      cases wn
      cases wv with
      | list g ws =>
        rename_i a vs xs
        replace h1 : WShape.hasItems [] xs .int = true := (Bool.or_false _).symm.trans (show (WShape.hasItems [] xs .int || false) = true from (Bool.and_eq_true_iff.mp h1).1)
        (refine e1_2 ?_ (well_ints ws h1); intro is e1 e2)
        refine ⟨_, is, rfl, ?_, .list (fun q => q) g e2⟩
        by_cases hlen : xs.length ≤ 63
        · lia
        · exfalso
          have hl : PySem.W.less? (.int 63) (.int xs.length) = some true := by
            show some _ = some true
            congr 1
            have : (63 : Int) < (xs.length : Int) := by lia
            simpa using this
          simp [WTm.holds, PySem.W.OpenLaw.pre, PySem.Challenge.rw_pf0037_01, WTm.value] at h2
          rw [hl] at h2
          simp at h2
      | _ => cases h1
end Mine
end
noncomputable section
open PySem PySem.W PyProof.Rows PySem.Calls PySem.Spec
set_option Elab.async false
set_option linter.all false
namespace Mine
noncomputable def bnames : List Str := ["len", "range", "enumerate", "list", "max", "sum", "abs", "int", "sorted"]
theorem boots : bootBuiltins "len" = some (.builtin "len") ∧ bootBuiltins "range" = some (.type "range") ∧ bootBuiltins "enumerate" = some (.type "enumerate") ∧ bootBuiltins "list" = some (.type "list") ∧ bootBuiltins "max" = some (.builtin "max") ∧
    bootBuiltins "sum" = some (.builtin "sum") ∧ bootBuiltins "abs" = some (.builtin "abs") ∧ bootBuiltins "int" = some (.type "int") ∧ bootBuiltins "sorted" = some (.builtin "sorted") := by
  refine ⟨?_, ?_, ?_, ?_, ?_, ?_, ?_, ?_, ?_⟩ <;> decide +kernel
theorem bg_of_top {p : Program} {loose : List Str} {mean : ExcName → Option Value} {mg mb : Str → Option Value} {h : Heap} (T : Top p loose mean mg mb h) (hf : ∀ x ∈ bnames, mg x = none) :
    Bg h mg mb ∧ Bg2 mg mb ∧ Bg3 mg mb ∧ (mg "sorted" = none ∧ mb "sorted" = some (.builtin "sorted")) := by
  (refine e0_9 ?_ boots; intro b1 b2 b3 b4 b5 b6 b7 b8 b9)
  have bb : ∀ (x : String) (v : Value), bootBuiltins (Str.ofString x) = some v → x ≠ "__name__" → mb (Str.ofString x) = some v := fun x v e hx => (T.builtins _ (by rw [ne_eq, str_inj]; exact hx)).trans e
  refine ⟨⟨T.g, T.b, T.nolimit, ⟨hf _ (by simp [bnames]), bb _ _ b1 (by decide)⟩, ⟨hf _ (by simp [bnames]), bb _ _ b2 (by decide)⟩, ⟨hf _ (by simp [bnames]), bb _ _ b3 (by decide)⟩, ⟨hf _ (by simp [bnames]), bb _ _ b4 (by decide)⟩⟩,
    ⟨⟨hf _ (by simp [bnames]), bb _ _ b5 (by decide)⟩, ⟨hf _ (by simp [bnames]), bb _ _ b6 (by decide)⟩⟩, ⟨⟨hf _ (by simp [bnames]), bb _ _ b7 (by decide)⟩, ⟨hf _ (by simp [bnames]), bb _ _ b8 (by decide)⟩⟩, hf _ (by simp [bnames]), bb _ _ b9 (by decide)⟩
noncomputable def fnIdx : List Nat := [31, 34, 39] ++ allFns
theorem fns_of_top {p : Program} {loose : List Str} {mean : ExcName → Option Value} {mg mb : Str → Option Value} {h : Heap} (T : Top p loose mean mg mb h) (hm : ∀ i ∈ fnIdx, fdef i ∈ recsOf p) : ∀ i ∈ fnIdx, FnAt h mg (fdef i) :=
  fun i hi => T.fn _ (hm i hi)
theorem good_end {args : List WData} {cl : Str → Option Addr} {mean : ExcName → Option Value} {s₁ s' : Shared} (hg : s₁.gens = #[]) (k : Keeps s₁ s') :
    GoodWG PySem.Challenge.rw_pf0037_01.row.claim cl mean args s₁ (.ok (.ret (.bool true))) s' := by
  (refine e2_2 ?_ k; clear k; intro h' t zz1 kk; subst zz1)
  refine ⟨.inl ⟨.bool true, .bool true, [], rfl, fun cls => rfl, .bool true, ?_, fun _ => ⟨List.nodup_nil, fun a ha => by cases ha⟩⟩, .of_keep kk, rfl, .of_eq hg⟩
  have h1 : WShape.has [] (.bool true) .bool = true := by simp [WShape.has, WShape.arms]
  have h2 : WTm.holds [] (.eq .res (.lit (.bool true))) { args := args, res := some (.bool true), after := args } = true := by
    have e : PySem.W.same (.bool true) (.bool true) = true := by simp [PySem.W.same]
    simp [WTm.holds, WTm.value, e]
  show (WShape.has [] (.bool true) .bool && WTm.holds [] (.eq .res (.lit (.bool true))) { args := args, res := some (.bool true), after := args }) = true
  rw [h1, h2]; rfl
end Mine
end
noncomputable section
open PySem PySem.W PyProof.Rows PySem.Calls PySem.Spec
set_option Elab.async false
set_option linter.all false
namespace Mine
/-- none of the builtin names is a global of the program `p` -/
noncomputable def bfree (p : Program) (loose : List Str) : Bool :=
  bnames.all fun x => !(startupNames.contains x) && !(loose.contains x) && !(((recsOf p).map (·.name)).contains x) && !(((litsOf p).map (·.1)).contains x) && !(((clssOf p loose).map (·.name)).contains x)
theorem free_of {p : Program} {loose : List Str} {mean : ExcName → Option Value} {mg mb : Str → Option Value} {h : Heap} (T : Top p loose mean mg mb h) (hd : bfree p loose = true) : ∀ x ∈ bnames, mg x = none := by
  intro x hx
  have h1 := List.all_eq_true.mp hd x hx
  simp only [Bool.and_eq_true, Bool.not_eq_true', List.contains_eq_mem, decide_eq_false_iff_not] at h1
  exact T.free x h1.1.1.1.1 h1.1.1.1.2 h1.1.1.2 h1.1.2 h1.2
theorem law_ends {p : Program} {loose : List Str} {mean : ExcName → Option Value} {cl : Str → Option Addr} {mg mb : Str → Option Value} {w : World} {s₁ : Shared} {fa : Addr} {args : List WData} {vals : List Value}
    (T : Top p loose mean mg mb s₁.heap) (hd : bfree p loose = true) (hmem : ∀ i ∈ fnIdx, fdef i ∈ recsOf p) (hmg : mg (fdef 39).name = some (.ref fa)) (hg : s₁.gens = #[])
    (hpre : PySem.Challenge.rw_pf0037_01.row.claim.pre args = true) (hwl : WellAll w.params s₁.heap vals args) :
    wpAny (model PySem.Challenge.rw_pf0037_01.row.prog w) callerA (call (.ref fa) vals)
      (fun v s' => GoodWG PySem.Challenge.rw_pf0037_01.row.claim cl mean args s₁ (.ok (.ret v)) s') (fun e s' => GoodWG PySem.Challenge.rw_pf0037_01.row.claim cl mean args s₁ (.error e) s') s₁ := by
  have hfn := fns_of_top T hmem
  (refine e0_4 ?_ (bg_of_top T (free_of T hd)); intro b1 b2 b3 b4)
  (refine e1_2 ?_ (law_true (prog := PySem.Challenge.rw_pf0037_01.row.prog) (w := w) (fun i hi => hfn i (List.mem_append_right _ hi)) (hfn 31 (by decide)) (hfn 34 (by decide)) (hfn 39 (by decide)) b1 b2 b3 b4); intro a ea hlaw)
  (refine e2_3 ?_ (arg_ints hpre hwl); intro v is zz1 hl rv; subst zz1)
  have e : fa = a := by
    rw [ea] at hmg
    exact (Value.ref.inj (Option.some.inj hmg)).symm
  subst e
  refine wpAny_mono (hlaw callerA s₁ v is ?_ (fun _ _ e => e) hl rv) (fun u s' x => ?_) fun _ _ x => x.elim
  · exact ⟨rfl, by decide, by decide⟩
  · (refine e0_2 ?_ x; clear x; intro zz1 k; subst zz1)
    exact good_end hg k
end Mine
end
open PySem PySem.W PyProof.Rows
set_option Elab.async false
set_option maxRecDepth 100000
namespace Mine
noncomputable def view : Program := { PySem.Challenge.pw_pf0037_01 with main := { PySem.Challenge.pw_pf0037_01.main with body := [1, 2, 4, 5, 6, 7, 8, 9, 10, 11, 12, 13, 14, 15, 16, 17, 18, 19, 20, 21, 22, 24, 25, 26, 27, 28, 29, 31, 32, 33, 34, 35, 36, 37, 38, 39].filterMap fun i => PySem.Challenge.pw_pf0037_01.main.body[i]? } }
theorem said : OpenLaw.wellSaid PySem.Challenge.rw_pf0037_01 = true := by kernel_rfl
theorem left : LeftO PySem.Challenge.pw_pf0037_01 view [] (fun s => xlAt view [] s && recOk (RowW.records (OpenRow.toRowW PySem.Challenge.rw_pf0037_01.row)) s) (Hook.obs Hook.none) (Hook.val Hook.none) 2414 true :=
  fun w => by kernel_rfl
theorem recs_view : recsOf view = [1, 2, 4, 5, 6, 7, 8, 9, 10, 11, 12, 13, 14, 15, 16, 17, 18, 19, 20, 21, 22, 24, 25, 26, 27, 28, 29, 31, 32, 33, 34, 35, 36, 37, 38, 39].map fdef := by kernel_rfl
theorem head_right (h : ∀ i ∈ fnIdx, fdef i ∈ recsOf view) : PySem.Challenge.rw_pf0037_01.Holds := by
  refine holds_law said fun said => ?_
  refine PySem.W.holds_open (r := PySem.Challenge.rw_pf0037_01.row) (q := view) (loose := []) (Xt := fun s => xlAt view [] s && recOk (RowW.records (OpenRow.toRowW PySem.Challenge.rw_pf0037_01.row)) s) (XP := PySem.W.XL view [])
    (Yf := Hook.obs Hook.none) (Ya := Hook.val Hook.none) (YP := Hook.says Hook.none) (d := fdef 39) (kwd := []) (N := 2414) left (Hook.of Hook.none) (Hook.keeps Hook.none) (fun s e => xl_of s (Bool.and_eq_true_iff.mp e).1) PySem.W.XL.keeps ?h1 ?h2 ?h3
    (fun s e => recFacts_of (Bool.and_eq_true_iff.mp e).2) ?h4 said ?h5 ?h6 ?hw ?hc
  case h1 => kernel_rfl
  case h2 => kernel_rfl
  case h3 => kernel_rfl
  case h4 => kernel_rfl
  case h5 => kernel_rfl
  case h6 => exact ⟨rfl, rfl, rfl, rfl, rfl, by decide +kernel⟩
  case hw => w_witness2
  case hc =>
    intro w s₀ s₁ mg mb G Y fa o pm cd doc dV kV ho hd hcd hD hmg hg args vals as hpre hlay hrd hwl hlo
    exact law_ends G.T (by kernel_rfl) h hmg hg hpre hwl
end Mine
theorem PySem.Challenge.cw_pf0037_01_holds : PySem.Challenge.rw_pf0037_01.Holds := by
  refine Mine.head_right fun i hi => ?_
  rw [Mine.recs_view]
  refine List.mem_map.mpr ⟨i, ?_, rfl⟩
  revert i
  decide
