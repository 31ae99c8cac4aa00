import PyProof.Rows.All
import Wide.All
import OpenK.AllK
import Wide.FinOn
import Open.FastRun
import Open.FastT9
import Lean
import PySem.Challenge.RW_no0408_01
set_option Elab.async false
set_option maxRecDepth 100000
set_option maxHeartbeats 0
set_option linter.all false
set_option compiler.extract_closed false
set_option bootstrap.genMatcherCode false
namespace Mine
theorem el_0_2 {p0 p1 : Prop} {G : Prop} (h : p0 ∧ p1) (k : p0 → p1 → G) : G := by
  rcases h with ⟨h0, h1⟩
  exact k h0 h1
theorem el_0_3 {p0 p1 p2 : Prop} {G : Prop} (h : p0 ∧ p1 ∧ p2) (k : p0 → p1 → p2 → G) : G := by
  rcases h with ⟨h0, h1, h2⟩
  exact k h0 h1 h2
theorem el_0_4 {p0 p1 p2 p3 : Prop} {G : Prop} (h : p0 ∧ p1 ∧ p2 ∧ p3) (k : p0 → p1 → p2 → p3 → G) : G := by
  rcases h with ⟨h0, h1, h2, h3⟩
  exact k h0 h1 h2 h3
theorem el_0_5 {p0 p1 p2 p3 p4 : Prop} {G : Prop} (h : p0 ∧ p1 ∧ p2 ∧ p3 ∧ p4) (k : p0 → p1 → p2 → p3 → p4 → G) : G := by
  rcases h with ⟨h0, h1, h2, h3, h4⟩
  exact k h0 h1 h2 h3 h4
theorem el_1_1 {α0 : Type} {p0 : α0 → Prop} {G : Prop} (h : ∃ x0, p0 x0) (k : ∀ x0, p0 x0 → G) : G := by
  rcases h with ⟨x0, h0⟩
  exact k x0 h0
theorem el_1_2 {α0 : Type} {p0 p1 : α0 → Prop} {G : Prop} (h : ∃ x0, p0 x0 ∧ p1 x0) (k : ∀ x0, p0 x0 → p1 x0 → G) : G := by
  rcases h with ⟨x0, h0, h1⟩
  exact k x0 h0 h1
theorem el_1_3 {α0 : Type} {p0 p1 p2 : α0 → Prop} {G : Prop} (h : ∃ x0, p0 x0 ∧ p1 x0 ∧ p2 x0) (k : ∀ x0, p0 x0 → p1 x0 → p2 x0 → G) : G := by
  rcases h with ⟨x0, h0, h1, h2⟩
  exact k x0 h0 h1 h2
theorem el_1_4 {α0 : Type} {p0 p1 p2 p3 : α0 → Prop} {G : Prop} (h : ∃ x0, p0 x0 ∧ p1 x0 ∧ p2 x0 ∧ p3 x0) (k : ∀ x0, p0 x0 → p1 x0 → p2 x0 → p3 x0 → G) : G := by
  rcases h with ⟨x0, h0, h1, h2, h3⟩
  exact k x0 h0 h1 h2 h3
theorem el_1_5 {α0 : Type} {p0 p1 p2 p3 p4 : α0 → Prop} {G : Prop} (h : ∃ x0, p0 x0 ∧ p1 x0 ∧ p2 x0 ∧ p3 x0 ∧ p4 x0) (k : ∀ x0, p0 x0 → p1 x0 → p2 x0 → p3 x0 → p4 x0 → G) : G := by
  rcases h with ⟨x0, h0, h1, h2, h3, h4⟩
  exact k x0 h0 h1 h2 h3 h4
theorem el_1_6 {α0 : Type} {p0 p1 p2 p3 p4 p5 : α0 → Prop} {G : Prop} (h : ∃ x0, p0 x0 ∧ p1 x0 ∧ p2 x0 ∧ p3 x0 ∧ p4 x0 ∧ p5 x0) (k : ∀ x0, p0 x0 → p1 x0 → p2 x0 → p3 x0 → p4 x0 → p5 x0 → G) : G := by
  rcases h with ⟨x0, h0, h1, h2, h3, h4, h5⟩
  exact k x0 h0 h1 h2 h3 h4 h5
theorem el_2_1 {α0 α1 : Type} {p0 : α0 → α1 → Prop} {G : Prop} (h : ∃ x0, ∃ x1, p0 x0 x1) (k : ∀ x0, ∀ x1, p0 x0 x1 → G) : G := by
  rcases h with ⟨x0, x1, h0⟩
  exact k x0 x1 h0
theorem el_2_2 {α0 α1 : Type} {p0 p1 : α0 → α1 → Prop} {G : Prop} (h : ∃ x0, ∃ x1, p0 x0 x1 ∧ p1 x0 x1) (k : ∀ x0, ∀ x1, p0 x0 x1 → p1 x0 x1 → G) : G := by
  rcases h with ⟨x0, x1, h0, h1⟩
  exact k x0 x1 h0 h1
theorem el_2_3 {α0 α1 : Type} {p0 p1 p2 : α0 → α1 → Prop} {G : Prop} (h : ∃ x0, ∃ x1, p0 x0 x1 ∧ p1 x0 x1 ∧ p2 x0 x1) (k : ∀ x0, ∀ x1, p0 x0 x1 → p1 x0 x1 → p2 x0 x1 → G) : G := by
  rcases h with ⟨x0, x1, h0, h1, h2⟩
  exact k x0 x1 h0 h1 h2
theorem el_2_4 {α0 α1 : Type} {p0 p1 p2 p3 : α0 → α1 → Prop} {G : Prop} (h : ∃ x0, ∃ x1, p0 x0 x1 ∧ p1 x0 x1 ∧ p2 x0 x1 ∧ p3 x0 x1) (k : ∀ x0, ∀ x1, p0 x0 x1 → p1 x0 x1 → p2 x0 x1 → p3 x0 x1 → G) : G := by
  rcases h with ⟨x0, x1, h0, h1, h2, h3⟩
  exact k x0 x1 h0 h1 h2 h3
theorem el_2_5 {α0 α1 : Type} {p0 p1 p2 p3 p4 : α0 → α1 → Prop} {G : Prop} (h : ∃ x0, ∃ x1, p0 x0 x1 ∧ p1 x0 x1 ∧ p2 x0 x1 ∧ p3 x0 x1 ∧ p4 x0 x1) (k : ∀ x0, ∀ x1, p0 x0 x1 → p1 x0 x1 → p2 x0 x1 → p3 x0 x1 → p4 x0 x1 → G) : G := by
  rcases h with ⟨x0, x1, h0, h1, h2, h3, h4⟩
  exact k x0 x1 h0 h1 h2 h3 h4
theorem el_2_6 {α0 α1 : Type} {p0 p1 p2 p3 p4 p5 : α0 → α1 → Prop} {G : Prop} (h : ∃ x0, ∃ x1, p0 x0 x1 ∧ p1 x0 x1 ∧ p2 x0 x1 ∧ p3 x0 x1 ∧ p4 x0 x1 ∧ p5 x0 x1) (k : ∀ x0, ∀ x1, p0 x0 x1 → p1 x0 x1 → p2 x0 x1 → p3 x0 x1 → p4 x0 x1 → p5 x0 x1 → G) : G := by
  rcases h with ⟨x0, x1, h0, h1, h2, h3, h4, h5⟩
  exact k x0 x1 h0 h1 h2 h3 h4 h5
theorem el_3_1 {α0 α1 α2 : Type} {p0 : α0 → α1 → α2 → Prop} {G : Prop} (h : ∃ x0, ∃ x1, ∃ x2, p0 x0 x1 x2) (k : ∀ x0, ∀ x1, ∀ x2, p0 x0 x1 x2 → G) : G := by
  rcases h with ⟨x0, x1, x2, h0⟩
  exact k x0 x1 x2 h0
theorem el_3_3 {α0 α1 α2 : Type} {p0 p1 p2 : α0 → α1 → α2 → Prop} {G : Prop} (h : ∃ x0, ∃ x1, ∃ x2, p0 x0 x1 x2 ∧ p1 x0 x1 x2 ∧ p2 x0 x1 x2) (k : ∀ x0, ∀ x1, ∀ x2, p0 x0 x1 x2 → p1 x0 x1 x2 → p2 x0 x1 x2 → G) : G := by
  rcases h with ⟨x0, x1, x2, h0, h1, h2⟩
  exact k x0 x1 x2 h0 h1 h2
theorem el_3_5 {α0 α1 α2 : Type} {p0 p1 p2 p3 p4 : α0 → α1 → α2 → Prop} {G : Prop} (h : ∃ x0, ∃ x1, ∃ x2, p0 x0 x1 x2 ∧ p1 x0 x1 x2 ∧ p2 x0 x1 x2 ∧ p3 x0 x1 x2 ∧ p4 x0 x1 x2) (k : ∀ x0, ∀ x1, ∀ x2, p0 x0 x1 x2 → p1 x0 x1 x2 → p2 x0 x1 x2 → p3 x0 x1 x2 → p4 x0 x1 x2 → G) : G := by
  rcases h with ⟨x0, x1, x2, h0, h1, h2, h3, h4⟩
  exact k x0 x1 x2 h0 h1 h2 h3 h4
theorem el_3_6 {α0 α1 α2 : Type} {p0 p1 p2 p3 p4 p5 : α0 → α1 → α2 → Prop} {G : Prop} (h : ∃ x0, ∃ x1, ∃ x2, p0 x0 x1 x2 ∧ p1 x0 x1 x2 ∧ p2 x0 x1 x2 ∧ p3 x0 x1 x2 ∧ p4 x0 x1 x2 ∧ p5 x0 x1 x2) (k : ∀ x0, ∀ x1, ∀ x2, p0 x0 x1 x2 → p1 x0 x1 x2 → p2 x0 x1 x2 → p3 x0 x1 x2 → p4 x0 x1 x2 → p5 x0 x1 x2 → G) : G := by
  rcases h with ⟨x0, x1, x2, h0, h1, h2, h3, h4, h5⟩
  exact k x0 x1 x2 h0 h1 h2 h3 h4 h5
theorem el_4_1 {α0 α1 α2 α3 : Type} {p0 : α0 → α1 → α2 → α3 → Prop} {G : Prop} (h : ∃ x0, ∃ x1, ∃ x2, ∃ x3, p0 x0 x1 x2 x3) (k : ∀ x0, ∀ x1, ∀ x2, ∀ x3, p0 x0 x1 x2 x3 → G) : G := by
  rcases h with ⟨x0, x1, x2, x3, h0⟩
  exact k x0 x1 x2 x3 h0
theorem el_4_2 {α0 α1 α2 α3 : Type} {p0 p1 : α0 → α1 → α2 → α3 → Prop} {G : Prop} (h : ∃ x0, ∃ x1, ∃ x2, ∃ x3, p0 x0 x1 x2 x3 ∧ p1 x0 x1 x2 x3) (k : ∀ x0, ∀ x1, ∀ x2, ∀ x3, p0 x0 x1 x2 x3 → p1 x0 x1 x2 x3 → G) : G := by
  rcases h with ⟨x0, x1, x2, x3, h0, h1⟩
  exact k x0 x1 x2 x3 h0 h1
theorem el_4_5 {α0 α1 α2 α3 : Type} {p0 p1 p2 p3 p4 : α0 → α1 → α2 → α3 → Prop} {G : Prop} (h : ∃ x0, ∃ x1, ∃ x2, ∃ x3, p0 x0 x1 x2 x3 ∧ p1 x0 x1 x2 x3 ∧ p2 x0 x1 x2 x3 ∧ p3 x0 x1 x2 x3 ∧ p4 x0 x1 x2 x3) (k : ∀ x0, ∀ x1, ∀ x2, ∀ x3, p0 x0 x1 x2 x3 → p1 x0 x1 x2 x3 → p2 x0 x1 x2 x3 → p3 x0 x1 x2 x3 → p4 x0 x1 x2 x3 → G) : G := by
  rcases h with ⟨x0, x1, x2, x3, h0, h1, h2, h3, h4⟩
  exact k x0 x1 x2 x3 h0 h1 h2 h3 h4
theorem el_17_4 {α0 α1 α2 α3 α4 α5 α6 α7 α8 α9 α10 α11 α12 α13 α14 α15 α16 : Type} {p0 p1 p2 p3 : α0 → α1 → α2 → α3 → α4 → α5 → α6 → α7 → α8 → α9 → α10 → α11 → α12 → α13 → α14 → α15 → α16 → Prop} {G : Prop} (h : ∃ x0, ∃ x1, ∃ x2, ∃ x3, ∃ x4, ∃ x5, ∃ x6, ∃ x7, ∃ x8, ∃ x9, ∃ x10, ∃ x11, ∃ x12, ∃ x13, ∃ x14, ∃ x15, ∃ x16, p0 x0 x1 x2 x3 x4 x5 x6 x7 x8 x9 x10 x11 x12 x13 x14 x15 x16 ∧ p1 x0 x1 x2 x3 x4 x5 x6 x7 x8 x9 x10 x11 x12 x13 x14 x15 x16 ∧ p2 x0 x1 x2 x3 x4 x5 x6 x7 x8 x9 x10 x11 x12 x13 x14 x15 x16 ∧ p3 x0 x1 x2 x3 x4 x5 x6 x7 x8 x9 x10 x11 x12 x13 x14 x15 x16) (k : ∀ x0, ∀ x1, ∀ x2, ∀ x3, ∀ x4, ∀ x5, ∀ x6, ∀ x7, ∀ x8, ∀ x9, ∀ x10, ∀ x11, ∀ x12, ∀ x13, ∀ x14, ∀ x15, ∀ x16, p0 x0 x1 x2 x3 x4 x5 x6 x7 x8 x9 x10 x11 x12 x13 x14 x15 x16 → p1 x0 x1 x2 x3 x4 x5 x6 x7 x8 x9 x10 x11 x12 x13 x14 x15 x16 → p2 x0 x1 x2 x3 x4 x5 x6 x7 x8 x9 x10 x11 x12 x13 x14 x15 x16 → p3 x0 x1 x2 x3 x4 x5 x6 x7 x8 x9 x10 x11 x12 x13 x14 x15 x16 → G) : G := by
  rcases h with ⟨x0, x1, x2, x3, x4, x5, x6, x7, x8, x9, x10, x11, x12, x13, x14, x15, x16, h0, h1, h2, h3⟩
  exact k x0 x1 x2 x3 x4 x5 x6 x7 x8 x9 x10 x11 x12 x13 x14 x15 x16 h0 h1 h2 h3
theorem el_6_11 {α0 α1 α2 α3 α4 α5 : Type} {p0 p1 p2 p3 p4 p5 p6 p7 p8 p9 p10 : α0 → α1 → α2 → α3 → α4 → α5 → Prop} {G : Prop} (h : ∃ x0, ∃ x1, ∃ x2, ∃ x3, ∃ x4, ∃ x5, p0 x0 x1 x2 x3 x4 x5 ∧ p1 x0 x1 x2 x3 x4 x5 ∧ p2 x0 x1 x2 x3 x4 x5 ∧ p3 x0 x1 x2 x3 x4 x5 ∧ p4 x0 x1 x2 x3 x4 x5 ∧ p5 x0 x1 x2 x3 x4 x5 ∧ p6 x0 x1 x2 x3 x4 x5 ∧ p7 x0 x1 x2 x3 x4 x5 ∧ p8 x0 x1 x2 x3 x4 x5 ∧ p9 x0 x1 x2 x3 x4 x5 ∧ p10 x0 x1 x2 x3 x4 x5) (k : ∀ x0, ∀ x1, ∀ x2, ∀ x3, ∀ x4, ∀ x5, p0 x0 x1 x2 x3 x4 x5 → p1 x0 x1 x2 x3 x4 x5 → p2 x0 x1 x2 x3 x4 x5 → p3 x0 x1 x2 x3 x4 x5 → p4 x0 x1 x2 x3 x4 x5 → p5 x0 x1 x2 x3 x4 x5 → p6 x0 x1 x2 x3 x4 x5 → p7 x0 x1 x2 x3 x4 x5 → p8 x0 x1 x2 x3 x4 x5 → p9 x0 x1 x2 x3 x4 x5 → p10 x0 x1 x2 x3 x4 x5 → G) : G := by
  rcases h with ⟨x0, x1, x2, x3, x4, x5, h0, h1, h2, h3, h4, h5, h6, h7, h8, h9, h10⟩
  exact k x0 x1 x2 x3 x4 x5 h0 h1 h2 h3 h4 h5 h6 h7 h8 h9 h10
theorem el_4_12 {α0 α1 α2 α3 : Type} {p0 p1 p2 p3 p4 p5 p6 p7 p8 p9 p10 p11 : α0 → α1 → α2 → α3 → Prop} {G : Prop} (h : ∃ x0, ∃ x1, ∃ x2, ∃ x3, p0 x0 x1 x2 x3 ∧ p1 x0 x1 x2 x3 ∧ p2 x0 x1 x2 x3 ∧ p3 x0 x1 x2 x3 ∧ p4 x0 x1 x2 x3 ∧ p5 x0 x1 x2 x3 ∧ p6 x0 x1 x2 x3 ∧ p7 x0 x1 x2 x3 ∧ p8 x0 x1 x2 x3 ∧ p9 x0 x1 x2 x3 ∧ p10 x0 x1 x2 x3 ∧ p11 x0 x1 x2 x3) (k : ∀ x0, ∀ x1, ∀ x2, ∀ x3, p0 x0 x1 x2 x3 → p1 x0 x1 x2 x3 → p2 x0 x1 x2 x3 → p3 x0 x1 x2 x3 → p4 x0 x1 x2 x3 → p5 x0 x1 x2 x3 → p6 x0 x1 x2 x3 → p7 x0 x1 x2 x3 → p8 x0 x1 x2 x3 → p9 x0 x1 x2 x3 → p10 x0 x1 x2 x3 → p11 x0 x1 x2 x3 → G) : G := by
  rcases h with ⟨x0, x1, x2, x3, h0, h1, h2, h3, h4, h5, h6, h7, h8, h9, h10, h11⟩
  exact k x0 x1 x2 x3 h0 h1 h2 h3 h4 h5 h6 h7 h8 h9 h10 h11
theorem el_7_9 {α0 α1 α2 α3 α4 α5 α6 : Type} {p0 p1 p2 p3 p4 p5 p6 p7 p8 : α0 → α1 → α2 → α3 → α4 → α5 → α6 → Prop} {G : Prop} (h : ∃ x0, ∃ x1, ∃ x2, ∃ x3, ∃ x4, ∃ x5, ∃ x6, p0 x0 x1 x2 x3 x4 x5 x6 ∧ p1 x0 x1 x2 x3 x4 x5 x6 ∧ p2 x0 x1 x2 x3 x4 x5 x6 ∧ p3 x0 x1 x2 x3 x4 x5 x6 ∧ p4 x0 x1 x2 x3 x4 x5 x6 ∧ p5 x0 x1 x2 x3 x4 x5 x6 ∧ p6 x0 x1 x2 x3 x4 x5 x6 ∧ p7 x0 x1 x2 x3 x4 x5 x6 ∧ p8 x0 x1 x2 x3 x4 x5 x6) (k : ∀ x0, ∀ x1, ∀ x2, ∀ x3, ∀ x4, ∀ x5, ∀ x6, p0 x0 x1 x2 x3 x4 x5 x6 → p1 x0 x1 x2 x3 x4 x5 x6 → p2 x0 x1 x2 x3 x4 x5 x6 → p3 x0 x1 x2 x3 x4 x5 x6 → p4 x0 x1 x2 x3 x4 x5 x6 → p5 x0 x1 x2 x3 x4 x5 x6 → p6 x0 x1 x2 x3 x4 x5 x6 → p7 x0 x1 x2 x3 x4 x5 x6 → p8 x0 x1 x2 x3 x4 x5 x6 → G) : G := by
  rcases h with ⟨x0, x1, x2, x3, x4, x5, x6, h0, h1, h2, h3, h4, h5, h6, h7, h8⟩
  exact k x0 x1 x2 x3 x4 x5 x6 h0 h1 h2 h3 h4 h5 h6 h7 h8
theorem el_6_10 {α0 α1 α2 α3 α4 α5 : Type} {p0 p1 p2 p3 p4 p5 p6 p7 p8 p9 : α0 → α1 → α2 → α3 → α4 → α5 → Prop} {G : Prop} (h : ∃ x0, ∃ x1, ∃ x2, ∃ x3, ∃ x4, ∃ x5, p0 x0 x1 x2 x3 x4 x5 ∧ p1 x0 x1 x2 x3 x4 x5 ∧ p2 x0 x1 x2 x3 x4 x5 ∧ p3 x0 x1 x2 x3 x4 x5 ∧ p4 x0 x1 x2 x3 x4 x5 ∧ p5 x0 x1 x2 x3 x4 x5 ∧ p6 x0 x1 x2 x3 x4 x5 ∧ p7 x0 x1 x2 x3 x4 x5 ∧ p8 x0 x1 x2 x3 x4 x5 ∧ p9 x0 x1 x2 x3 x4 x5) (k : ∀ x0, ∀ x1, ∀ x2, ∀ x3, ∀ x4, ∀ x5, p0 x0 x1 x2 x3 x4 x5 → p1 x0 x1 x2 x3 x4 x5 → p2 x0 x1 x2 x3 x4 x5 → p3 x0 x1 x2 x3 x4 x5 → p4 x0 x1 x2 x3 x4 x5 → p5 x0 x1 x2 x3 x4 x5 → p6 x0 x1 x2 x3 x4 x5 → p7 x0 x1 x2 x3 x4 x5 → p8 x0 x1 x2 x3 x4 x5 → p9 x0 x1 x2 x3 x4 x5 → G) : G := by
  rcases h with ⟨x0, x1, x2, x3, x4, x5, h0, h1, h2, h3, h4, h5, h6, h7, h8, h9⟩
  exact k x0 x1 x2 x3 x4 x5 h0 h1 h2 h3 h4 h5 h6 h7 h8 h9
theorem el_6_7 {α0 α1 α2 α3 α4 α5 : Type} {p0 p1 p2 p3 p4 p5 p6 : α0 → α1 → α2 → α3 → α4 → α5 → Prop} {G : Prop} (h : ∃ x0, ∃ x1, ∃ x2, ∃ x3, ∃ x4, ∃ x5, p0 x0 x1 x2 x3 x4 x5 ∧ p1 x0 x1 x2 x3 x4 x5 ∧ p2 x0 x1 x2 x3 x4 x5 ∧ p3 x0 x1 x2 x3 x4 x5 ∧ p4 x0 x1 x2 x3 x4 x5 ∧ p5 x0 x1 x2 x3 x4 x5 ∧ p6 x0 x1 x2 x3 x4 x5) (k : ∀ x0, ∀ x1, ∀ x2, ∀ x3, ∀ x4, ∀ x5, p0 x0 x1 x2 x3 x4 x5 → p1 x0 x1 x2 x3 x4 x5 → p2 x0 x1 x2 x3 x4 x5 → p3 x0 x1 x2 x3 x4 x5 → p4 x0 x1 x2 x3 x4 x5 → p5 x0 x1 x2 x3 x4 x5 → p6 x0 x1 x2 x3 x4 x5 → G) : G := by
  rcases h with ⟨x0, x1, x2, x3, x4, x5, h0, h1, h2, h3, h4, h5, h6⟩
  exact k x0 x1 x2 x3 x4 x5 h0 h1 h2 h3 h4 h5 h6
theorem el_6_9 {α0 α1 α2 α3 α4 α5 : Type} {p0 p1 p2 p3 p4 p5 p6 p7 p8 : α0 → α1 → α2 → α3 → α4 → α5 → Prop} {G : Prop} (h : ∃ x0, ∃ x1, ∃ x2, ∃ x3, ∃ x4, ∃ x5, p0 x0 x1 x2 x3 x4 x5 ∧ p1 x0 x1 x2 x3 x4 x5 ∧ p2 x0 x1 x2 x3 x4 x5 ∧ p3 x0 x1 x2 x3 x4 x5 ∧ p4 x0 x1 x2 x3 x4 x5 ∧ p5 x0 x1 x2 x3 x4 x5 ∧ p6 x0 x1 x2 x3 x4 x5 ∧ p7 x0 x1 x2 x3 x4 x5 ∧ p8 x0 x1 x2 x3 x4 x5) (k : ∀ x0, ∀ x1, ∀ x2, ∀ x3, ∀ x4, ∀ x5, p0 x0 x1 x2 x3 x4 x5 → p1 x0 x1 x2 x3 x4 x5 → p2 x0 x1 x2 x3 x4 x5 → p3 x0 x1 x2 x3 x4 x5 → p4 x0 x1 x2 x3 x4 x5 → p5 x0 x1 x2 x3 x4 x5 → p6 x0 x1 x2 x3 x4 x5 → p7 x0 x1 x2 x3 x4 x5 → p8 x0 x1 x2 x3 x4 x5 → G) : G := by
  rcases h with ⟨x0, x1, x2, x3, x4, x5, h0, h1, h2, h3, h4, h5, h6, h7, h8⟩
  exact k x0 x1 x2 x3 x4 x5 h0 h1 h2 h3 h4 h5 h6 h7 h8
theorem el_4_9 {α0 α1 α2 α3 : Type} {p0 p1 p2 p3 p4 p5 p6 p7 p8 : α0 → α1 → α2 → α3 → Prop} {G : Prop} (h : ∃ x0, ∃ x1, ∃ x2, ∃ x3, p0 x0 x1 x2 x3 ∧ p1 x0 x1 x2 x3 ∧ p2 x0 x1 x2 x3 ∧ p3 x0 x1 x2 x3 ∧ p4 x0 x1 x2 x3 ∧ p5 x0 x1 x2 x3 ∧ p6 x0 x1 x2 x3 ∧ p7 x0 x1 x2 x3 ∧ p8 x0 x1 x2 x3) (k : ∀ x0, ∀ x1, ∀ x2, ∀ x3, p0 x0 x1 x2 x3 → p1 x0 x1 x2 x3 → p2 x0 x1 x2 x3 → p3 x0 x1 x2 x3 → p4 x0 x1 x2 x3 → p5 x0 x1 x2 x3 → p6 x0 x1 x2 x3 → p7 x0 x1 x2 x3 → p8 x0 x1 x2 x3 → G) : G := by
  rcases h with ⟨x0, x1, x2, x3, h0, h1, h2, h3, h4, h5, h6, h7, h8⟩
  exact k x0 x1 x2 x3 h0 h1 h2 h3 h4 h5 h6 h7 h8
theorem el_3_7 {α0 α1 α2 : Type} {p0 p1 p2 p3 p4 p5 p6 : α0 → α1 → α2 → Prop} {G : Prop} (h : ∃ x0, ∃ x1, ∃ x2, p0 x0 x1 x2 ∧ p1 x0 x1 x2 ∧ p2 x0 x1 x2 ∧ p3 x0 x1 x2 ∧ p4 x0 x1 x2 ∧ p5 x0 x1 x2 ∧ p6 x0 x1 x2) (k : ∀ x0, ∀ x1, ∀ x2, p0 x0 x1 x2 → p1 x0 x1 x2 → p2 x0 x1 x2 → p3 x0 x1 x2 → p4 x0 x1 x2 → p5 x0 x1 x2 → p6 x0 x1 x2 → G) : G := by
  rcases h with ⟨x0, x1, x2, h0, h1, h2, h3, h4, h5, h6⟩
  exact k x0 x1 x2 h0 h1 h2 h3 h4 h5 h6
theorem el_6_5 {α0 α1 α2 α3 α4 α5 : Type} {p0 p1 p2 p3 p4 : α0 → α1 → α2 → α3 → α4 → α5 → Prop} {G : Prop} (h : ∃ x0, ∃ x1, ∃ x2, ∃ x3, ∃ x4, ∃ x5, p0 x0 x1 x2 x3 x4 x5 ∧ p1 x0 x1 x2 x3 x4 x5 ∧ p2 x0 x1 x2 x3 x4 x5 ∧ p3 x0 x1 x2 x3 x4 x5 ∧ p4 x0 x1 x2 x3 x4 x5) (k : ∀ x0, ∀ x1, ∀ x2, ∀ x3, ∀ x4, ∀ x5, p0 x0 x1 x2 x3 x4 x5 → p1 x0 x1 x2 x3 x4 x5 → p2 x0 x1 x2 x3 x4 x5 → p3 x0 x1 x2 x3 x4 x5 → p4 x0 x1 x2 x3 x4 x5 → G) : G := by
  rcases h with ⟨x0, x1, x2, x3, x4, x5, h0, h1, h2, h3, h4⟩
  exact k x0 x1 x2 x3 x4 x5 h0 h1 h2 h3 h4
theorem el_4_6 {α0 α1 α2 α3 : Type} {p0 p1 p2 p3 p4 p5 : α0 → α1 → α2 → α3 → Prop} {G : Prop} (h : ∃ x0, ∃ x1, ∃ x2, ∃ x3, p0 x0 x1 x2 x3 ∧ p1 x0 x1 x2 x3 ∧ p2 x0 x1 x2 x3 ∧ p3 x0 x1 x2 x3 ∧ p4 x0 x1 x2 x3 ∧ p5 x0 x1 x2 x3) (k : ∀ x0, ∀ x1, ∀ x2, ∀ x3, p0 x0 x1 x2 x3 → p1 x0 x1 x2 x3 → p2 x0 x1 x2 x3 → p3 x0 x1 x2 x3 → p4 x0 x1 x2 x3 → p5 x0 x1 x2 x3 → G) : G := by
  rcases h with ⟨x0, x1, x2, x3, h0, h1, h2, h3, h4, h5⟩
  exact k x0 x1 x2 x3 h0 h1 h2 h3 h4 h5
/-! cheap ends, ahead of omega -/
theorem om1 {a b c : Nat} (h : a ≤ b) (e : Nat.ble b c = true) : a ≤ c := Nat.le_trans h (Nat.le_of_ble_eq_true e)
theorem om2 {a b c : Nat} (h : a ≤ b) (e : Nat.ble (b + 1) c = true) : a < c := Nat.lt_of_le_of_lt h (Nat.le_of_ble_eq_true e)
theorem om3 {a b c d : Nat} (h : a = b) (h2 : b ≤ c) (e : Nat.ble c d = true) : a ≤ d := h ▸ om1 h2 e
theorem om4 {a b c d : Nat} (h : a = b) (h2 : b ≤ c) (e : Nat.ble (c + 1) d = true) : a < d := h ▸ om2 h2 e
theorem om5 {a b : Nat} (h : a < b) : (a : Int) < b := Int.ofNat_lt.mpr h
theorem om7 {a b : Nat} (h : (a : Int) < b) : a < b := Int.ofNat_lt.mp h
theorem om8 {a b : Nat} (h : (a : Int) ≤ b) : a ≤ b := Int.ofNat_le.mp h
theorem om9 {a b : Nat} (h : a < b) : 0 < b := Nat.lt_of_le_of_lt (Nat.zero_le _) h
theorem om10 {a b c : Nat} (h : b = c) (h2 : a < c) : a < b := h ▸ h2
theorem om11 {a b c : Nat} (h : b = c) (h2 : a < b) : a < c := h ▸ h2
theorem om12 {a b : Nat} (h : a < b) : ((a : Int)).toNat < b := h
theorem om13 {a b c : Nat} (h : b = c) (h2 : a < c) : ((a : Int)).toNat < b := h ▸ h2
theorem om14 {i : Int} {a : Nat} (h : 0 ≤ i) (h2 : i < a) : i.toNat < a := by omega
theorem om17 {a b : Nat} (h : a ≤ b) : ¬ b < a := Nat.not_lt.mpr h
theorem om18 {a b : Nat} (h : ¬ a ≤ b) : b < a := Nat.not_le.mp h
theorem om19 {a b : Nat} (h : ¬ a < b) : b ≤ a := Nat.not_lt.mp h
theorem om22 {a b c : Nat} (h : a < b) (h2 : b ≤ c) : a < c := Nat.lt_of_lt_of_le h h2
theorem om23 {a b c : Nat} (h : a ≤ b) (h2 : b < c) : a < c := Nat.lt_of_le_of_lt h h2
theorem om26 (a : Nat) : 0 ≤ (a : Int) + 1 := by omega
def mcArg (c : Char) : Lean.MacroM (Lean.TSyntax `term) :=
  if c == '?' then `(?_) else if c == '_' then `(_) else if c == 'R' then `(by kt_eqs) else if c == 'C' then `(by nest_room) else if c == 'L' then `(by lcg_src)
  else if c == 'S' then `(by one_sign) else if c == 'U' then `(by kt_ors) else if c == 'K' then `(by lcg_sub) else if c == 'Z' then `(by lcg_off) else if c == 'o' then `(by omega) else if c == 'A' then `(by assumption)
  else if c == 'k' then `(by kernel_rfl) else if c == 'r' then `(rfl) else if c == 'P' then `(⟨_, by kt_eqs⟩)
  else `($(Lean.mkIdent (if c == 'l' then `lc_of else if c == 'f' then `fmem else if c == 'g' then `gi_any else `gl_any)) (by kernel_rfl))
def mcRule (s : String) : Lean.MacroM (Lean.TSyntax `tactic) := do
  match s.splitOn ":" with
  | [n, cs] => `(tactic| refine $(Lean.mkIdent n.toName) $(← cs.toList.toArray.mapM mcArg)*)
  | _ => `(tactic| refine $(Lean.mkIdent `E_callB) (x := $(Lean.quote s)) (by nest_room) (by lcg_sub) ($(Lean.mkIdent (`Uni ++ s.toName)) _) (by kt_eqs) ?_ (by kt_eqs))
def mcAll (l : List String) : Lean.MacroM (Lean.TSyntax `tactic) := do
  l.foldrM (fun s b => do
    let a ← mcRule s
    `(tactic| first | $a:tactic | $b:tactic)) (← `(tactic| fail))
def mcEl (n : Nat) (h : Lean.TSyntax `term) (l : List Nat) : Lean.MacroM (Lean.TSyntax `tactic) := do
  l.foldrM (fun i b => do
    if n ≤ i then return b
    let a ← `(tactic| refine $(Lean.mkIdent (Lean.Name.mkSimple ("el_" ++ toString i ++ "_" ++ toString (n - i)))) $h ?_)
    `(tactic| first | $a:tactic | $b:tactic)) (← `(tactic| fail))
local macro_rules | `(tactic| k_extra $s:str) => match s.getString.splitOn " " with | "#" :: r => mcAll r | _ => Lean.Macro.throwUnsupported
local macro_rules | `(tactic| kt_eqs) => `(tactic| with_unfolding_all exact rfl)
local macro_rules | `(tactic| k_few) => `(tactic| first | with_reducible assumption | decide | (exact Nat.le_of_ble_eq_true rfl) | (with_reducible rfl) | with_reducible k_extra "# Nat.zero_le:_ Int.natCast_nonneg:_ om26:_ Nat.le_refl:_ Nat.lt_succ_self:_ Nat.le_of_lt:A Int.le_of_lt:A om5:A om7:A om8:A om9:A om12:A om17:A om18:A om19:A om1:AR om2:AR om10:AA om11:AA om13:AA om14:AA om22:AA om23:AA om3:AAR om4:AAR Nat.succ_le_of_lt:A Nat.lt_succ_of_le:A Nat.lt_succ_of_lt:A Nat.le_succ_of_le:A Nat.lt_of_succ_lt:A")
local macro_rules | `(tactic| k_lenW) => `(tactic| first | k_few | omega)
local macro_rules | `(tactic| lcg_off) => `(tactic| first | k_few | (law_clear; lia) | omega)
local macro_rules | `(tactic| obtain ⟨$ps,*⟩ := $h:term) => do
  let n := ps.getElems.size
  let e ← mcEl n h [1, 2, 3, 0, 4, 5, 6, 7, 17]
  let qs ← ps.getElems.mapM fun p => `(rintroPat| ($p:rcasesPatLo))
  let cl ← if h.raw.isIdent then `(tactic| clear $h:term) else `(tactic| skip)
  `(tactic| first | (with_reducible $e:tactic; $cl:tactic; rintro $qs*) | rcases $h:term with ⟨$ps,*⟩)
/-! the plain world of blocks: no program in sight -/
noncomputable abbrev By := List UInt8
noncomputable def oc (d : By) (i : Nat) : Nat := (d.getD i 0).toNat
theorem oc_lt (d : By) (i : Nat) : oc d i < 256 := (d.getD i 0).toNat_lt
noncomputable def fx (d : By) (i : Nat) : Nat := oc d i + oc d (i + 1) * 256 + oc d (i + 2) * 65536 + oc d (i + 3) * 16777216
/-- a varint, seven bits an octet -/
noncomputable def vr (d : By) (e : Nat) : Nat → Nat → Nat → Nat → Option (Nat × Nat)
  | 0, _, _, _ => none
  | f + 1, i, sh, n => if i < e then
      (if oc d i < 128 then (if n + oc d i * 128 ^ sh < 4294967296 then some (n + oc d i * 128 ^ sh, i + 1) else none)
      else vr d e f (i + 1) (sh + 1) (n + oc d i % 128 * 128 ^ sh))
    else none
noncomputable abbrev var (d : By) (e i : Nat) : Option (Nat × Nat) := vr d e 5 i 0 0
theorem vr_pos {d : By} {e v p : Nat} : ∀ {f i sh n : Nat}, vr d e f i sh n = some (v, p) → i < p ∧ p ≤ e
  | 0, _, _, _, h => by cases h
  | f + 1, i, sh, n, h => by
    unfold vr at h
    split at h
    · split at h
      · split at h
        · cases h; lcg_off
        · cases h
      · have := vr_pos h; lcg_off
    · cases h
theorem vr_ext {d : By} {e e' v p : Nat} : ∀ {f i sh n : Nat}, vr d e f i sh n = some (v, p) → p ≤ e' → vr d e' f i sh n = some (v, p)
  | 0, _, _, _, h, _ => by cases h
  | f + 1, i, sh, n, h, hp => by
    unfold vr at h ⊢
    split at h
    · split at h
      · rename_i h2
        split at h
        · rename_i h3
          cases h
          rw [if_pos (by lcg_off), if_pos h2, if_pos h3]
        · cases h
      · rename_i h2
        have := vr_pos h
        rw [if_pos (by lcg_off), if_neg h2]
        exact vr_ext h hp
    · cases h

noncomputable def sl (d : By) (a b : Nat) : By := (d.take b).drop a
structure Row where
  st : Nat
  va : Nat
  en : Nat
  key : By
  val : By
noncomputable def hd3 (d : By) (e at' : Nat) : Option (Nat × Nat × Nat × Nat) :=
  match var d e at' with
  | none => none
  | some (s, p1) => match var d e p1 with
    | none => none
    | some (u, p2) => match var d e p2 with
      | none => none
      | some (v, p3) => some (s, u, v, p3)
theorem hd3_pos {d : By} {e i s u v p : Nat} (h : hd3 d e i = some (s, u, v, p)) : i < p ∧ p ≤ e := by
  unfold hd3 at h
  split at h
  · cases h
  · rename_i s' p1 h1
    split at h
    · cases h
    · rename_i u' p2 h2
      split at h
      · cases h
      · rename_i v' p3 h3
        cases h
        have := vr_pos h1
        have := vr_pos h2
        have := vr_pos h3
        lcg_off
theorem hd3_ext {d : By} {e e' i s u v p : Nat} (h : hd3 d e i = some (s, u, v, p)) (hp : p ≤ e') : hd3 d e' i = some (s, u, v, p) := by
  unfold hd3 at h ⊢
  split at h
  · cases h
  · rename_i s' p1 h1
    split at h
    · cases h
    · rename_i u' p2 h2
      split at h
      · cases h
      · rename_i v' p3 h3
        cases h
        have q1 := vr_pos h1
        have q2 := vr_pos h2
        have q3 := vr_pos h3
        rw [show var d e' i = some (s, p1) from vr_ext h1 (by lcg_off)]
        simp only
        rw [show var d e' p1 = some (u, p2) from vr_ext h2 (by lcg_off)]
        simp only
        rw [show var d e' p2 = some (v, p) from vr_ext h3 (by lcg_off)]
/-- the law's reading of an entry -/
noncomputable def ent (d : By) (e at' : Nat) (b : By) : Option Row := match hd3 d e at' with
  | none => none
  | some (s, u, v, p) => if p + u + v ≤ e ∧ s ≤ b.length then some ⟨at', p + u, p + u + v, b.take s ++ sl d p (p + u), sl d (p + u) (p + u + v)⟩ else none
/-- the code's reading of an entry: shared, place, value, end -/
noncomputable def pent (d : By) (lim at' : Nat) : Option (Nat × Nat × Nat × Nat) := match hd3 d d.length at' with
  | none => none
  | some (s, u, v, p) => if p + u + v ≤ lim then some (s, p, p + u, p + u + v) else none
noncomputable def mkAt (ms : List Nat) (i : Nat) : Nat := ms.getD i 0
noncomputable def adv (ms : List Nat) (start : Nat) : Nat → Nat → Nat
  | 0, t => t
  | f + 1, t => if t + 1 < ms.length ∧ mkAt ms (t + 1) ≤ start then adv ms start f (t + 1) else t
noncomputable def prs (d : By) (lim : Nat) (ms : List Nat) (turn start : Nat) (b : By) : Option (Nat × Row) := match pent d lim start with
  | none => none
  | some (s, p, va, en) => if b.length < s then none else
      if start = mkAt ms (adv ms start ms.length turn) ∧ s ≠ 0 then none else
      if adv ms start ms.length turn + 1 < ms.length ∧ mkAt ms (adv ms start ms.length turn + 1) < en then none else
      some (adv ms start ms.length turn, ⟨start, va, en, b.take s ++ sl d p va, sl d va en⟩)
structure Blk (d : By) (lim : Nat) (ms : List Nat) : Prop where
  size : lim + 4 * (ms.length + 1) = d.length
  ne : 0 < ms.length
  z : mkAt ms 0 = 0
  up : ∀ i, i + 1 < ms.length → mkAt ms i < mkAt ms (i + 1) ∧ mkAt ms (i + 1) < lim
noncomputable def fin (lim : Nat) (ms : List Nat) (i : Nat) : Nat := if i + 1 < ms.length then mkAt ms (i + 1) else lim
theorem Blk.le {d : By} {lim : Nat} {ms : List Nat} (B : Blk d lim ms) {i : Nat} (h : i < ms.length) : mkAt ms i ≤ fin lim ms i ∧ fin lim ms i ≤ lim := by
  unfold fin
  split
  · rename_i q; have := B.up i q; lcg_off
  · cases i with
    | zero => rw [B.z]; lcg_off
    | succ i => have := B.up i h; lcg_off
theorem Blk.rise {d : By} {lim : Nat} {ms : List Nat} (B : Blk d lim ms) {i : Nat} : ∀ {j : Nat}, i < j → j < ms.length → mkAt ms i < mkAt ms j
  | 0, h, _ => by lcg_off
  | j + 1, h, hj => by
    have := B.up j hj
    by_cases q : i = j
    · subst q; exact this.1
    · have := B.rise (i := i) (j := j) (by lcg_off) (by lcg_off); lcg_off
theorem Blk.rise' {d : By} {lim : Nat} {ms : List Nat} (B : Blk d lim ms) {i j : Nat} (h : i ≤ j) (hj : j < ms.length) : mkAt ms i ≤ mkAt ms j := by
  rcases Nat.lt_or_eq_of_le h with q | q
  · exact Nat.le_of_lt (B.rise q hj)
  · rw [q]; exact Nat.le_refl _
theorem Blk.lt {d : By} {lim : Nat} {ms : List Nat} (B : Blk d lim ms) {i : Nat} (h : i + 1 < ms.length) : mkAt ms i < fin lim ms i := by
  unfold fin; rw [if_pos h]; exact (B.up i h).1
theorem Blk.in {d : By} {lim : Nat} {ms : List Nat} (B : Blk d lim ms) {i : Nat} (h : i + 1 < ms.length) : mkAt ms (i + 1) < fin lim ms (i + 1) := by
  by_cases q : i + 1 + 1 < ms.length
  · exact B.lt q
  · unfold fin; rw [if_neg q]; exact (B.up i h).2
theorem adv_at {d : By} {lim : Nat} {ms : List Nat} (B : Blk d lim ms) {i start : Nat} (hi : i < ms.length) (h1 : mkAt ms i ≤ start) (h2 : start < fin lim ms i) : ∀ {f t : Nat}, t ≤ i → i ≤ t + f → adv ms start f t = i
  | 0, t, a, b => by unfold adv; lcg_off
  | f + 1, t, a, b => by
    unfold adv
    by_cases q : t = i
    · subst q
      rw [if_neg]
      rintro ⟨c1, c2⟩
      unfold fin at h2; rw [if_pos c1] at h2; lcg_off
    · rw [if_pos ⟨by lcg_off, Nat.le_trans (B.rise' (i := t + 1) (j := i) (by lcg_off) hi) h1⟩]
      exact adv_at B hi h1 h2 (by lcg_off) (by lcg_off)
/-- the code reads in a run what the law reads -/
theorem prs_ent {d : By} {lim : Nat} {ms : List Nat} (B : Blk d lim ms) {i start turn : Nat} (hi : i < ms.length) (h1 : mkAt ms i ≤ start) (h2 : start < fin lim ms i) (ht : turn ≤ i) (b : By) :
    prs d lim ms turn start b = (ent d (fin lim ms i) start (if start = mkAt ms i then [] else b)).map fun r => (i, r) := by
  have ha : adv ms start ms.length turn = i := adv_at B hi h1 h2 ht (by lcg_off)
  have hle := B.le hi
  have hsz := B.size
  unfold prs ent pent
  rw [ha]
  cases e1 : hd3 d (fin lim ms i) start with
  | none =>
    cases e2 : hd3 d d.length start with
    | none => rfl
    | some r =>
      obtain ⟨s, u, v, p⟩ := r
      have hp : ¬ p ≤ fin lim ms i := fun hp => by rw [hd3_ext e2 hp] at e1; cases e1
      simp only [Option.map_none]
      by_cases q : p + u + v ≤ lim
      · rw [if_pos q]
        simp only
        have c : i + 1 < ms.length ∧ mkAt ms (i + 1) < p + u + v := by
          unfold fin at hp
          split at hp
          · exact ⟨by assumption, by lcg_off⟩
          · lcg_off
        rw [if_pos c]
        simp
      · rw [if_neg q]
  | some r =>
    obtain ⟨s, u, v, p⟩ := r
    have := hd3_pos e1
    rw [hd3_ext e1 (e' := d.length) (by lcg_off)]
    simp only
    by_cases q : p + u + v ≤ fin lim ms i
    · rw [if_pos (show p + u + v ≤ lim by lcg_off)]
      simp only
      have c : ¬ (i + 1 < ms.length ∧ mkAt ms (i + 1) < p + u + v) := fun c => by
        unfold fin at q; rw [if_pos c.1] at q; lcg_off
      rw [if_neg c]
      by_cases z : start = mkAt ms i
      · rw [if_pos z]
        by_cases w : s = 0
        · subst w
          rw [if_neg (by lcg_off), if_neg (by simp), if_pos (by simp [q])]
          simp
        · rw [if_pos (show start = mkAt ms i ∧ s ≠ 0 from ⟨z, w⟩), if_neg (show ¬ (p + u + v ≤ fin lim ms i ∧ s ≤ ([] : By).length) from fun h => w (by simpa using h.2))]
          simp
      · rw [if_neg z]
        by_cases w : b.length < s
        · rw [if_pos w, if_neg (by lcg_off)]; rfl
        · rw [if_neg w, if_neg (fun h : start = mkAt ms i ∧ s ≠ 0 => z h.1), if_pos (show p + u + v ≤ fin lim ms i ∧ s ≤ b.length from ⟨q, by lcg_off⟩)]; rfl
    · have c : ¬ (p + u + v ≤ fin lim ms i ∧ s ≤ (if start = mkAt ms i then [] else b).length) := fun c => q c.1
      rw [if_neg c]
      simp only [Option.map_none]
      by_cases q2 : p + u + v ≤ lim
      · rw [if_pos q2]
        simp only
        have c : i + 1 < ms.length ∧ mkAt ms (i + 1) < p + u + v := by
          unfold fin at q
          split at q
          · exact ⟨by assumption, by lcg_off⟩
          · lcg_off
        rw [if_pos c]
        simp
      · rw [if_neg q2]

/-! runs -/
noncomputable def rowsF (d : By) (e : Nat) : Nat → Nat → By → List Row × Bool
  | 0, _, _ => ([], true)
  | f + 1, at', b => if at' < e then (match ent d e at' b with
      | none => ([], false)
      | some r => (r :: (rowsF d e f r.en r.key).1, (rowsF d e f r.en r.key).2)) else ([], true)
inductive Chain (d : By) (e : Nat) : Nat → By → List Row → Bool → Prop
  | done (b : By) : Chain d e e b [] true
  | bad (at' : Nat) (b : By) (h : at' < e) (hn : ent d e at' b = none) : Chain d e at' b [] false
  | cons (at' : Nat) (b : By) (r : Row) (rs : List Row) (w : Bool) (h : at' < e) (hr : ent d e at' b = some r) (c : Chain d e r.en r.key rs w) : Chain d e at' b (r :: rs) w
theorem ent_pos {d : By} {e i : Nat} {b : By} {r : Row} (h : ent d e i b = some r) : r.st = i ∧ i < r.en ∧ r.en ≤ e ∧ r.val = sl d r.va r.en ∧ r.va ≤ r.en := by
  unfold ent at h
  split at h
  · cases h
  · rename_i s u v p h1
    split at h
    · rename_i q
      cases h
      have := hd3_pos h1
      refine ⟨rfl, ?_, q.1, rfl, ?_⟩
      · show i < p + u + v; lcg_off
      · show p + u ≤ p + u + v; lcg_off
    · cases h
theorem chain_of {d : By} {e : Nat} : ∀ {f i : Nat} {b : By}, e ≤ i + f → i ≤ e → Chain d e i b (rowsF d e f i b).1 (rowsF d e f i b).2
  | 0, i, b, h1, h2 => by
    obtain rfl : i = e := by lcg_off
    exact .done b
  | f + 1, i, b, h1, h2 => by
    unfold rowsF
    by_cases q : i < e
    · rw [if_pos q]
      cases h : ent d e i b with
      | none => exact .bad i b q h
      | some r =>
        have := ent_pos h
        exact .cons i b r _ _ q h (chain_of (by lcg_off) this.2.2.1)
    · rw [if_neg q]
      obtain rfl : i = e := by lcg_off
      exact .done b
noncomputable def run (d : By) (lim : Nat) (ms : List Nat) (i : Nat) : List Row × Bool := rowsF d (fin lim ms i) (fin lim ms i - mkAt ms i) (mkAt ms i) []
noncomputable abbrev Rs := List (List Row × Bool)
noncomputable def runs (d : By) (lim : Nat) (ms : List Nat) : Rs := (List.range ms.length).map (run d lim ms)
theorem Blk.chain {d : By} {lim : Nat} {ms : List Nat} (B : Blk d lim ms) {i : Nat} (h : i < ms.length) : Chain d (fin lim ms i) (mkAt ms i) [] (run d lim ms i).1 (run d lim ms i).2 := by
  have := B.le h
  exact chain_of (by lcg_off) (by lcg_off)
theorem Chain.at {d : By} {e i : Nat} {b : By} {rs : List Row} {w : Bool} (c : Chain d e i b rs w) : ∀ {j : Nat} {r : Row}, rs[j]? = some r → Chain d e r.en r.key (rs.drop (j + 1)) w ∧ i ≤ r.st ∧ r.st < r.en ∧ r.en ≤ e ∧ r.val = sl d r.va r.en ∧ (0 < j → i < r.st) ∧ (j = 0 → r.st = i) ∧ r.va ≤ r.en := by
  induction c with
  | done b => intro j r h; simp at h
  | bad i b h hn => intro j r h; simp at h
  | cons i b r' rs w h hr c ih =>
    intro j r h'
    obtain ⟨p1, p2, p3, p4, p5⟩ := ent_pos hr
    cases j with
    | zero =>
      simp only [List.getElem?_cons_zero, Option.some.injEq] at h'
      subst h'
      refine ⟨c, by lcg_off, by lcg_off, p3, p4, by lcg_off, fun _ => p1, p5⟩
    | succ j =>
      simp only [List.getElem?_cons_succ] at h'
      obtain ⟨a1, a2, a3, a4, a5, a6, a7, a8⟩ := ih h'
      exact ⟨a1, by lcg_off, a3, a4, a5, fun _ => by lcg_off, (fun q => by lcg_off), a8⟩

/-! the law's own moves -/
noncomputable abbrev Res := Option (Nat × Nat) × Nat
noncomputable def rws (R : Rs) (i : Nat) : List Row := (R.getD i ([], true)).1
noncomputable def whl (R : Rs) (i : Nat) : Bool := (R.getD i ([], true)).2
noncomputable def rowAt (R : Rs) (i j : Nat) : Option Row := (rws R i)[j]?
noncomputable def keyAt (R : Rs) (i j : Nat) : By := match rowAt R i j with | some r => r.key | none => []
noncomputable def front (R : Rs) (i : Nat) : Res := if 0 < (rws R i).length then (some (i, 0), 0) else (none, if whl R i then 0 else 1)
noncomputable def rear (R : Rs) (i : Nat) : Res := if whl R i = false then (none, 1) else if 0 < (rws R i).length then (some (i, (rws R i).length - 1), 0) else (none, 0)
noncomputable def nxt (R : Rs) (i j : Nat) : Res := if j + 1 < (rws R i).length then (some (i, j + 1), 0) else if whl R i = false then (none, 1) else if i + 1 < R.length then front R (i + 1) else (none, 0)
noncomputable def prv (R : Rs) (i j : Nat) : Res := if 0 < j then (some (i, j - 1), 0) else if 0 < i then rear R (i - 1) else (none, 0)
noncomputable def findJ (t : By) : List Row → Nat → Option Nat
  | [], _ => none
  | r :: rs, j => if r.key < t then findJ t rs (j + 1) else some j
noncomputable def findI (t : By) : Rs → Nat → Res
  | [], _ => (none, 0)
  | p :: ps, i => match findJ t p.1 0 with
    | some j => (some (i, j), 0)
    | none => findI t ps (i + 1)
noncomputable def after (R : Rs) (pl : Option (Nat × Nat)) (mv : Nat) (t : By) : Res :=
  if mv = 0 then front R 0 else if mv = 1 then rear R (R.length - 1) else if mv = 2 then findI t R 0 else
  match pl with
  | none => (none, 2)
  | some (i, j) => if mv = 3 then nxt R i j else prv R i j

theorem rws_runs {d : By} {lim : Nat} {ms : List Nat} {i : Nat} (h : i < ms.length) : rws (runs d lim ms) i = (run d lim ms i).1 ∧ whl (runs d lim ms) i = (run d lim ms i).2 := by
  have e : (runs d lim ms).getD i ([], true) = run d lim ms i := by
    unfold runs
    rw [List.getD_eq_getElem?_getD, List.getElem?_map, List.getElem?_range h]; rfl
  unfold rws whl
  rw [e]; exact ⟨rfl, rfl⟩
/-- what the next parse does -/
noncomputable def PR (d : By) (lim : Nat) (ms : List Nat) (turn start : Nat) (b : By) (res : Res) : Prop := match res with
  | (some (i, j), c) => c = 0 ∧ start < lim ∧ ∃ r, rowAt (runs d lim ms) i j = some r ∧ prs d lim ms turn start b = some (i, r) ∧ r.st = start ∧ i < ms.length
  | (none, 0) => ¬ start < lim
  | (none, c) => c = 1 ∧ start < lim ∧ prs d lim ms turn start b = none
theorem PR_front {d : By} {lim : Nat} {ms : List Nat} (B : Blk d lim ms) {i turn : Nat} (h : i < ms.length) (ht : turn ≤ i) (b : By) : PR d lim ms turn (mkAt ms i) b (front (runs d lim ms) i) := by
  have c := B.chain h
  have hle := B.le h
  obtain ⟨e1, e2⟩ := rws_runs (d := d) (lim := lim) h
  unfold front
  rw [e1, e2]
  have pe := fun (q : mkAt ms i < fin lim ms i) => prs_ent B h (Nat.le_refl _) q ht b
  rw [if_pos rfl] at pe
  generalize hR : run d lim ms i = R at c e1 e2 ⊢
  obtain ⟨rs, w⟩ := R
  dsimp only at c e1 e2 ⊢
  generalize hm : mkAt ms i = m at c hle pe ⊢
  generalize hb : ([] : By) = b0 at c pe
  cases c with
  | done =>
    have : ¬ i + 1 < ms.length := fun q => by have := B.lt q; lcg_off
    rw [if_neg (by simp), if_pos rfl]
    show ¬ _
    unfold fin at hm ⊢
    rw [if_neg this] at hm ⊢
    lcg_off
  | bad _ _ q hn =>
    rw [if_neg (by simp), if_neg (by simp)]
    refine ⟨rfl, by lcg_off, ?_⟩
    rw [pe q, hn]; rfl
  | cons _ _ r rs _ q hr c =>
    rw [if_pos (by simp)]
    refine ⟨rfl, by lcg_off, r, ?_, ?_, (ent_pos hr).1, h⟩
    · unfold rowAt; rw [e1]; rfl
    · rw [pe q, hr]; rfl
theorem PR_nxt {d : By} {lim : Nat} {ms : List Nat} (B : Blk d lim ms) {i j : Nat} {r : Row} (h : i < ms.length) (hr : rowAt (runs d lim ms) i j = some r) : PR d lim ms i r.en r.key (nxt (runs d lim ms) i j) := by
  have c := B.chain h
  have hle := B.le h
  obtain ⟨e1, e2⟩ := rws_runs (d := d) (lim := lim) h
  have hr' := hr
  unfold rowAt at hr'
  rw [e1] at hr'
  obtain ⟨c', a2, a3, a4, a5, a6, a7, a8⟩ := c.at hr'
  unfold nxt
  rw [e1, e2]
  generalize hR : run d lim ms i = R at c e1 e2 hr' c' ⊢
  obtain ⟨rs, w⟩ := R
  dsimp only at c e1 e2 c' hr' ⊢
  have ne : r.en ≠ mkAt ms i := by lcg_off
  have pe := fun (q : r.en < fin lim ms i) => prs_ent B h (by lcg_off) q (Nat.le_refl i) r.key
  rw [if_neg ne] at pe
  by_cases q : j + 1 < rs.length
  · rw [if_pos q]
    have hd : rs.drop (j + 1) = rs[j + 1] :: rs.drop (j + 2) := List.drop_eq_getElem_cons q
    rw [hd] at c'
    generalize hen : r.en = en at c' pe ⊢
    generalize hk : r.key = k at c' pe ⊢
    generalize hx : rs[j + 1] = x at c'
    generalize rs.drop (j + 2) = tl at c'
    cases c' with
    | cons _ _ _ _ _ q' hr2 c2 =>
      refine ⟨rfl, by lcg_off, x, ?_, ?_, (ent_pos hr2).1, h⟩
      · unfold rowAt; rw [e1, List.getElem?_eq_getElem q, hx]
      · rw [pe q', hr2]; rfl
  · rw [if_neg q]
    have hd : rs.drop (j + 1) = [] := List.drop_eq_nil_of_le (by lcg_off)
    rw [hd] at c'
    generalize hen : r.en = en at c' pe ⊢
    generalize hk : r.key = k at c' pe ⊢
    generalize hnil : ([] : List Row) = l0 at c'
    cases c' with
    | done =>
      rw [if_neg (by simp)]
      have hl : (runs d lim ms).length = ms.length := by unfold runs; simp
      rw [hl]
      by_cases z : i + 1 < ms.length
      · rw [if_pos z]
        have : fin lim ms i = mkAt ms (i + 1) := by unfold fin; rw [if_pos z]
        rw [this]
        exact PR_front B z (by lcg_off) k
      · rw [if_neg z]
        show ¬ _
        unfold fin; rw [if_neg z]; lcg_off
    | bad _ _ q' hn =>
      rw [if_pos rfl]
      refine ⟨rfl, by lcg_off, ?_⟩
      rw [pe q', hn]; rfl
    | cons => cases hnil
/-- the octets hold a block: its limit, its restarts -/
structure Opens (d : By) (lim : Nat) (ms : List Nat) : Prop where
  blk : Blk d lim ms
  cnt : fx d (d.length - 4) = ms.length
  ms : ∀ i, i < ms.length → mkAt ms i = fx d (lim + 4 * i)
theorem ext_mk {a b : List Nat} (hl : a.length = b.length) (h : ∀ i, i < a.length → mkAt a i = mkAt b i) : a = b := by
  refine List.ext_getElem hl fun i h1 h2 => ?_
  have := h i h1
  unfold mkAt at this
  rwa [List.getD_eq_getElem?_getD, List.getD_eq_getElem?_getD, List.getElem?_eq_getElem h1, List.getElem?_eq_getElem h2] at this
noncomputable def marks (d : By) (lim c : Nat) : List Nat := (List.range c).map fun i => fx d (lim + 4 * i)
theorem marks_len {d : By} {lim c : Nat} : (marks d lim c).length = c := by unfold marks; simp
theorem marks_at {d : By} {lim c i : Nat} (h : i < c) : mkAt (marks d lim c) i = fx d (lim + 4 * i) := by
  unfold marks mkAt
  rw [List.getD_eq_getElem?_getD, List.getElem?_map, List.getElem?_range h, Option.map_some, Option.getD_some]
theorem Opens.eq {d : By} {lim : Nat} {ms : List Nat} (o : Opens d lim ms) : lim = d.length - 4 * (fx d (d.length - 4) + 1) ∧ ms = marks d lim (fx d (d.length - 4)) ∧ 4 * (fx d (d.length - 4) + 1) ≤ d.length ∧ 0 < fx d (d.length - 4) := by
  have h1 := o.blk.size
  have h2 := o.cnt
  have h3 := o.blk.ne
  refine ⟨by k_lenW, ext_mk (by rw [marks_len, h2]) fun i hi => ?_, by k_lenW, by k_lenW⟩
  rw [marks_at (by k_lenW), o.ms i hi]
theorem opens_of {d : By} {c : Nat} (hc : fx d (d.length - 4) = c) (h0 : 0 < c) (h4 : 4 * (c + 1) ≤ d.length) (z : fx d (d.length - 4 * (c + 1)) = 0)
    (up : ∀ i, i + 1 < c → fx d (d.length - 4 * (c + 1) + 4 * i) < fx d (d.length - 4 * (c + 1) + 4 * (i + 1)) ∧ fx d (d.length - 4 * (c + 1) + 4 * (i + 1)) < d.length - 4 * (c + 1)) :
    Opens d (d.length - 4 * (c + 1)) (marks d (d.length - 4 * (c + 1)) c) := by
  refine ⟨⟨by rw [marks_len]; k_lenW, by rw [marks_len]; k_lenW, by rw [marks_at h0]; exact z, fun i hi => ?_⟩, by rw [marks_len]; exact hc, fun i hi => ?_⟩
  · rw [marks_len] at hi
    rw [marks_at (by k_lenW), marks_at hi]; exact up i hi
  · rw [marks_len] at hi; exact marks_at hi
theorem opens_inv {d : By} {c : Nat} (hc : fx d (d.length - 4) = c) {lim : Nat} {ms : List Nat} (o : Opens d lim ms) : fx d (d.length - 4 * (c + 1)) = 0 ∧
    ∀ i, i + 1 < c → fx d (d.length - 4 * (c + 1) + 4 * i) < fx d (d.length - 4 * (c + 1) + 4 * (i + 1)) ∧ fx d (d.length - 4 * (c + 1) + 4 * (i + 1)) < d.length - 4 * (c + 1) := by
  obtain ⟨e1, e2, e3, e4⟩ := o.eq
  rw [hc] at e1 e2 e4
  have z := o.blk.z
  have up := o.blk.up
  subst e1
  rw [e2] at z up
  rw [marks_at e4] at z
  refine ⟨z, fun i hi => ?_⟩
  have := up i (by rw [marks_len]; exact hi)
  rwa [marks_at (by lcg_off), marks_at hi] at this
noncomputable def rkey (d : By) (lim : Nat) (ms : List Nat) (i : Nat) : Option By := match pent d lim (mkAt ms i) with
  | none => none
  | some (s, p, va, _) => if s ≠ 0 then none else some (sl d p va)
/-- the binary search over the restarts -/
noncomputable def bs (rk : Nat → Option By) (t : By) : Nat → Nat → Nat → Option Nat
  | 0, l, _ => some l
  | f + 1, l, r => if l < r then (match rk ((l + r + 1) / 2) with
      | none => none
      | some k => if k < t then bs rk t f ((l + r + 1) / 2) r else bs rk t f l ((l + r + 1) / 2 - 1)) else some l
theorem bs_le {rk : Nat → Option By} {t : By} {x : Nat} : ∀ {f l r : Nat}, l ≤ r → bs rk t f l r = some x → l ≤ x ∧ x ≤ r
  | 0, l, r, h, e => by unfold bs at e; cases e; lcg_off
  | f + 1, l, r, h, e => by
    unfold bs at e
    split at e
    · split at e
      · cases e
      · split at e
        · have := bs_le (by lcg_off) e; lcg_off
        · have := bs_le (by lcg_off) e; lcg_off
    · cases e; lcg_off
/-- on from entry to entry, up to the first key at or above -/
noncomputable def scan (R : Rs) (t : By) : Nat → Res → Res
  | 0, res => res
  | f + 1, (some (i, j), c) => if keyAt R i j < t then scan R t f (nxt R i j) else (some (i, j), c)
  | _ + 1, (none, c) => (none, c)
noncomputable def narB (rk : Nat → Option By) (R : Rs) (t : By) (f l r : Nat) : Res := match bs rk t r l r with
  | none => (none, 1)
  | some x => scan R t f (front R x)
/-- what a seek does; f: more than the limit -/
noncomputable def nar (rk : Nat → Option By) (R : Rs) (f : Nat) (pl : Option (Nat × Nat)) (t : By) : Res := match pl with
  | none => narB rk R t f 0 (R.length - 1)
  | some (i, j) => if keyAt R i j = t then (some (i, j), 0) else if keyAt R i j < t then (match bs rk t (R.length - 1) i (R.length - 1) with
      | none => (none, 1)
      | some x => if x = i then scan R t f (nxt R i j) else scan R t f (front R x))
    else narB rk R t f 0 i
/-- where the iterator stands -/
theorem bs_fuel {rk : Nat → Option By} {t : By} : ∀ {f g l r : Nat}, r - l ≤ f → r - l ≤ g → bs rk t f l r = bs rk t g l r
  | 0, g, l, r, h1, h2 => by
    cases g with
    | zero => rfl
    | succ g => unfold bs; rw [if_neg (by k_lenW)]
  | f + 1, g, l, r, h1, h2 => by
    cases g with
    | zero => unfold bs; rw [if_neg (by k_lenW)]
    | succ g =>
      unfold bs
      by_cases q : l < r
      · rw [if_pos q, if_pos q]
        cases rk ((l + r + 1) / 2) with
        | none => rfl
        | some k =>
          simp only
          rw [bs_fuel (f := f) (g := g) (l := (l + r + 1) / 2) (r := r) (by k_lenW) (by k_lenW), bs_fuel (f := f) (g := g) (l := l) (r := (l + r + 1) / 2 - 1) (by k_lenW) (by k_lenW)]
      · rw [if_neg q, if_neg q]
theorem Chain.next {d : By} {e i : Nat} {b : By} {rs : List Row} {w : Bool} (c : Chain d e i b rs w) : ∀ {j : Nat} {r r' : Row}, rs[j]? = some r → rs[j + 1]? = some r' → r'.st = r.en := by
  induction c with
  | done b => intro j r r' h; simp at h
  | bad i b h hn => intro j r r' h; simp at h
  | cons i b x rs w h hr c ih =>
    intro j r r' h1 h2
    cases j with
    | zero =>
      simp only [List.getElem?_cons_zero, Option.some.injEq] at h1
      subst h1
      simp only [List.getElem?_cons_succ] at h2
      exact (c.at h2).2.2.2.2.2.2.1 rfl
    | succ j =>
      simp only [List.getElem?_cons_succ] at h1 h2
      exact ih h1 h2
theorem sl_len (d : By) (a b : Nat) : (sl d a b).length ≤ b - a := by unfold sl; rw [List.length_drop, List.length_take]; k_lenW
theorem ent_klen {d : By} {e i : Nat} {b : By} {r : Row} (hr : ent d e i b = some r) (hb : b.length ≤ i) : r.key.length ≤ r.en := by
  unfold ent at hr
  split at hr
  · cases hr
  · rename_i s u v p h3
    split at hr
    · rename_i q
      cases hr
      have := hd3_pos h3
      have := sl_len d p (p + u)
      show (b.take s ++ sl d p (p + u)).length ≤ p + u + v
      rw [List.length_append, List.length_take]; lcg_off
    · cases hr
theorem Chain.klen {d : By} {e i : Nat} {b : By} {rs : List Row} {w : Bool} (c : Chain d e i b rs w) : b.length ≤ i → ∀ {j : Nat} {r : Row}, rs[j]? = some r → r.key.length ≤ r.en := by
  induction c with
  | done b => intro _ j r h; simp at h
  | bad i b h hn => intro _ j r h; simp at h
  | cons i b x rs w h hr c ih =>
    intro hb j r h1
    have kx := ent_klen hr hb
    cases j with
    | zero =>
      simp only [List.getElem?_cons_zero, Option.some.injEq] at h1
      subst h1; exact kx
    | succ j =>
      simp only [List.getElem?_cons_succ] at h1
      exact ih kx h1
theorem runs_len {d : By} {lim : Nat} {ms : List Nat} : (runs d lim ms).length = ms.length := by unfold runs; simp
structure RowOk (d : By) (lim : Nat) (ms : List Nat) (i j : Nat) (r : Row) : Prop where
  kl : r.key.length ≤ r.en
  lo : mkAt ms i ≤ r.st
  up : r.st < r.en
  fn : r.en ≤ fin lim ms i
  lm : r.en ≤ lim
  val : r.val = sl d r.va r.en
  va : r.va ≤ r.en
  pos : 0 < j → mkAt ms i < r.st
  z : j = 0 → r.st = mkAt ms i
theorem Blk.row {d : By} {lim : Nat} {ms : List Nat} (B : Blk d lim ms) {i j : Nat} {r : Row} (hi : i < ms.length) (h : rowAt (runs d lim ms) i j = some r) : RowOk d lim ms i j r := by
  have c := B.chain hi
  obtain ⟨e1, _⟩ := rws_runs (d := d) (lim := lim) hi
  unfold rowAt at h
  rw [e1] at h
  obtain ⟨a1, a2, a3, a4, a5, a6, a7, a8⟩ := c.at h
  exact ⟨c.klen (Nat.zero_le _) h, a2, a3, a4, Nat.le_trans a4 (B.le hi).2, a5, a8, a6, a7⟩
theorem row_lt {R : Rs} {i j : Nat} {r : Row} (h : rowAt R i j = some r) : j < (rws R i).length := (List.getElem?_eq_some_iff.mp h).1
theorem row_of {R : Rs} {i j : Nat} (h : j < (rws R i).length) : ∃ r, rowAt R i j = some r := ⟨_, List.getElem?_eq_getElem h⟩
theorem Blk.nextRow {d : By} {lim : Nat} {ms : List Nat} (B : Blk d lim ms) {i j : Nat} {r r' : Row} (hi : i < ms.length) (h : rowAt (runs d lim ms) i j = some r) (h' : rowAt (runs d lim ms) i (j + 1) = some r') : r'.st = r.en := by
  have c := B.chain hi
  obtain ⟨e1, _⟩ := rws_runs (d := d) (lim := lim) hi
  unfold rowAt at h h'
  rw [e1] at h h'
  exact c.next h h'
theorem Blk.rowLe {d : By} {lim : Nat} {ms : List Nat} (B : Blk d lim ms) {i j : Nat} (hi : i < ms.length) {r : Row} (h : rowAt (runs d lim ms) i j = some r) : ∀ {k : Nat} {r' : Row}, j < k → rowAt (runs d lim ms) i k = some r' → r.en ≤ r'.st
  | 0, _, q, _ => by lcg_off
  | k + 1, r', q, h' => by
    obtain ⟨x, hx⟩ := row_of (R := runs d lim ms) (i := i) (j := k) (by have := row_lt h'; lcg_off)
    have e := B.nextRow hi hx h'
    by_cases z : j = k
    · subst z
      rw [h] at hx; cases hx; lcg_off
    · have := B.rowLe hi h (k := k) (by lcg_off) hx
      have := (B.row hi hx).up
      lcg_off
theorem front_rear {R : Rs} {k : Nat} : (front R k = (none, 0) → rear R k = (none, 0)) ∧ (front R k = (none, 1) → rear R k = (none, 1)) := by
  unfold front rear
  by_cases q : 0 < (rws R k).length
  · rw [if_pos q]; exact ⟨nofun, nofun⟩
  · rw [if_neg q]
    cases whl R k <;> simp_all
/-- a run gone through up to its end -/
theorem Blk.toEnd {d : By} {lim : Nat} {ms : List Nat} (B : Blk d lim ms) {k j : Nat} {r : Row} (hk : k < ms.length) (h : rowAt (runs d lim ms) k j = some r) :
    (r.en < fin lim ms k → (nxt (runs d lim ms) k j = (some (k, j + 1), 0)) ∨ (nxt (runs d lim ms) k j = (none, 1) ∧ rear (runs d lim ms) k = (none, 1))) ∧ (¬ r.en < fin lim ms k → rear (runs d lim ms) k = (some (k, j), 0)) := by
  have c := B.chain hk
  obtain ⟨e1, e2⟩ := rws_runs (d := d) (lim := lim) hk
  have hl := row_lt h
  have hr := h
  unfold rowAt at hr
  rw [e1] at hr
  have c' := (c.at hr).1
  unfold nxt rear
  rw [e1] at hl ⊢
  rw [e2]
  generalize hR : run d lim ms k = X at c c' e1 e2 hl hr ⊢
  obtain ⟨rs, w⟩ := X
  dsimp only at c c' hl hr ⊢
  by_cases q : j + 1 < rs.length
  · rw [if_pos q]
    refine ⟨fun _ => .inl rfl, fun z => ?_⟩
    obtain ⟨x, hx⟩ := row_of (R := runs d lim ms) (i := k) (j := j + 1) (by rw [e1]; exact q)
    have := B.nextRow hk h hx
    have := (B.row hk hx).up
    have := (B.row hk hx).fn
    lcg_off
  · rw [if_neg q]
    have hd : rs.drop (j + 1) = [] := List.drop_eq_nil_of_le (by lcg_off)
    rw [hd] at c'
    generalize hen : r.en = en at c'
    generalize hk' : r.key = ky at c'
    generalize hnil : ([] : List Row) = l0 at c'
    cases c' with
    | done =>
      refine ⟨fun z => absurd z (Nat.lt_irrefl _), fun _ => ?_⟩
      rw [if_neg (by simp), if_pos (by lcg_off), show rs.length - 1 = j by lcg_off]
    | bad _ _ q' hn =>
      exact ⟨fun _ => .inr ⟨by simp, by simp⟩, fun z => absurd q' z⟩
    | cons => cases hnil
theorem Blk.toRow {d : By} {lim : Nat} {ms : List Nat} (B : Blk d lim ms) {k j j' : Nat} {r r' : Row} (hk : k < ms.length) (h : rowAt (runs d lim ms) k j = some r) (hj : j' < j) (h' : rowAt (runs d lim ms) k j' = some r') :
    nxt (runs d lim ms) k j' = (some (k, j' + 1), 0) ∧ (r'.en < r.st → j' + 1 < j) ∧ (¬ r'.en < r.st → j' + 1 = j) := by
  have hl := row_lt h
  refine ⟨by unfold nxt; rw [if_pos (by lcg_off)], fun z => ?_, fun z => ?_⟩
  · by_cases q : j' + 1 = j
    · subst q
      have := B.nextRow hk h' h; lcg_off
    · lcg_off
  · by_cases q : j' + 1 = j
    · exact q
    · exfalso
      obtain ⟨x, hx⟩ := row_of (R := runs d lim ms) (i := k) (j := j' + 1) (by lcg_off)
      have := B.nextRow hk h' hx
      have := (B.row hk hx).up
      have := B.rowLe hk hx (k := j) (by lcg_off) h
      lcg_off
theorem Blk.backs {d : By} {lim : Nat} {ms : List Nat} (B : Blk d lim ms) {i j t : Nat} {r : Row} (hi : i < ms.length) (hr : rowAt (runs d lim ms) i j = some r) (ht : t < ms.length) (h1 : mkAt ms t < r.st) (h2 : (t = i ∧ 0 < j) ∨ (t + 1 = i ∧ j = 0)) :
    ((front (runs d lim ms) t = (some (t, 0), 0) ∧ (t = i → 0 < j)) ∨ (front (runs d lim ms) t = (none, 1) ∧ prv (runs d lim ms) i j = (none, 1))) ∧
    ∀ j' r', rowAt (runs d lim ms) t j' = some r' → (t = i → j' < j) → (r'.en < r.st → (nxt (runs d lim ms) t j' = (some (t, j' + 1), 0) ∧ (t = i → j' + 1 < j)) ∨ (nxt (runs d lim ms) t j' = (none, 1) ∧ prv (runs d lim ms) i j = (none, 1))) ∧
      (¬ r'.en < r.st → prv (runs d lim ms) i j = (some (t, j'), 0)) := by
  have pf := PR_front B ht (Nat.le_refl t) []
  have ro := B.row hi hr
  have hl := ro.lm
  have hu := ro.up
  have hp : (t = i ∧ 0 < j ∧ prv (runs d lim ms) i j = (some (i, j - 1), 0)) ∨ (t + 1 = i ∧ j = 0 ∧ prv (runs d lim ms) i j = rear (runs d lim ms) t ∧ fin lim ms t = r.st) := by
    rcases h2 with ⟨a, b⟩ | ⟨a, b⟩
    · exact .inl ⟨a, b, by unfold prv; rw [if_pos b]⟩
    · refine .inr ⟨a, b, ?_, ?_⟩
      · unfold prv; rw [if_neg (by lcg_off), if_pos (by lcg_off), show i - 1 = t by lcg_off]
      · unfold fin; rw [if_pos (by lcg_off), ro.z b, a]
  refine ⟨?_, fun j' r' hr' hj' => ?_⟩
  · generalize hF : front (runs d lim ms) t = F at pf
    obtain ⟨pl, c⟩ := F
    match pl, c, pf, hF with
    | some (a, b), c, pf, hF =>
      have hF' := hF
      unfold front at hF
      split at hF
      · cases hF
        exact .inl ⟨rfl, fun e => by rcases hp with q | q <;> lcg_off⟩
      · cases hF
    | none, 0, pf, hF => exact absurd (show mkAt ms t < lim by lcg_off) pf
    | none, c + 1, pf, hF =>
      obtain ⟨hc, _, _⟩ := pf
      rw [hc] at hF
      refine .inr ⟨by rw [hc], ?_⟩
      rcases hp with ⟨a, b, e⟩ | ⟨a, b, e, _⟩
      · subst a
        unfold front at hF
        rw [if_pos (by have := row_lt hr; lcg_off)] at hF
        cases hF
      · rw [e]; exact front_rear.2 hF
  · rcases hp with ⟨a, b, e⟩ | ⟨a, b, e, ef⟩
    · subst a
      obtain ⟨q1, q2, q3⟩ := B.toRow ht hr (hj' rfl) hr'
      refine ⟨fun z => .inl ⟨q1, fun _ => q2 z⟩, fun z => ?_⟩
      rw [e, show j - 1 = j' by have := q3 z; lcg_off]
    · obtain ⟨q1, q2⟩ := B.toEnd ht hr'
      rw [ef] at q1 q2
      rw [e]
      exact ⟨fun z => (q1 z).imp (fun y => ⟨y, fun _ => by lcg_off⟩) id, q2⟩
noncomputable def fixB (n : Nat) : By := [(n % 256).toUInt8, (n / 256 % 256).toUInt8, (n / 65536 % 256).toUInt8, (n / 16777216 % 256).toUInt8]
theorem toU8 {k : Nat} (h : k < 256) : k.toUInt8.toNat = k := by simp [Nat.toUInt8, UInt8.toNat_ofNat']; lcg_off
theorem oc_mid (a m b : By) {i : Nat} (h : i < m.length) : oc (a ++ (m ++ b)) (a.length + i) = oc m i := by
  unfold oc
  rw [List.getD_eq_getElem?_getD, List.getD_eq_getElem?_getD, List.getElem?_append_right (by lcg_off), List.getElem?_append_left (by lcg_off), Nat.add_sub_cancel_left]
theorem fx_fixB {n : Nat} (h : n < 4294967296) (a b : By) : fx (a ++ (fixB n ++ b)) a.length = n := by
  have e0 := oc_mid a (fixB n) b (i := 0) (by simp [fixB])
  have e1 := oc_mid a (fixB n) b (i := 1) (by simp [fixB])
  have e2 := oc_mid a (fixB n) b (i := 2) (by simp [fixB])
  have e3 := oc_mid a (fixB n) b (i := 3) (by simp [fixB])
  have q0 : oc (fixB n) 0 = n % 256 := toU8 (by k_lenW)
  have q1 : oc (fixB n) 1 = n / 256 % 256 := toU8 (by k_lenW)
  have q2 : oc (fixB n) 2 = n / 65536 % 256 := toU8 (by k_lenW)
  have q3 : oc (fixB n) 3 = n / 16777216 % 256 := toU8 (by k_lenW)
  rw [q0, Nat.add_zero] at e0
  rw [q1] at e1
  rw [q2] at e2
  rw [q3] at e3
  unfold fx
  rw [e0, e1, e2, e3]
  k_lenW
noncomputable def marksB (ms : List Nat) : By := (ms.map fixB).flatten
noncomputable def closeB (body : By) (ms : List Nat) : By := body ++ marksB ms ++ fixB ms.length
theorem fixB_len (n : Nat) : (fixB n).length = 4 := rfl
theorem marksB_len : ∀ ms : List Nat, (marksB ms).length = 4 * ms.length
  | [] => rfl
  | m :: ms => by
    show (fixB m ++ marksB ms).length = _
    rw [List.length_append, marksB_len ms, fixB_len, List.length_cons]; lcg_off
theorem marksB_at : ∀ {ms : List Nat} {i : Nat}, i < ms.length → ∃ b, marksB ms = marksB (ms.take i) ++ (fixB (mkAt ms i) ++ b)
  | m :: ms, 0, _ => ⟨marksB ms, rfl⟩
  | m :: ms, i + 1, h => by
    obtain ⟨b, e⟩ := marksB_at (ms := ms) (i := i) (by simpa using h)
    refine ⟨b, ?_⟩
    show fixB m ++ marksB ms = (fixB m ++ marksB (ms.take i)) ++ (fixB (mkAt ms i) ++ b)
    rw [e, List.append_assoc]
theorem closeB_len (body : By) (ms : List Nat) : (closeB body ms).length = body.length + 4 * ms.length + 4 := by
  unfold closeB; rw [List.length_append, List.length_append, marksB_len, fixB_len]
theorem closeB_cnt {body : By} {ms : List Nat} (h : ms.length < 4294967296) : fx (closeB body ms) ((closeB body ms).length - 4) = ms.length := by
  rw [closeB_len]
  have := fx_fixB h (body ++ marksB ms) []
  rw [List.append_nil, List.length_append, marksB_len] at this
  exact this
theorem closeB_mark {body : By} {ms : List Nat} {i : Nat} (hi : i < ms.length) (h : mkAt ms i < 4294967296) : fx (closeB body ms) (body.length + 4 * i) = mkAt ms i := by
  obtain ⟨b, e⟩ := marksB_at hi
  have := fx_fixB h (body ++ marksB (ms.take i)) (b ++ fixB ms.length)
  rw [List.length_append, marksB_len, List.length_take, Nat.min_eq_left (Nat.le_of_lt hi)] at this
  unfold closeB
  rw [e]
  simp only [List.append_assoc] at this ⊢
  exact this
theorem runs_take {d : By} {lim : Nat} {ms : List Nat} {k : Nat} (h : k < ms.length) : (runs d lim ms).take (k + 1) = (runs d lim ms).take k ++ [run d lim ms k] := by
  unfold runs
  rw [← List.map_take, ← List.map_take, List.take_range, List.take_range, Nat.min_eq_left (by lcg_off), Nat.min_eq_left (by lcg_off), List.range_succ, List.map_append]; rfl
theorem Chain.len {d : By} {e i : Nat} {b : By} {rs : List Row} {w : Bool} (c : Chain d e i b rs w) : rs.length + i ≤ e := by
  induction c with
  | done b => simp
  | bad i b h hn => simp; lcg_off
  | cons i b x rs w h hr c ih =>
    have := ent_pos hr
    rw [List.length_cons]; lcg_off
theorem Blk.rowsLen {d : By} {lim : Nat} {ms : List Nat} (B : Blk d lim ms) (i : Nat) : (rws (runs d lim ms) i).length ≤ lim := by
  by_cases h : i < ms.length
  · have := (B.chain h).len
    have := B.le h
    rw [(rws_runs (d := d) (lim := lim) h).1]; lcg_off
  · unfold rws
    rw [List.getD_eq_getElem?_getD, List.getElem?_eq_none (by rw [runs_len]; lcg_off)]
    simp
/-! the plain law of seek -/
noncomputable def keysOf (R : Rs) : List By := (R.map fun p => p.1.map Row.key).flatten
noncomputable def Lex (R : Rs) : Prop := ∀ {i j i' j' : Nat} {r r' : Row}, rowAt R i j = some r → rowAt R i' j' = some r' → (i < i' ∨ (i = i' ∧ j < j')) → r.key < r'.key
theorem scan_none {R : Rs} {t : By} {f c : Nat} : scan R t f (none, c) = (none, c) := by
  cases f <;> rfl
/-- the outcome is nothing, a broken entry, or an entry at or above -/
noncomputable def Good (R : Rs) (t : By) (T : Res) : Prop := T = (none, 0) ∨ T = (none, 1) ∨ ∃ i j r, T = (some (i, j), 0) ∧ rowAt R i j = some r ∧ ¬ r.key < t
/-- the outcome is a place with room for f steps -/
noncomputable def Room (lim n : Nat) (R : Rs) (f : Nat) (res : Res) : Prop := match res with
  | (some (i, j), c) => c = 0 ∧ i < n ∧ ∃ r, rowAt R i j = some r ∧ lim < f + r.st
  | (none, c) => c ≤ 1
theorem room_front {d : By} {lim : Nat} {ms : List Nat} (B : Blk d lim ms) {i : Nat} (h : i < ms.length) : Room lim ms.length (runs d lim ms) (lim + 1) (front (runs d lim ms) i) := by
  have pr := PR_front B h (Nat.le_refl i) []
  generalize front (runs d lim ms) i = res at pr
  obtain ⟨pl, c⟩ := res
  match pl, c, pr with
  | some (a, b), c, ⟨hc, hs, r, hr, hp, hst, ha⟩ => exact ⟨hc, ha, r, hr, by lcg_off⟩
  | none, 0, _ => exact Nat.zero_le _
  | none, c + 1, ⟨hc, _⟩ => show c + 1 ≤ 1; lcg_off
theorem room_nxt {d : By} {lim : Nat} {ms : List Nat} (B : Blk d lim ms) {i j f : Nat} {r : Row} (h : i < ms.length) (hr : rowAt (runs d lim ms) i j = some r) (hf : lim < f + 1 + r.st) : Room lim ms.length (runs d lim ms) f (nxt (runs d lim ms) i j) := by
  have pr := PR_nxt B h hr
  have ro := (B.row h hr).up
  generalize nxt (runs d lim ms) i j = res at pr
  obtain ⟨pl, c⟩ := res
  match pl, c, pr with
  | some (a, b), c, ⟨hc, hs, r', hr', hp, hst, ha⟩ => exact ⟨hc, ha, r', hr', by lcg_off⟩
  | none, 0, _ => exact Nat.zero_le _
  | none, c + 1, ⟨hc, _⟩ => show c + 1 ≤ 1; lcg_off
theorem keyAt_row {R : Rs} {i j : Nat} {r : Row} (h : rowAt R i j = some r) : keyAt R i j = r.key := by unfold keyAt; rw [h]
theorem scan_good {d : By} {lim : Nat} {ms : List Nat} (B : Blk d lim ms) {t : By} : ∀ {f : Nat} {res : Res}, Room lim ms.length (runs d lim ms) f res → Good (runs d lim ms) t (scan (runs d lim ms) t f res)
  | f, (none, c), h => by
    rw [scan_none]
    have h : c ≤ 1 := h
    match c, h with
    | 0, _ => exact .inl rfl
    | 1, _ => exact .inr (.inl rfl)
    | c + 2, h => lcg_off
  | 0, (some (i, j), c), ⟨_, hi, r, hr, hf⟩ => by
    have ro := B.row hi hr
    have := ro.up
    have := ro.lm
    lcg_off
  | f + 1, (some (i, j), c), ⟨hc, hi, r, hr, hf⟩ => by
    unfold scan
    rw [keyAt_row hr]
    by_cases q : r.key < t
    · rw [if_pos q]
      exact scan_good B (room_nxt B hi hr (by lcg_off))
    · rw [if_neg q]
      exact .inr (.inr ⟨i, j, r, by rw [hc], hr, q⟩)
noncomputable def PlOk (n : Nat) (R : Rs) (pl : Option (Nat × Nat)) : Prop := ∀ i j, pl = some (i, j) → i < n ∧ ∃ r, rowAt R i j = some r
theorem narB_good {d : By} {lim : Nat} {ms : List Nat} (B : Blk d lim ms) {rk : Nat → Option By} {t : By} {l r : Nat} (h : l ≤ r) (hr : r < ms.length) : Good (runs d lim ms) t (narB rk (runs d lim ms) t (lim + 1) l r) := by
  unfold narB
  cases e : bs rk t r l r with
  | none => exact .inr (.inl rfl)
  | some x => exact scan_good B (room_front B (by have := bs_le h e; k_lenW))
theorem nar_good {d : By} {lim : Nat} {ms : List Nat} (B : Blk d lim ms) {rk : Nat → Option By} {pl : Option (Nat × Nat)} (hp : PlOk ms.length (runs d lim ms) pl) (t : By) : Good (runs d lim ms) t (nar rk (runs d lim ms) (lim + 1) pl t) := by
  have hl := @runs_len d lim ms
  have hne := B.ne
  unfold nar
  cases pl with
  | none => exact narB_good B (by lcg_off) (by lcg_off)
  | some p =>
    obtain ⟨i, j⟩ := p
    obtain ⟨hi, r, hr⟩ := hp i j rfl
    dsimp only
    rw [keyAt_row hr]
    by_cases h1 : r.key = t
    · rw [if_pos h1]
      refine .inr (.inr ⟨i, j, r, rfl, hr, ?_⟩)
      rw [h1]; exact List.lt_irrefl _
    · rw [if_neg h1]
      by_cases h2 : r.key < t
      · rw [if_pos h2]
        cases e : bs rk t ((runs d lim ms).length - 1) i ((runs d lim ms).length - 1) with
        | none => exact .inr (.inl rfl)
        | some x =>
          have := bs_le (by lcg_off) e
          dsimp only
          by_cases h3 : x = i
          · rw [if_pos h3]; exact scan_good B (room_nxt B hi hr (by lcg_off))
          · rw [if_neg h3]; exact scan_good B (room_front B (by lcg_off))
      · rw [if_neg h2]; exact narB_good B (by lcg_off) hi

/-! where all runs are whole and the keys rise -/
theorem findJ_some {t : By} : ∀ {rs : List Row} {k j : Nat} {r : Row}, rs[j]? = some r → ¬ r.key < t → (∀ (j' : Nat) (r' : Row), j' < j → rs[j']? = some r' → r'.key < t) → findJ t rs k = some (k + j)
  | [], k, j, r, h, _, _ => by simp at h
  | x :: rs, k, 0, r, h, hr, _ => by
    simp only [List.getElem?_cons_zero, Option.some.injEq] at h
    subst h
    unfold findJ; rw [if_neg hr]; rfl
  | x :: rs, k, j + 1, r, h, hr, hb => by
    have hx : x.key < t := hb 0 x (by lcg_off) rfl
    unfold findJ; rw [if_pos hx]
    rw [findJ_some (k := k + 1) (j := j) (r := r) (by simpa using h) hr fun j' r' hj h' => hb (j' + 1) r' (by lcg_off) (by simpa using h')]
    congr 1; lcg_off
theorem findJ_none {t : By} : ∀ {rs : List Row} {k : Nat}, (∀ (j : Nat) (r : Row), rs[j]? = some r → r.key < t) → findJ t rs k = none
  | [], k, _ => rfl
  | x :: rs, k, h => by
    unfold findJ; rw [if_pos (h 0 x rfl)]
    exact findJ_none fun j r hj => h (j + 1) r (by simpa using hj)
theorem row_cons {p : List Row × Bool} {R : Rs} {i j : Nat} : rowAt (p :: R) (i + 1) j = rowAt R i j ∧ rowAt (p :: R) 0 j = p.1[j]? := ⟨rfl, rfl⟩
theorem findI_some {t : By} : ∀ {R : Rs} {k i j : Nat} {r : Row}, rowAt R i j = some r → ¬ r.key < t → (∀ i' j' r', (i' < i ∨ (i' = i ∧ j' < j)) → rowAt R i' j' = some r' → r'.key < t) → findI t R k = (some (k + i, j), 0)
  | [], k, i, j, r, h, _, _ => by
    unfold rowAt rws at h; simp at h
  | p :: R, k, 0, j, r, h, hr, hb => by
    unfold findI
    rw [findJ_some (rs := p.1) (k := 0) (j := j) (r := r) h hr fun j' r' hj h' => hb 0 j' r' (.inr ⟨rfl, hj⟩) h', Nat.zero_add]
    rfl
  | p :: R, k, i + 1, j, r, h, hr, hb => by
    unfold findI
    rw [findJ_none (rs := p.1) (k := 0) fun j' r' h' => hb 0 j' r' (.inl (by lcg_off)) h']
    dsimp only
    rw [findI_some (k := k + 1) (i := i) (j := j) (r := r) h hr fun i' j' r' hlt h' => hb (i' + 1) j' r' (by lcg_off) h']
    rw [show k + 1 + i = k + (i + 1) by lcg_off]
theorem findI_none {t : By} : ∀ {R : Rs} {k : Nat}, (∀ i j r, rowAt R i j = some r → r.key < t) → findI t R k = (none, 0)
  | [], k, _ => rfl
  | p :: R, k, h => by
    unfold findI
    rw [findJ_none (rs := p.1) (k := 0) fun j' r' h' => h 0 j' r' h']
    exact findI_none fun i j r hr => h (i + 1) j r hr
/-- all that lies ahead of the outcome is below -/
noncomputable def Bef (R : Rs) (t : By) (res : Res) : Prop := match res with
  | (some (i, j), _) => ∀ i' j' r', (i' < i ∨ (i' = i ∧ j' < j)) → rowAt R i' j' = some r' → r'.key < t
  | (none, c) => c = 0 ∧ ∀ i' j' r', rowAt R i' j' = some r' → r'.key < t
noncomputable def Whole (R : Rs) : Prop := ∀ i, i < R.length → whl R i = true
theorem row_i {R : Rs} {i j : Nat} {r : Row} (h : rowAt R i j = some r) : i < R.length := by
  by_cases q : i < R.length
  · exact q
  · unfold rowAt rws at h
    have e : R[i]? = none := List.getElem?_eq_none (by lcg_off)
    rw [List.getD_eq_getElem?_getD, e] at h
    simp at h
theorem Blk.run1 {d : By} {lim : Nat} {ms : List Nat} (B : Blk d lim ms) (hw : Whole (runs d lim ms)) {i : Nat} (h : i + 1 < ms.length) : 0 < (rws (runs d lim ms) (i + 1)).length := by
  have pr := PR_front B h (Nat.le_refl _) []
  by_cases q : 0 < (rws (runs d lim ms) (i + 1)).length
  · exact q
  · unfold front at pr
    rw [if_neg q, hw (i + 1) (by rw [runs_len]; exact h), if_pos rfl] at pr
    have pr : ¬ mkAt ms (i + 1) < lim := pr
    exact absurd (B.up i h).2 pr
theorem bef_nxt {d : By} {lim : Nat} {ms : List Nat} (B : Blk d lim ms) (hw : Whole (runs d lim ms)) {t : By} {i j : Nat} {r : Row} (hi : i < ms.length) (hr : rowAt (runs d lim ms) i j = some r) (hk : r.key < t)
    (hb : ∀ i' j' r', (i' < i ∨ (i' = i ∧ j' < j)) → rowAt (runs d lim ms) i' j' = some r' → r'.key < t) : Bef (runs d lim ms) t (nxt (runs d lim ms) i j) := by
  have hl := @runs_len d lim ms
  have hle : ∀ i' j' r', (i' < i ∨ (i' = i ∧ j' < j + 1)) → rowAt (runs d lim ms) i' j' = some r' → r'.key < t := fun i' j' r' h h' => by
    by_cases q : i' = i ∧ j' = j
    · obtain ⟨rfl, rfl⟩ := q
      rw [hr] at h'; cases h'; exact hk
    · exact hb i' j' r' (by lcg_off) h'
  unfold nxt
  by_cases h1 : j + 1 < (rws (runs d lim ms) i).length
  · rw [if_pos h1]
    exact fun i' j' r' h h' => hle i' j' r' (by lcg_off) h'
  · rw [if_neg h1, hw i (by lcg_off), if_neg (by decide)]
    by_cases h3 : i + 1 < (runs d lim ms).length
    · rw [if_pos h3]
      unfold front
      rw [if_pos (B.run1 hw (by lcg_off))]
      refine fun i' j' r' h h' => hle i' j' r' ?_ h'
      have := row_lt h'
      by_cases q : i' = i
      · subst q; lcg_off
      · lcg_off
    · rw [if_neg h3]
      refine ⟨rfl, fun i' j' r' h' => hle i' j' r' ?_ h'⟩
      have := row_lt h'
      have := row_i h'
      by_cases q : i' = i
      · subst q; lcg_off
      · lcg_off
theorem scan_sound {d : By} {lim : Nat} {ms : List Nat} (B : Blk d lim ms) (hw : Whole (runs d lim ms)) {t : By} : ∀ {f : Nat} {res : Res}, Room lim ms.length (runs d lim ms) f res → Bef (runs d lim ms) t res →
    scan (runs d lim ms) t f res = findI t (runs d lim ms) 0
  | f, (none, c), _, ⟨hc, hb⟩ => by
    rw [scan_none, findI_none hb, hc]
  | 0, (some (i, j), c), ⟨_, hi, r, hr, hf⟩, _ => by
    have ro := B.row hi hr
    have := ro.up
    have := ro.lm
    lcg_off
  | f + 1, (some (i, j), c), ⟨hc, hi, r, hr, hf⟩, hb => by
    unfold scan
    rw [keyAt_row hr]
    by_cases q : r.key < t
    · rw [if_pos q]
      exact scan_sound B hw (room_nxt B hi hr (by lcg_off)) (bef_nxt B hw hi hr q hb)
    · rw [if_neg q, findI_some hr q hb, hc, Nat.zero_add]
theorem bef_front {d : By} {lim : Nat} {ms : List Nat} (B : Blk d lim ms) (hw : Whole (runs d lim ms)) {t : By} {i : Nat} (hi : i < ms.length) (hb : ∀ i' j' r', i' < i → rowAt (runs d lim ms) i' j' = some r' → r'.key < t) : Bef (runs d lim ms) t (front (runs d lim ms) i) := by
  have hl := @runs_len d lim ms
  unfold front
  by_cases q : 0 < (rws (runs d lim ms) i).length
  · rw [if_pos q]
    exact fun i' j' r' h h' => hb i' j' r' (by lcg_off) h'
  · rw [if_neg q, hw i (by lcg_off), if_pos rfl]
    refine ⟨rfl, fun i' j' r' h' => ?_⟩
    cases i with
    | zero =>
      have := row_i h'
      by_cases z : i' = 0
      · subst z; exact absurd (Nat.lt_of_le_of_lt (Nat.zero_le _) (row_lt h')) q
      · exfalso
        have pr := PR_front B hi (Nat.le_refl _) []
        unfold front at pr
        rw [if_neg q, hw 0 (by lcg_off), if_pos rfl] at pr
        have pr : ¬ mkAt ms 0 < lim := pr
        have := (B.up 0 (by lcg_off))
        lcg_off
    | succ i => exact absurd (B.run1 hw hi) q
theorem rkey_row {d : By} {lim : Nat} {ms : List Nat} (B : Blk d lim ms) {i : Nat} {r : Row} (hi : i < ms.length) (hr : rowAt (runs d lim ms) i 0 = some r) : rkey d lim ms i = some r.key := by
  have c := B.chain hi
  have hle := B.le hi
  have hsz := B.size
  obtain ⟨e1, _⟩ := rws_runs (d := d) (lim := lim) hi
  unfold rowAt at hr
  rw [e1] at hr
  generalize hX : run d lim ms i = X at c hr
  obtain ⟨rs, w⟩ := X
  dsimp only at c hr
  generalize hm : mkAt ms i = m at c hle
  generalize hb : ([] : By) = b0 at c
  cases c with
  | done => simp at hr
  | bad => simp at hr
  | cons _ _ x rs w q hx c =>
    simp only [List.getElem?_cons_zero, Option.some.injEq] at hr
    subst hr
    subst hb
    unfold ent at hx
    unfold rkey pent
    rw [hm]
    split at hx
    · cases hx
    · rename_i s u v p h3
      split at hx
      · rename_i z
        cases hx
        have := hd3_pos h3
        rw [hd3_ext h3 (e' := d.length) (by lcg_off)]
        dsimp only
        rw [if_pos (by lcg_off)]
        dsimp only
        have hs : s = 0 := by simpa using z.2
        rw [if_neg (by lcg_off), hs]
        simp
      · cases hx
theorem bs_sound {d : By} {lim : Nat} {ms : List Nat} (B : Blk d lim ms) (hw : Whole (runs d lim ms)) (hx : Lex (runs d lim ms)) {t : By} : ∀ {f l r : Nat}, l ≤ r → r < ms.length → (∀ i' j' r', i' < l → rowAt (runs d lim ms) i' j' = some r' → r'.key < t) →
    ∃ x, bs (rkey d lim ms) t f l r = some x ∧ x < ms.length ∧ ∀ i' j' r', i' < x → rowAt (runs d lim ms) i' j' = some r' → r'.key < t
  | 0, l, r, h1, h2, hb => ⟨l, rfl, by lcg_off, hb⟩
  | f + 1, l, r, h1, h2, hb => by
    unfold bs
    by_cases q : l < r
    · rw [if_pos q]
      have hmid : (l + r + 1) / 2 < ms.length := by lcg_off
      have hpos : 0 < (l + r + 1) / 2 := by lcg_off
      obtain ⟨m, hm⟩ : ∃ m, (l + r + 1) / 2 = m + 1 := ⟨(l + r + 1) / 2 - 1, by lcg_off⟩
      have hrow := B.run1 hw (i := m) (by lcg_off)
      obtain ⟨x, hxr⟩ := row_of hrow
      rw [hm]
      rw [rkey_row B (by lcg_off) hxr]
      dsimp only
      by_cases c : x.key < t
      · rw [if_pos c]
        refine bs_sound B hw hx (by lcg_off) h2 fun i' j' r' hi' h' => ?_
        exact List.lt_trans (hx h' hxr (.inl hi')) c
      · rw [if_neg c]
        exact bs_sound B hw hx (by lcg_off) (by lcg_off) hb
    · rw [if_neg q]
      exact ⟨l, rfl, by lcg_off, hb⟩
theorem narB_sound {d : By} {lim : Nat} {ms : List Nat} (B : Blk d lim ms) (hw : Whole (runs d lim ms)) (hx : Lex (runs d lim ms)) {t : By} {r : Nat} (hr : r < ms.length) : narB (rkey d lim ms) (runs d lim ms) t (lim + 1) 0 r = findI t (runs d lim ms) 0 := by
  unfold narB
  obtain ⟨x, e, hxl, hb⟩ := bs_sound B hw hx (f := r) (t := t) (Nat.zero_le r) hr (fun i' j' r' h => by lcg_off)
  rw [e]
  exact scan_sound B hw (room_front B hxl) (bef_front B hw hxl hb)
theorem nar_sound {d : By} {lim : Nat} {ms : List Nat} (B : Blk d lim ms) (hw : Whole (runs d lim ms)) (hx : Lex (runs d lim ms)) {pl : Option (Nat × Nat)} (hp : PlOk ms.length (runs d lim ms) pl) (t : By) :
    nar (rkey d lim ms) (runs d lim ms) (lim + 1) pl t = findI t (runs d lim ms) 0 := by
  have hl := @runs_len d lim ms
  have hne := B.ne
  unfold nar
  cases pl with
  | none => exact narB_sound B hw hx (by lcg_off)
  | some p =>
    obtain ⟨i, j⟩ := p
    obtain ⟨hi, r, hr⟩ := hp i j rfl
    dsimp only
    rw [keyAt_row hr]
    by_cases h1 : r.key = t
    · rw [if_pos h1, findI_some hr (by rw [h1]; exact List.lt_irrefl _) fun i' j' r' h h' => h1 ▸ hx h' hr h, Nat.zero_add]
    · rw [if_neg h1]
      by_cases h2 : r.key < t
      · rw [if_pos h2]
        obtain ⟨x, e, hxl, hb⟩ := bs_sound B hw hx (f := (runs d lim ms).length - 1) (l := i) (r := (runs d lim ms).length - 1) (t := t) (by lcg_off) (by lcg_off) fun i' j' r' h h' => List.lt_trans (hx h' hr (.inl h)) h2
        rw [e]
        dsimp only
        by_cases h3 : x = i
        · rw [if_pos h3]
          exact scan_sound B hw (room_nxt B hi hr (by lcg_off)) (bef_nxt B hw hi hr h2 fun i' j' r' h h' => List.lt_trans (hx h' hr h) h2)
        · rw [if_neg h3]
          exact scan_sound B hw (room_front B hxl) (bef_front B hw hxl hb)
      · rw [if_neg h2]; exact narB_sound B hw hx hi
theorem pw_of {ks : List By} (h : ∀ i, i + 1 < ks.length → ks.getD i [] < ks.getD (i + 1) []) : ks.Pairwise (· < ·) := by
  rw [List.pairwise_iff_getElem]
  have key : ∀ n i j, j ≤ n → i < j → j < ks.length → ks.getD i [] < ks.getD j [] := by
    intro n
    induction n with
    | zero => intro i j h1 h2; lcg_off
    | succ n ih =>
      intro i j h1 h2 h3
      obtain ⟨k, rfl⟩ : ∃ k, j = k + 1 := ⟨j - 1, by lcg_off⟩
      have := h k h3
      by_cases q : i = k
      · subst q; exact this
      · exact List.lt_trans (ih i k (by lcg_off) (by lcg_off) (by lcg_off)) this
  intro i j hi hj hij
  have := key j i j (Nat.le_refl _) hij hj
  rwa [List.getD_eq_getElem?_getD, List.getD_eq_getElem?_getD, List.getElem?_eq_getElem hi, List.getElem?_eq_getElem hj] at this
theorem lex_of {R : Rs} (h : (keysOf R).Pairwise (· < ·)) : Lex R := by
  unfold keysOf at h
  obtain ⟨h1, h2⟩ := List.pairwise_flatten.mp h
  intro i j i' j' r r' hr hr' hlt
  have hi := row_i hr
  have hi' := row_i hr'
  unfold rowAt rws at hr hr'
  rw [List.getD_eq_getElem?_getD, List.getElem?_eq_getElem hi, Option.getD_some] at hr
  rw [List.getD_eq_getElem?_getD, List.getElem?_eq_getElem hi', Option.getD_some] at hr'
  rcases hlt with q | ⟨q, q'⟩
  · rw [List.pairwise_iff_getElem] at h2
    have := h2 i i' (by simpa using hi) (by simpa using hi') q
    simp only [List.getElem_map] at this
    exact this r.key (List.mem_map.mpr ⟨r, List.mem_of_getElem? hr, rfl⟩) r'.key (List.mem_map.mpr ⟨r', List.mem_of_getElem? hr', rfl⟩)
  · subst q
    have := h1 ((R[i]).1.map Row.key) (List.mem_map.mpr ⟨R[i], List.getElem_mem hi, rfl⟩)
    rw [List.pairwise_map, List.pairwise_iff_getElem] at this
    obtain ⟨a, b⟩ := List.getElem?_eq_some_iff.mp hr
    obtain ⟨a', b'⟩ := List.getElem?_eq_some_iff.mp hr'
    have := this j j' a a' q'
    rw [b, b'] at this
    exact this
theorem good_two {n : Nat} {R : Rs} {t : By} {T : Res} (hn : R.length = n) (g : Good R t T) : (T.2 = 1 → T.1 = none) ∧ T.2 ≤ 2 ∧ PlOk n R T.1 := by
  rcases g with q | q | ⟨i, j, r, q, hr, _⟩ <;> subst q
  · exact ⟨nofun, Nat.zero_le _, nofun⟩
  · exact ⟨fun _ => rfl, by decide, nofun⟩
  · refine ⟨nofun, Nat.zero_le _, fun a b e => ?_⟩
    cases e
    exact ⟨hn ▸ row_i hr, r, hr⟩
theorem ok_none {n c : Nat} {R : Rs} (h : c ≤ 2) : ((none, c) : Res).2 ≤ 2 ∧ PlOk n R ((none, c) : Res).1 := ⟨h, nofun⟩
noncomputable def Ok (n : Nat) (R : Rs) (T : Res) : Prop := (T.2 = 1 → T.1 = none) ∧ T.2 ≤ 2 ∧ PlOk n R T.1
theorem ok_n {n c : Nat} {R : Rs} (h : c ≤ 2) : Ok n R (none, c) := ⟨fun _ => rfl, h, nofun⟩
theorem ok_s {n i j : Nat} {R : Rs} (hn : R.length = n) (hi : i < n) (hj : j < (rws R i).length) : Ok n R (some (i, j), 0) := ⟨nofun, Nat.zero_le _, fun a b e => by cases e; exact ⟨hi, row_of hj⟩⟩
theorem front_ok {n i : Nat} {R : Rs} (hn : R.length = n) (hi : i < n) : Ok n R (front R i) := by
  unfold front
  split
  · exact ok_s hn hi (by assumption)
  · exact ok_n (by split <;> lcg_off)
theorem rear_ok {n i : Nat} {R : Rs} (hn : R.length = n) (hi : i < n) : Ok n R (rear R i) := by
  unfold rear
  split
  · exact ok_n (by decide)
  · split
    · exact ok_s hn hi (by k_lenW)
    · exact ok_n (by decide)
theorem findI_ok {n : Nat} {t : By} {R : Rs} : ∀ {S : Rs} {k : Nat}, (∀ i j, i < S.length → j < (rws S i).length → k + i < n ∧ j < (rws R (k + i)).length) → R.length = n → Ok n R (findI t S k)
  | [], k, _, _ => ok_n (by decide)
  | p :: ps, k, h, hn => by
    unfold findI
    cases e : findJ t p.1 0 with
    | none =>
      dsimp only
      exact findI_ok (k := k + 1) (fun i j hi hj => by
        have := h (i + 1) j (by simpa using hi) hj
        rwa [show k + (i + 1) = k + 1 + i by lcg_off] at this) hn
    | some j =>
      dsimp only
      have hj : ∀ {rs : List Row} {k j : Nat}, findJ t rs k = some j → k ≤ j ∧ j < k + rs.length := by
        intro rs
        induction rs with
        | nil => intro k j e; cases e
        | cons r rs ih =>
          intro k j e
          unfold findJ at e
          split at e
          · have := ih e; simp; lcg_off
          · cases e; simp
      have := h 0 j (by simp) (by have := hj e; show j < p.1.length; lcg_off)
      exact ok_s hn this.1 this.2
theorem after_ok {n mv : Nat} {R : Rs} {pl : Option (Nat × Nat)} {t : By} (hn : R.length = n) (h0 : 0 < n) (hp : PlOk n R pl) : Ok n R (after R pl mv t) := by
  unfold after
  split
  · exact front_ok hn h0
  · split
    · exact rear_ok hn (by k_lenW)
    · split
      · exact findI_ok (fun i j hi hj => by rw [Nat.zero_add]; exact ⟨by k_lenW, hj⟩) hn
      · split
        · exact ok_n (by decide)
        · rename_i i j
          obtain ⟨hi, r, hr⟩ := hp i j rfl
          have hj := row_lt hr
          split
          · unfold nxt
            split
            · exact ok_s hn hi (by assumption)
            · split
              · exact ok_n (by decide)
              · split
                · exact front_ok hn (by k_lenW)
                · exact ok_n (by decide)
          · unfold prv
            split
            · exact ok_s hn hi (by k_lenW)
            · split
              · exact rear_ok hn (by k_lenW)
              · exact ok_n (by decide)
theorem keysOf_len {d : By} {lim : Nat} {ms : List Nat} (B : Blk d lim ms) : (keysOf (runs d lim ms)).length ≤ lim * ms.length := by
  have gen : ∀ (R : Rs), (∀ p ∈ R, p.1.length ≤ lim) → (keysOf R).length ≤ lim * R.length := by
    intro R
    induction R with
    | nil => intro _; simp [keysOf]
    | cons p R ih =>
      intro h
      have h1 := ih fun q hq => h q (.tail _ hq)
      have h2 := h p (.head _)
      unfold keysOf at h1 ⊢
      rw [List.map_cons, List.flatten_cons, List.length_append, List.length_map, List.length_cons, Nat.mul_add]
      lcg_off
  have := gen (runs d lim ms) fun p hp => by
    obtain ⟨k, hk, e⟩ := List.getElem_of_mem hp
    have hl' := B.rowsLen k
    unfold rws at hl'
    rwa [List.getD_eq_getElem?_getD, List.getElem?_eq_getElem hk, Option.getD_some, e] at hl'
  rwa [runs_len] at this
open PySem PySem.W PyProof.Rows PySem.Calls PySem.Spec
/-! the head: the part of the heap that the law reaches, the defs' texts taken out of the program -/
noncomputable def stA (i : Nat) : Stmt := (PySem.Challenge.pw_no0408_01.main.body[i]?).getD (.Pass ⟨0, 0, 0, 0⟩)
noncomputable def stC (i j : Nat) : Stmt := match stA i with
  | .ClassDef (body := b) .. => (b[j]?).getD (.Pass ⟨0, 0, 0, 0⟩)
  | s => s
noncomputable def sArgs : Stmt → Arguments
  | .FunctionDef (args := a) .. => a
  | _ => ⟨[], [], none, [], [], none, []⟩
noncomputable def sBody : Stmt → List Stmt
  | .FunctionDef (body := b) .. => b
  | _ => []
noncomputable def sScope : Stmt → Scope
  | .FunctionDef (scope := s) .. => s
  | _ => default
@[reducible] noncomputable def fo (name qual : Str) (s : Stmt) (glob : Addr) (defaults kwd doc pm : Value) (an : Option Addr) (code ct : Value) (blt : Addr) (cl : List (Str × Addr)) : FuncData :=
  ⟨name, qual, sArgs s, .stmts (sBody s), sScope s, glob, cl, defaults, kwd, doc, pm, an, code, ct, blt⟩
@[reducible] noncomputable def de (P : Params) (x : Str) (t : Nat) (v : Value) : DictEntry := ⟨PyData.keyHash P x, .str x t, v⟩
noncomputable def hd.heap_39 (P : Params) : Frag := [
  (2, ⟨.none, none, .dict #[de P "type.__subclasses__.Exception.0" 212 (.int 31 0), de P "type.__subclasses__.Exception.n" 213 (.int 1 0)] 2, #[]⟩),
  (3, ⟨.type "dict", none, .dict #[de P "__name__" 165 (.str "law_no0408_01" 632), de P "__doc__" 166 .none, de P "__package__" 167 .none, de P "__loader__" 168 (.builtin "__main__.__loader__#opaque"), de P "__spec__" 169 .none, de P "__annotations__" 170 (.ref 6), de P "__builtins__" 171 (.ref 4), de P "__file__" 173 (.str "/claim/cut.py" 172), de P "__cached__" 174 .none, de P "_wall" 193 (.ref 21), de P "KeepError" 215 (.ref 31), de P "StoreError" 231 (.ref 44), de P "Corrupt" 247 (.ref 56), de P "ShortOctets" 263 (.ref 68), de P "IterMisuse" 279 (.ref 80), de P "MAX_32" 283 (.int 4294967295 282), de P "read_groups" 297 (.ref 89), de P "read_varint32" 305 (.ref 96), de P "read_fixed32" 313 (.ref 103), de P "Block" 392 (.ref 148), de P "BlockIter" 536 (.ref 260), de P "Order" 591 (.ref 302), de P "BytesOrder" 631 (.ref 337), de P "_law_take" 643 (.ref 346), de P "_law_word" 649 (.ref 351), de P "_law_put" 657 (.ref 358), de P "_law_fix" 663 (.ref 363), de P "_law_num" 669 (.ref 368), de P "_law_common" 678 (.ref 375), de P "_law_close" 688 (.ref 382), de P "_law_made" 694 (.ref 387), de P "_law_octets" 700 (.ref 392), de P "_law_var" 711 (.ref 399), de P "_law_entry" 725 (.ref 406), de P "_law_runs" 731 (.ref 411), de P "_law_front" 739 (.ref 418), de P "_law_rear" 748 (.ref 425), de P "_law_after" 760 (.ref 432), de P "_law_move" 769 (.ref 439), de P "_law_stands" 779 (.ref 446), de P "_law_sought" 785 (.ref 451), de P "law" 791 (.ref 456)] 42, #[]⟩),
  (15, ⟨.type "tuple", none, .seq #[] 0, #[]⟩),
  (17, ⟨.type "tuple", none, .seq #[.str "k" 190] 0, #[]⟩),
  (18, ⟨.type "tuple", none, .seq #[] 0, #[]⟩),
  (20, ⟨.type "code", none, .fields #[.str "_wall" 187, .str "_wall" 188, .str "/claim/cut.py" 189, .int 1 0, .int 1 0, .int 0 0, .int 0 0, .int 3 0, .ref 15, .bool true, .int 181 0, .ref 16, .none, .ref 17, .ref 18, .ref 19, .int 191 0, .int 1 0, .str "/claim/cut.py" 192], #[]⟩),
  (21, ⟨.type "function", none, .func (fo "_wall" "_wall" (stA 0) 3 .none .none .none (.str "__main__" 164) none (.ref 20) .none 0 []), #[]⟩),
  (22, ⟨.type "tuple", none, .seq #[.type "Exception"] 0, #[]⟩),
  (29, ⟨.type "tuple", none, .seq #[] 0, #[]⟩),
  (30, ⟨.type "dict", none, .dict #[de P "__module__" 203 (.str "raftkeep.errors" 194), de P "__firstlineno__" 207 (.int 5 206), de P "__static_attributes__" 208 (.ref 29), de P "__weakref__" 210 (.ref 32), de P "__doc__" 211 .none] 3, #[]⟩),
  (31, ⟨.type "type", none, .cls ⟨"KeepError", [.type "Exception"], [.ref 31, .type "Exception", .type "BaseException", .type "object"], 30, "KeepError", true, [], [.ref 44], false, none, false⟩, #[(some (.ref 22)), none, (some (.str "KeepError" 196)), (some (.str "KeepError" 204)), (some (.builtin "Exception.__new__")), (some (.bool true))]⟩),
  (32, ⟨.type "getset_descriptor", none, .fields #[.str "__weakref__" 209, .ref 31, .builtin "ExceptionGroup.__weakref__", .none], #[]⟩),
  (35, ⟨.type "tuple", none, .seq #[.ref 31] 0, #[]⟩),
  (42, ⟨.type "tuple", none, .seq #[] 0, #[]⟩),
  (43, ⟨.type "dict", none, .dict #[de P "__module__" 223 (.str "raftkeep.errors" 194), de P "__firstlineno__" 227 (.int 7 226), de P "__static_attributes__" 228 (.ref 42), de P "__doc__" 229 .none] 2, #[]⟩),
  (44, ⟨.type "type", none, .cls ⟨"StoreError", [.ref 31], [.ref 44, .ref 31, .type "Exception", .type "BaseException", .type "object"], 43, "StoreError", true, [], [.ref 56, .ref 80], false, none, false⟩, #[(some (.ref 35)), none, (some (.str "StoreError" 216)), (some (.str "StoreError" 224)), (some (.builtin "Exception.__new__")), (some (.bool true))]⟩),
  (47, ⟨.type "tuple", none, .seq #[.ref 44] 0, #[]⟩),
  (54, ⟨.type "tuple", none, .seq #[] 0, #[]⟩),
  (55, ⟨.type "dict", none, .dict #[de P "__module__" 239 (.str "raftkeep.errors" 194), de P "__firstlineno__" 243 (.int 9 242), de P "__static_attributes__" 244 (.ref 54), de P "__doc__" 245 .none] 2, #[]⟩),
  (56, ⟨.type "type", none, .cls ⟨"Corrupt", [.ref 44], [.ref 56, .ref 44, .ref 31, .type "Exception", .type "BaseException", .type "object"], 55, "Corrupt", true, [], [.ref 68], false, none, false⟩, #[(some (.ref 47)), none, (some (.str "Corrupt" 232)), (some (.str "Corrupt" 240)), (some (.builtin "Exception.__new__")), (some (.bool true))]⟩),
  (59, ⟨.type "tuple", none, .seq #[.ref 56] 0, #[]⟩),
  (66, ⟨.type "tuple", none, .seq #[] 0, #[]⟩),
  (67, ⟨.type "dict", none, .dict #[de P "__module__" 255 (.str "raftkeep.errors" 194), de P "__firstlineno__" 259 (.int 11 258), de P "__static_attributes__" 260 (.ref 66), de P "__doc__" 261 .none] 2, #[]⟩),
  (68, ⟨.type "type", none, .cls ⟨"ShortOctets", [.ref 56], [.ref 68, .ref 56, .ref 44, .ref 31, .type "Exception", .type "BaseException", .type "object"], 67, "ShortOctets", true, [], [], false, none, false⟩, #[(some (.ref 59)), none, (some (.str "ShortOctets" 248)), (some (.str "ShortOctets" 256)), (some (.builtin "Exception.__new__")), (some (.bool true))]⟩),
  (71, ⟨.type "tuple", none, .seq #[.ref 44] 0, #[]⟩),
  (78, ⟨.type "tuple", none, .seq #[] 0, #[]⟩),
  (79, ⟨.type "dict", none, .dict #[de P "__module__" 271 (.str "raftkeep.errors" 194), de P "__firstlineno__" 275 (.int 13 274), de P "__static_attributes__" 276 (.ref 78), de P "__doc__" 277 .none] 2, #[]⟩),
  (80, ⟨.type "type", none, .cls ⟨"IterMisuse", [.ref 44], [.ref 80, .ref 44, .ref 31, .type "Exception", .type "BaseException", .type "object"], 79, "IterMisuse", true, [], [], false, none, false⟩, #[(some (.ref 71)), none, (some (.str "IterMisuse" 264)), (some (.str "IterMisuse" 272)), (some (.builtin "Exception.__new__")), (some (.bool true))]⟩),
  (83, ⟨.type "tuple", none, .seq #[] 0, #[]⟩),
  (85, ⟨.type "tuple", none, .seq #[.str "data" 287, .str "at" 288, .str "octets" 289, .str "most" 290, .str "n" 291, .str "shift" 292, .str "turn" 293, .str "octet" 294] 0, #[]⟩),
  (86, ⟨.type "tuple", none, .seq #[] 0, #[]⟩),
  (88, ⟨.type "code", none, .fields #[.str "read_groups" 284, .str "read_groups" 285, .str "/claim/cut.py" 286, .int 17 0, .int 4 0, .int 0 0, .int 0 0, .int 3 0, .ref 83, .bool true, .int 181 0, .ref 84, .none, .ref 85, .ref 86, .ref 87, .int 295 0, .int 17 0, .str "/claim/cut.py" 296], #[]⟩),
  (89, ⟨.type "function", none, .func (fo "read_groups" "read_groups" (stA 9) 3 .none .none .none (.str "raftkeep.octets" 280) none (.ref 88) .none 0 []), #[]⟩),
  (90, ⟨.type "tuple", none, .seq #[] 0, #[]⟩),
  (92, ⟨.type "tuple", none, .seq #[.str "data" 301, .str "at" 302] 0, #[]⟩),
  (93, ⟨.type "tuple", none, .seq #[] 0, #[]⟩),
  (95, ⟨.type "code", none, .fields #[.str "read_varint32" 298, .str "read_varint32" 299, .str "/claim/cut.py" 300, .int 34 0, .int 2 0, .int 0 0, .int 0 0, .int 3 0, .ref 90, .bool true, .int 181 0, .ref 91, .none, .ref 92, .ref 93, .ref 94, .int 303 0, .int 34 0, .str "/claim/cut.py" 304], #[]⟩),
  (96, ⟨.type "function", none, .func (fo "read_varint32" "read_varint32" (stA 10) 3 .none .none .none (.str "raftkeep.octets" 280) none (.ref 95) .none 0 []), #[]⟩),
  (97, ⟨.type "tuple", none, .seq #[] 0, #[]⟩),
  (99, ⟨.type "tuple", none, .seq #[.str "data" 309, .str "at" 310] 0, #[]⟩),
  (100, ⟨.type "tuple", none, .seq #[] 0, #[]⟩),
  (102, ⟨.type "code", none, .fields #[.str "read_fixed32" 306, .str "read_fixed32" 307, .str "/claim/cut.py" 308, .int 38 0, .int 2 0, .int 0 0, .int 0 0, .int 3 0, .ref 97, .bool true, .int 181 0, .ref 98, .none, .ref 99, .ref 100, .ref 101, .int 311 0, .int 38 0, .str "/claim/cut.py" 312], #[]⟩),
  (103, ⟨.type "function", none, .func (fo "read_fixed32" "read_fixed32" (stA 11) 3 .none .none .none (.str "raftkeep.octets" 280) none (.ref 102) .none 0 []), #[]⟩),
  (111, ⟨.type "tuple", none, .seq #[] 0, #[]⟩),
  (113, ⟨.type "tuple", none, .seq #[.str "self" 331, .str "data" 332, .str "order" 333, .str "size" 334, .str "count" 335, .str "turn" 336, .str "place" 337] 0, #[]⟩),
  (114, ⟨.type "tuple", none, .seq #[] 0, #[]⟩),
  (116, ⟨.type "code", none, .fields #[.str "__init__" 328, .str "Block.__init__" 329, .str "/claim/cut.py" 330, .int 45 0, .int 3 0, .int 0 0, .int 0 0, .int 3 0, .ref 111, .bool true, .int 181 0, .ref 112, .none, .ref 113, .ref 114, .ref 115, .int 338 0, .int 45 0, .str "/claim/cut.py" 339], #[]⟩),
  (117, ⟨.type "function", none, .func (fo "__init__" "Block.__init__" (stC 13 0) 3 .none .none .none (.str "raftkeep.blocks" 314) none (.ref 116) .none 0 []), #[]⟩),
  (118, ⟨.type "tuple", none, .seq #[] 0, #[]⟩),
  (120, ⟨.type "tuple", none, .seq #[.str "self" 344] 0, #[]⟩),
  (121, ⟨.type "tuple", none, .seq #[] 0, #[]⟩),
  (123, ⟨.type "code", none, .fields #[.str "count_restarts" 341, .str "Block.count_restarts" 342, .str "/claim/cut.py" 343, .int 67 0, .int 1 0, .int 0 0, .int 0 0, .int 3 0, .ref 118, .bool true, .int 181 0, .ref 119, .none, .ref 120, .ref 121, .ref 122, .int 345 0, .int 67 0, .str "/claim/cut.py" 346], #[]⟩),
  (124, ⟨.type "function", none, .func (fo "count_restarts" "Block.count_restarts" (stC 13 1) 3 .none .none .none (.str "raftkeep.blocks" 314) none (.ref 123) .none 0 []), #[]⟩),
  (125, ⟨.type "tuple", none, .seq #[] 0, #[]⟩),
  (127, ⟨.type "tuple", none, .seq #[.str "self" 351] 0, #[]⟩),
  (128, ⟨.type "tuple", none, .seq #[] 0, #[]⟩),
  (130, ⟨.type "code", none, .fields #[.str "walk" 348, .str "Block.walk" 349, .str "/claim/cut.py" 350, .int 70 0, .int 1 0, .int 0 0, .int 0 0, .int 3 0, .ref 125, .bool true, .int 181 0, .ref 126, .none, .ref 127, .ref 128, .ref 129, .int 352 0, .int 70 0, .str "/claim/cut.py" 353], #[]⟩),
  (131, ⟨.type "function", none, .func (fo "walk" "Block.walk" (stC 13 2) 3 .none .none .none (.str "raftkeep.blocks" 314) none (.ref 130) .none 0 []), #[]⟩),
  (132, ⟨.type "tuple", none, .seq #[] 0, #[]⟩),
  (134, ⟨.type "tuple", none, .seq #[.str "self" 358, .str "at" 359, .str "shared" 360, .str "place" 361, .str "unshared" 362, .str "length" 363, .str "value_at" 364, .str "end" 365] 0, #[]⟩),
  (135, ⟨.type "tuple", none, .seq #[] 0, #[]⟩),
  (137, ⟨.type "code", none, .fields #[.str "entry_at" 355, .str "Block.entry_at" 356, .str "/claim/cut.py" 357, .int 73 0, .int 2 0, .int 0 0, .int 0 0, .int 3 0, .ref 132, .bool true, .int 181 0, .ref 133, .none, .ref 134, .ref 135, .ref 136, .int 366 0, .int 73 0, .str "/claim/cut.py" 367], #[]⟩),
  (138, ⟨.type "function", none, .func (fo "entry_at" "Block.entry_at" (stC 13 3) 3 .none .none .none (.str "raftkeep.blocks" 314) none (.ref 137) .none 0 []), #[]⟩),
  (139, ⟨.type "tuple", none, .seq #[] 0, #[]⟩),
  (141, ⟨.type "tuple", none, .seq #[.str "self" 372, .str "turn" 373, .str "shared" 374, .str "place" 375, .str "value_at" 376, .str "end" 377] 0, #[]⟩),
  (142, ⟨.type "tuple", none, .seq #[] 0, #[]⟩),
  (144, ⟨.type "code", none, .fields #[.str "restart_key" 369, .str "Block.restart_key" 370, .str "/claim/cut.py" 371, .int 83 0, .int 2 0, .int 0 0, .int 0 0, .int 3 0, .ref 139, .bool true, .int 181 0, .ref 140, .none, .ref 141, .ref 142, .ref 143, .int 378 0, .int 83 0, .str "/claim/cut.py" 379], #[]⟩),
  (145, ⟨.type "function", none, .func (fo "restart_key" "Block.restart_key" (stC 13 4) 3 .none .none .none (.str "raftkeep.blocks" 314) none (.ref 144) .none 0 []), #[]⟩),
  (146, ⟨.type "tuple", none, .seq #[.str "data" 381, .str "limit" 382, .str "order" 383, .str "restarts" 384] 0, #[]⟩),
  (147, ⟨.type "dict", none, .dict #[de P "__module__" 323 (.str "raftkeep.blocks" 314), de P "__firstlineno__" 327 (.int 43 326), de P "__init__" 340 (.ref 117), de P "count_restarts" 347 (.ref 124), de P "walk" 354 (.ref 131), de P "entry_at" 368 (.ref 138), de P "restart_key" 380 (.ref 145), de P "__static_attributes__" 385 (.ref 146), de P "__dict__" 387 (.ref 149), de P "__weakref__" 389 (.ref 150), de P "__doc__" 390 .none] 4, #[]⟩),
  (148, ⟨.type "type", none, .cls ⟨"Block", [.type "object"], [.ref 148, .type "object"], 147, "Block", true, [], [], false, none, false⟩, #[none, none, (some (.str "Block" 316)), (some (.str "Block" 324)), (some (.builtin "object.__new__")), (some (.bool true))]⟩),
  (149, ⟨.type "getset_descriptor", none, .fields #[.str "__dict__" 386, .ref 148, .builtin "function.__dict__", .builtin "function.__dict__#set"], #[]⟩),
  (150, ⟨.type "getset_descriptor", none, .fields #[.str "__weakref__" 388, .ref 148, .builtin "ExceptionGroup.__weakref__", .none], #[]⟩),
  (160, ⟨.type "tuple", none, .seq #[] 0, #[]⟩),
  (162, ⟨.type "tuple", none, .seq #[.str "self" 408, .str "block" 409] 0, #[]⟩),
  (163, ⟨.type "tuple", none, .seq #[] 0, #[]⟩),
  (165, ⟨.type "code", none, .fields #[.str "__init__" 405, .str "BlockIter.__init__" 406, .str "/claim/cut.py" 407, .int 90 0, .int 2 0, .int 0 0, .int 0 0, .int 3 0, .ref 160, .bool true, .int 181 0, .ref 161, .none, .ref 162, .ref 163, .ref 164, .int 410 0, .int 90 0, .str "/claim/cut.py" 411], #[]⟩),
  (166, ⟨.type "function", none, .func (fo "__init__" "BlockIter.__init__" (stC 14 0) 3 .none .none .none (.str "raftkeep.blocks" 314) none (.ref 165) .none 0 []), #[]⟩),
  (167, ⟨.type "tuple", none, .seq #[] 0, #[]⟩),
  (169, ⟨.type "tuple", none, .seq #[.str "self" 416] 0, #[]⟩),
  (170, ⟨.type "tuple", none, .seq #[] 0, #[]⟩),
  (172, ⟨.type "code", none, .fields #[.str "lose" 413, .str "BlockIter.lose" 414, .str "/claim/cut.py" 415, .int 99 0, .int 1 0, .int 0 0, .int 0 0, .int 3 0, .ref 167, .bool true, .int 181 0, .ref 168, .none, .ref 169, .ref 170, .ref 171, .int 417 0, .int 99 0, .str "/claim/cut.py" 418], #[]⟩),
  (173, ⟨.type "function", none, .func (fo "lose" "BlockIter.lose" (stC 14 1) 3 .none .none .none (.str "raftkeep.blocks" 314) none (.ref 172) .none 0 []), #[]⟩),
  (174, ⟨.type "tuple", none, .seq #[] 0, #[]⟩),
  (176, ⟨.type "tuple", none, .seq #[.str "self" 423] 0, #[]⟩),
  (177, ⟨.type "tuple", none, .seq #[] 0, #[]⟩),
  (179, ⟨.type "code", none, .fields #[.str "need" 420, .str "BlockIter.need" 421, .str "/claim/cut.py" 422, .int 104 0, .int 1 0, .int 0 0, .int 0 0, .int 3 0, .ref 174, .bool true, .int 181 0, .ref 175, .none, .ref 176, .ref 177, .ref 178, .int 424 0, .int 104 0, .str "/claim/cut.py" 425], #[]⟩),
  (180, ⟨.type "function", none, .func (fo "need" "BlockIter.need" (stC 14 2) 3 .none .none .none (.str "raftkeep.blocks" 314) none (.ref 179) .none 0 []), #[]⟩),
  (181, ⟨.type "tuple", none, .seq #[] 0, #[]⟩),
  (183, ⟨.type "tuple", none, .seq #[.str "self" 430] 0, #[]⟩),
  (184, ⟨.type "tuple", none, .seq #[] 0, #[]⟩),
  (186, ⟨.type "code", none, .fields #[.str "valid" 427, .str "BlockIter.valid" 428, .str "/claim/cut.py" 429, .int 108 0, .int 1 0, .int 0 0, .int 0 0, .int 3 0, .ref 181, .bool true, .int 181 0, .ref 182, .none, .ref 183, .ref 184, .ref 185, .int 431 0, .int 108 0, .str "/claim/cut.py" 432], #[]⟩),
  (187, ⟨.type "function", none, .func (fo "valid" "BlockIter.valid" (stC 14 3) 3 .none .none .none (.str "raftkeep.blocks" 314) none (.ref 186) .none 0 []), #[]⟩),
  (188, ⟨.type "tuple", none, .seq #[] 0, #[]⟩),
  (190, ⟨.type "tuple", none, .seq #[.str "self" 437] 0, #[]⟩),
  (191, ⟨.type "tuple", none, .seq #[] 0, #[]⟩),
  (193, ⟨.type "code", none, .fields #[.str "key" 434, .str "BlockIter.key" 435, .str "/claim/cut.py" 436, .int 111 0, .int 1 0, .int 0 0, .int 0 0, .int 3 0, .ref 188, .bool true, .int 181 0, .ref 189, .none, .ref 190, .ref 191, .ref 192, .int 438 0, .int 111 0, .str "/claim/cut.py" 439], #[]⟩),
  (194, ⟨.type "function", none, .func (fo "key" "BlockIter.key" (stC 14 4) 3 .none .none .none (.str "raftkeep.blocks" 314) none (.ref 193) .none 0 []), #[]⟩),
  (195, ⟨.type "tuple", none, .seq #[] 0, #[]⟩),
  (197, ⟨.type "tuple", none, .seq #[.str "self" 444] 0, #[]⟩),
  (198, ⟨.type "tuple", none, .seq #[] 0, #[]⟩),
  (200, ⟨.type "code", none, .fields #[.str "value" 441, .str "BlockIter.value" 442, .str "/claim/cut.py" 443, .int 115 0, .int 1 0, .int 0 0, .int 0 0, .int 3 0, .ref 195, .bool true, .int 181 0, .ref 196, .none, .ref 197, .ref 198, .ref 199, .int 445 0, .int 115 0, .str "/claim/cut.py" 446], #[]⟩),
  (201, ⟨.type "function", none, .func (fo "value" "BlockIter.value" (stC 14 5) 3 .none .none .none (.str "raftkeep.blocks" 314) none (.ref 200) .none 0 []), #[]⟩),
  (202, ⟨.type "tuple", none, .seq #[] 0, #[]⟩),
  (204, ⟨.type "tuple", none, .seq #[.str "self" 451, .str "turn" 452] 0, #[]⟩),
  (205, ⟨.type "tuple", none, .seq #[] 0, #[]⟩),
  (207, ⟨.type "code", none, .fields #[.str "go_restart" 448, .str "BlockIter.go_restart" 449, .str "/claim/cut.py" 450, .int 119 0, .int 2 0, .int 0 0, .int 0 0, .int 3 0, .ref 202, .bool true, .int 181 0, .ref 203, .none, .ref 204, .ref 205, .ref 206, .int 453 0, .int 119 0, .str "/claim/cut.py" 454], #[]⟩),
  (208, ⟨.type "function", none, .func (fo "go_restart" "BlockIter.go_restart" (stC 14 6) 3 .none .none .none (.str "raftkeep.blocks" 314) none (.ref 207) .none 0 []), #[]⟩),
  (209, ⟨.type "tuple", none, .seq #[] 0, #[]⟩),
  (211, ⟨.type "tuple", none, .seq #[.str "self" 459, .str "start" 460, .str "before" 461, .str "shared" 462, .str "place" 463, .str "value_at" 464, .str "end" 465, .str "restarts" 466] 0, #[]⟩),
  (212, ⟨.type "tuple", none, .seq #[] 0, #[]⟩),
  (214, ⟨.type "code", none, .fields #[.str "parse" 456, .str "BlockIter.parse" 457, .str "/claim/cut.py" 458, .int 124 0, .int 1 0, .int 0 0, .int 0 0, .int 3 0, .ref 209, .bool true, .int 181 0, .ref 210, .none, .ref 211, .ref 212, .ref 213, .int 467 0, .int 124 0, .str "/claim/cut.py" 468], #[]⟩),
  (215, ⟨.type "function", none, .func (fo "parse" "BlockIter.parse" (stC 14 7) 3 .none .none .none (.str "raftkeep.blocks" 314) none (.ref 214) .none 0 []), #[]⟩),
  (216, ⟨.type "tuple", none, .seq #[] 0, #[]⟩),
  (218, ⟨.type "tuple", none, .seq #[.str "self" 473] 0, #[]⟩),
  (219, ⟨.type "tuple", none, .seq #[] 0, #[]⟩),
  (221, ⟨.type "code", none, .fields #[.str "seek_first" 470, .str "BlockIter.seek_first" 471, .str "/claim/cut.py" 472, .int 146 0, .int 1 0, .int 0 0, .int 0 0, .int 3 0, .ref 216, .bool true, .int 181 0, .ref 217, .none, .ref 218, .ref 219, .ref 220, .int 474 0, .int 146 0, .str "/claim/cut.py" 475], #[]⟩),
  (222, ⟨.type "function", none, .func (fo "seek_first" "BlockIter.seek_first" (stC 14 8) 3 .none .none .none (.str "raftkeep.blocks" 314) none (.ref 221) .none 0 []), #[]⟩),
  (223, ⟨.type "tuple", none, .seq #[] 0, #[]⟩),
  (225, ⟨.type "tuple", none, .seq #[.str "self" 480] 0, #[]⟩),
  (226, ⟨.type "tuple", none, .seq #[] 0, #[]⟩),
  (228, ⟨.type "code", none, .fields #[.str "seek_last" 477, .str "BlockIter.seek_last" 478, .str "/claim/cut.py" 479, .int 150 0, .int 1 0, .int 0 0, .int 0 0, .int 3 0, .ref 223, .bool true, .int 181 0, .ref 224, .none, .ref 225, .ref 226, .ref 227, .int 481 0, .int 150 0, .str "/claim/cut.py" 482], #[]⟩),
  (229, ⟨.type "function", none, .func (fo "seek_last" "BlockIter.seek_last" (stC 14 9) 3 .none .none .none (.str "raftkeep.blocks" 314) none (.ref 228) .none 0 []), #[]⟩),
  (230, ⟨.type "tuple", none, .seq #[] 0, #[]⟩),
  (232, ⟨.type "tuple", none, .seq #[.str "self" 487, .str "target" 488] 0, #[]⟩),
  (233, ⟨.type "tuple", none, .seq #[] 0, #[]⟩),
  (235, ⟨.type "code", none, .fields #[.str "seek" 484, .str "BlockIter.seek" 485, .str "/claim/cut.py" 486, .int 156 0, .int 2 0, .int 0 0, .int 0 0, .int 3 0, .ref 230, .bool true, .int 181 0, .ref 231, .none, .ref 232, .ref 233, .ref 234, .int 489 0, .int 156 0, .str "/claim/cut.py" 490], #[]⟩),
  (236, ⟨.type "function", none, .func (fo "seek" "BlockIter.seek" (stC 14 10) 3 .none .none .none (.str "raftkeep.blocks" 314) none (.ref 235) .none 0 []), #[]⟩),
  (237, ⟨.type "tuple", none, .seq #[] 0, #[]⟩),
  (239, ⟨.type "tuple", none, .seq #[.str "self" 495, .str "target" 496, .str "left" 497, .str "right" 498, .str "side" 499, .str "standing" 500, .str "middle" 501, .str "found" 502] 0, #[]⟩),
  (240, ⟨.type "tuple", none, .seq #[] 0, #[]⟩),
  (242, ⟨.type "code", none, .fields #[.str "narrow" 492, .str "BlockIter.narrow" 493, .str "/claim/cut.py" 494, .int 163 0, .int 2 0, .int 0 0, .int 0 0, .int 3 0, .ref 237, .bool true, .int 181 0, .ref 238, .none, .ref 239, .ref 240, .ref 241, .int 503 0, .int 163 0, .str "/claim/cut.py" 504], #[]⟩),
  (243, ⟨.type "function", none, .func (fo "narrow" "BlockIter.narrow" (stC 14 11) 3 .none .none .none (.str "raftkeep.blocks" 314) none (.ref 242) .none 0 []), #[]⟩),
  (244, ⟨.type "tuple", none, .seq #[] 0, #[]⟩),
  (246, ⟨.type "tuple", none, .seq #[.str "self" 509] 0, #[]⟩),
  (247, ⟨.type "tuple", none, .seq #[] 0, #[]⟩),
  (249, ⟨.type "code", none, .fields #[.str "step" 506, .str "BlockIter.step" 507, .str "/claim/cut.py" 508, .int 189 0, .int 1 0, .int 0 0, .int 0 0, .int 3 0, .ref 244, .bool true, .int 181 0, .ref 245, .none, .ref 246, .ref 247, .ref 248, .int 510 0, .int 189 0, .str "/claim/cut.py" 511], #[]⟩),
  (250, ⟨.type "function", none, .func (fo "step" "BlockIter.step" (stC 14 12) 3 .none .none .none (.str "raftkeep.blocks" 314) none (.ref 249) .none 0 []), #[]⟩),
  (251, ⟨.type "tuple", none, .seq #[] 0, #[]⟩),
  (253, ⟨.type "tuple", none, .seq #[.str "self" 516, .str "original" 517, .str "turn" 518] 0, #[]⟩),
  (254, ⟨.type "tuple", none, .seq #[] 0, #[]⟩),
  (256, ⟨.type "code", none, .fields #[.str "back" 513, .str "BlockIter.back" 514, .str "/claim/cut.py" 515, .int 193 0, .int 1 0, .int 0 0, .int 0 0, .int 3 0, .ref 251, .bool true, .int 181 0, .ref 252, .none, .ref 253, .ref 254, .ref 255, .int 519 0, .int 193 0, .str "/claim/cut.py" 520], #[]⟩),
  (257, ⟨.type "function", none, .func (fo "back" "BlockIter.back" (stC 14 13) 3 .none .none .none (.str "raftkeep.blocks" 314) none (.ref 256) .none 0 []), #[]⟩),
  (258, ⟨.type "tuple", none, .seq #[.str "ahead" 522, .str "block" 523, .str "current" 524, .str "held_key" 525, .str "order" 526, .str "turn" 527, .str "value_from" 528] 0, #[]⟩),
  (259, ⟨.type "dict", none, .dict #[de P "__module__" 400 (.str "raftkeep.blocks" 314), de P "__firstlineno__" 404 (.int 88 403), de P "__init__" 412 (.ref 166), de P "lose" 419 (.ref 173), de P "need" 426 (.ref 180), de P "valid" 433 (.ref 187), de P "key" 440 (.ref 194), de P "value" 447 (.ref 201), de P "go_restart" 455 (.ref 208), de P "parse" 469 (.ref 215), de P "seek_first" 476 (.ref 222), de P "seek_last" 483 (.ref 229), de P "seek" 491 (.ref 236), de P "narrow" 505 (.ref 243), de P "step" 512 (.ref 250), de P "back" 521 (.ref 257), de P "__static_attributes__" 529 (.ref 258), de P "__dict__" 531 (.ref 261), de P "__weakref__" 533 (.ref 262), de P "__doc__" 534 .none] 4, #[]⟩),
  (260, ⟨.type "type", none, .cls ⟨"BlockIter", [.type "object"], [.ref 260, .type "object"], 259, "BlockIter", true, [], [], false, none, false⟩, #[none, none, (some (.str "BlockIter" 393)), (some (.str "BlockIter" 401)), (some (.builtin "object.__new__")), (some (.bool true))]⟩),
  (261, ⟨.type "getset_descriptor", none, .fields #[.str "__dict__" 530, .ref 260, .builtin "function.__dict__", .builtin "function.__dict__#set"], #[]⟩),
  (262, ⟨.type "getset_descriptor", none, .fields #[.str "__weakref__" 532, .ref 260, .builtin "ExceptionGroup.__weakref__", .none], #[]⟩),
  (272, ⟨.type "tuple", none, .seq #[] 0, #[]⟩),
  (274, ⟨.type "tuple", none, .seq #[.str "self" 554, .str "a" 555, .str "b" 556] 0, #[]⟩),
  (275, ⟨.type "tuple", none, .seq #[] 0, #[]⟩),
  (277, ⟨.type "code", none, .fields #[.str "compare" 551, .str "Order.compare" 552, .str "/claim/cut.py" 553, .int 209 0, .int 3 0, .int 0 0, .int 0 0, .int 3 0, .ref 272, .bool true, .int 181 0, .ref 273, .none, .ref 274, .ref 275, .ref 276, .int 557 0, .int 209 0, .str "/claim/cut.py" 558], #[]⟩),
  (278, ⟨.type "function", none, .func (fo "compare" "Order.compare" (stC 16 0) 3 .none .none .none (.str "raftkeep.keys" 537) none (.ref 277) .none 0 []), #[]⟩),
  (279, ⟨.type "tuple", none, .seq #[] 0, #[]⟩),
  (281, ⟨.type "tuple", none, .seq #[.str "self" 563, .str "a" 564, .str "b" 565] 0, #[]⟩),
  (282, ⟨.type "tuple", none, .seq #[] 0, #[]⟩),
  (284, ⟨.type "code", none, .fields #[.str "separator" 560, .str "Order.separator" 561, .str "/claim/cut.py" 562, .int 216 0, .int 3 0, .int 0 0, .int 0 0, .int 3 0, .ref 279, .bool true, .int 181 0, .ref 280, .none, .ref 281, .ref 282, .ref 283, .int 566 0, .int 216 0, .str "/claim/cut.py" 567], #[]⟩),
  (285, ⟨.type "function", none, .func (fo "separator" "Order.separator" (stC 16 1) 3 .none .none .none (.str "raftkeep.keys" 537) none (.ref 284) .none 0 []), #[]⟩),
  (286, ⟨.type "tuple", none, .seq #[] 0, #[]⟩),
  (288, ⟨.type "tuple", none, .seq #[.str "self" 572, .str "a" 573] 0, #[]⟩),
  (289, ⟨.type "tuple", none, .seq #[] 0, #[]⟩),
  (291, ⟨.type "code", none, .fields #[.str "successor" 569, .str "Order.successor" 570, .str "/claim/cut.py" 571, .int 219 0, .int 2 0, .int 0 0, .int 0 0, .int 3 0, .ref 286, .bool true, .int 181 0, .ref 287, .none, .ref 288, .ref 289, .ref 290, .int 574 0, .int 219 0, .str "/claim/cut.py" 575], #[]⟩),
  (292, ⟨.type "function", none, .func (fo "successor" "Order.successor" (stC 16 2) 3 .none .none .none (.str "raftkeep.keys" 537) none (.ref 291) .none 0 []), #[]⟩),
  (293, ⟨.type "tuple", none, .seq #[] 0, #[]⟩),
  (295, ⟨.type "tuple", none, .seq #[.str "self" 580] 0, #[]⟩),
  (296, ⟨.type "tuple", none, .seq #[] 0, #[]⟩),
  (298, ⟨.type "code", none, .fields #[.str "name" 577, .str "Order.name" 578, .str "/claim/cut.py" 579, .int 222 0, .int 1 0, .int 0 0, .int 0 0, .int 3 0, .ref 293, .bool true, .int 181 0, .ref 294, .none, .ref 295, .ref 296, .ref 297, .int 581 0, .int 222 0, .str "/claim/cut.py" 582], #[]⟩),
  (299, ⟨.type "function", none, .func (fo "name" "Order.name" (stC 16 3) 3 .none .none .none (.str "raftkeep.keys" 537) none (.ref 298) .none 0 []), #[]⟩),
  (300, ⟨.type "tuple", none, .seq #[] 0, #[]⟩),
  (301, ⟨.type "dict", none, .dict #[de P "__module__" 546 (.str "raftkeep.keys" 537), de P "__firstlineno__" 550 (.int 207 549), de P "compare" 559 (.ref 278), de P "separator" 568 (.ref 285), de P "successor" 576 (.ref 292), de P "name" 583 (.ref 299), de P "__static_attributes__" 584 (.ref 300), de P "__dict__" 586 (.ref 303), de P "__weakref__" 588 (.ref 304), de P "__doc__" 589 .none] 4, #[]⟩),
  (302, ⟨.type "type", none, .cls ⟨"Order", [.type "object"], [.ref 302, .type "object"], 301, "Order", true, [], [.ref 337], false, none, false⟩, #[none, none, (some (.str "Order" 539)), (some (.str "Order" 547)), (some (.builtin "object.__new__")), (some (.bool true))]⟩),
  (303, ⟨.type "getset_descriptor", none, .fields #[.str "__dict__" 585, .ref 302, .builtin "function.__dict__", .builtin "function.__dict__#set"], #[]⟩),
  (304, ⟨.type "getset_descriptor", none, .fields #[.str "__weakref__" 587, .ref 302, .builtin "ExceptionGroup.__weakref__", .none], #[]⟩),
  (307, ⟨.type "tuple", none, .seq #[.ref 302] 0, #[]⟩),
  (314, ⟨.type "tuple", none, .seq #[] 0, #[]⟩),
  (316, ⟨.type "tuple", none, .seq #[.str "self" 607, .str "a" 608, .str "b" 609] 0, #[]⟩),
  (317, ⟨.type "tuple", none, .seq #[] 0, #[]⟩),
  (319, ⟨.type "code", none, .fields #[.str "separator" 604, .str "BytesOrder.separator" 605, .str "/claim/cut.py" 606, .int 226 0, .int 3 0, .int 0 0, .int 0 0, .int 3 0, .ref 314, .bool true, .int 181 0, .ref 315, .none, .ref 316, .ref 317, .ref 318, .int 610 0, .int 226 0, .str "/claim/cut.py" 611], #[]⟩),
  (320, ⟨.type "function", none, .func (fo "separator" "BytesOrder.separator" (stC 17 0) 3 .none .none .none (.str "raftkeep.keys" 537) none (.ref 319) .none 0 []), #[]⟩),
  (321, ⟨.type "tuple", none, .seq #[] 0, #[]⟩),
  (323, ⟨.type "tuple", none, .seq #[.str "self" 616, .str "a" 617] 0, #[]⟩),
  (324, ⟨.type "tuple", none, .seq #[] 0, #[]⟩),
  (326, ⟨.type "code", none, .fields #[.str "successor" 613, .str "BytesOrder.successor" 614, .str "/claim/cut.py" 615, .int 229 0, .int 2 0, .int 0 0, .int 0 0, .int 3 0, .ref 321, .bool true, .int 181 0, .ref 322, .none, .ref 323, .ref 324, .ref 325, .int 618 0, .int 229 0, .str "/claim/cut.py" 619], #[]⟩),
  (327, ⟨.type "function", none, .func (fo "successor" "BytesOrder.successor" (stC 17 1) 3 .none .none .none (.str "raftkeep.keys" 537) none (.ref 326) .none 0 []), #[]⟩),
  (328, ⟨.type "tuple", none, .seq #[] 0, #[]⟩),
  (330, ⟨.type "tuple", none, .seq #[.str "self" 624] 0, #[]⟩),
  (331, ⟨.type "tuple", none, .seq #[] 0, #[]⟩),
  (333, ⟨.type "code", none, .fields #[.str "name" 621, .str "BytesOrder.name" 622, .str "/claim/cut.py" 623, .int 232 0, .int 1 0, .int 0 0, .int 0 0, .int 3 0, .ref 328, .bool true, .int 181 0, .ref 329, .none, .ref 330, .ref 331, .ref 332, .int 625 0, .int 232 0, .str "/claim/cut.py" 626], #[]⟩),
  (334, ⟨.type "function", none, .func (fo "name" "BytesOrder.name" (stC 17 2) 3 .none .none .none (.str "raftkeep.keys" 537) none (.ref 333) .none 0 []), #[]⟩),
  (335, ⟨.type "tuple", none, .seq #[] 0, #[]⟩),
  (336, ⟨.type "dict", none, .dict #[de P "__module__" 599 (.str "raftkeep.keys" 537), de P "__firstlineno__" 603 (.int 224 602), de P "separator" 612 (.ref 320), de P "successor" 620 (.ref 327), de P "name" 627 (.ref 334), de P "__static_attributes__" 628 (.ref 335), de P "__doc__" 629 .none] 2, #[]⟩),
  (337, ⟨.type "type", none, .cls ⟨"BytesOrder", [.ref 302], [.ref 337, .ref 302, .type "object"], 336, "BytesOrder", true, [], [], false, none, false⟩, #[(some (.ref 307)), none, (some (.str "BytesOrder" 592)), (some (.str "BytesOrder" 600)), (some (.builtin "object.__new__")), (some (.bool true))]⟩),
  (340, ⟨.type "tuple", none, .seq #[] 0, #[]⟩),
  (342, ⟨.type "tuple", none, .seq #[.str "tape" 637, .str "at" 638, .str "m" 639, .str "k" 640] 0, #[]⟩),
  (343, ⟨.type "tuple", none, .seq #[] 0, #[]⟩),
  (345, ⟨.type "code", none, .fields #[.str "_law_take" 634, .str "_law_take" 635, .str "/claim/cut.py" 636, .int 235 0, .int 3 0, .int 0 0, .int 0 0, .int 3 0, .ref 340, .bool true, .int 181 0, .ref 341, .none, .ref 342, .ref 343, .ref 344, .int 641 0, .int 235 0, .str "/claim/cut.py" 642], #[]⟩),
  (346, ⟨.type "function", none, .func (fo "_law_take" "_law_take" (stA 19) 3 .none .none .none (.str "law_no0408_01" 632) none (.ref 345) .none 0 []), #[]⟩),
  (347, ⟨.type "tuple", none, .seq #[] 0, #[]⟩),
  (350, ⟨.type "code", none, .fields #[.str "_law_word" 644, .str "_law_word" 645, .str "/claim/cut.py" 646, .int 239 0, .int 1 0, .int 0 0, .int 0 0, .int 3 0, .ref 347, .bool true, .int 181 0, .ref 348, .none, .none, .none, .ref 349, .int 647 0, .int 239 0, .str "/claim/cut.py" 648], #[]⟩),
  (351, ⟨.type "function", none, .func (fo "_law_word" "_law_word" (stA 20) 3 .none .none .none (.str "law_no0408_01" 632) none (.ref 350) .none 0 []), #[]⟩),
  (352, ⟨.type "tuple", none, .seq #[] 0, #[]⟩),
  (354, ⟨.type "tuple", none, .seq #[.str "n" 653, .str "longer" 654] 0, #[]⟩),
  (355, ⟨.type "tuple", none, .seq #[] 0, #[]⟩),
  (357, ⟨.type "code", none, .fields #[.str "_law_put" 650, .str "_law_put" 651, .str "/claim/cut.py" 652, .int 245 0, .int 2 0, .int 0 0, .int 0 0, .int 3 0, .ref 352, .bool true, .int 181 0, .ref 353, .none, .ref 354, .ref 355, .ref 356, .int 655 0, .int 245 0, .str "/claim/cut.py" 656], #[]⟩),
  (358, ⟨.type "function", none, .func (fo "_law_put" "_law_put" (stA 21) 3 .none .none .none (.str "law_no0408_01" 632) none (.ref 357) .none 0 []), #[]⟩),
  (359, ⟨.type "tuple", none, .seq #[] 0, #[]⟩),
  (362, ⟨.type "code", none, .fields #[.str "_law_fix" 658, .str "_law_fix" 659, .str "/claim/cut.py" 660, .int 249 0, .int 1 0, .int 0 0, .int 0 0, .int 3 0, .ref 359, .bool true, .int 181 0, .ref 360, .none, .none, .none, .ref 361, .int 661 0, .int 249 0, .str "/claim/cut.py" 662], #[]⟩),
  (363, ⟨.type "function", none, .func (fo "_law_fix" "_law_fix" (stA 22) 3 .none .none .none (.str "law_no0408_01" 632) none (.ref 362) .none 0 []), #[]⟩),
  (364, ⟨.type "tuple", none, .seq #[] 0, #[]⟩),
  (367, ⟨.type "code", none, .fields #[.str "_law_num" 664, .str "_law_num" 665, .str "/claim/cut.py" 666, .int 251 0, .int 2 0, .int 0 0, .int 0 0, .int 3 0, .ref 364, .bool true, .int 181 0, .ref 365, .none, .none, .none, .ref 366, .int 667 0, .int 251 0, .str "/claim/cut.py" 668], #[]⟩),
  (368, ⟨.type "function", none, .func (fo "_law_num" "_law_num" (stA 23) 3 .none .none .none (.str "law_no0408_01" 632) none (.ref 367) .none 0 []), #[]⟩),
  (369, ⟨.type "tuple", none, .seq #[] 0, #[]⟩),
  (371, ⟨.type "tuple", none, .seq #[.str "a" 673, .str "b" 674, .str "n" 675] 0, #[]⟩),
  (372, ⟨.type "tuple", none, .seq #[] 0, #[]⟩),
  (374, ⟨.type "code", none, .fields #[.str "_law_common" 670, .str "_law_common" 671, .str "/claim/cut.py" 672, .int 253 0, .int 2 0, .int 0 0, .int 0 0, .int 3 0, .ref 369, .bool true, .int 181 0, .ref 370, .none, .ref 371, .ref 372, .ref 373, .int 676 0, .int 253 0, .str "/claim/cut.py" 677], #[]⟩),
  (375, ⟨.type "function", none, .func (fo "_law_common" "_law_common" (stA 24) 3 .none .none .none (.str "law_no0408_01" 632) none (.ref 374) .none 0 []), #[]⟩),
  (376, ⟨.type "tuple", none, .seq #[] 0, #[]⟩),
  (378, ⟨.type "tuple", none, .seq #[.str "body" 682, .str "marks" 683, .str "out" 684, .str "mark" 685] 0, #[]⟩),
  (379, ⟨.type "tuple", none, .seq #[] 0, #[]⟩),
  (381, ⟨.type "code", none, .fields #[.str "_law_close" 679, .str "_law_close" 680, .str "/claim/cut.py" 681, .int 258 0, .int 2 0, .int 0 0, .int 0 0, .int 3 0, .ref 376, .bool true, .int 181 0, .ref 377, .none, .ref 378, .ref 379, .ref 380, .int 686 0, .int 258 0, .str "/claim/cut.py" 687], #[]⟩),
  (382, ⟨.type "function", none, .func (fo "_law_close" "_law_close" (stA 25) 3 .none .none .none (.str "law_no0408_01" 632) none (.ref 381) .none 0 []), #[]⟩),
  (383, ⟨.type "tuple", none, .seq #[] 0, #[]⟩),
  (386, ⟨.type "code", none, .fields #[.str "_law_made" 689, .str "_law_made" 690, .str "/claim/cut.py" 691, .int 263 0, .int 2 0, .int 0 0, .int 0 0, .int 3 0, .ref 383, .bool true, .int 181 0, .ref 384, .none, .none, .none, .ref 385, .int 692 0, .int 263 0, .str "/claim/cut.py" 693], #[]⟩),
  (387, ⟨.type "function", none, .func (fo "_law_made" "_law_made" (stA 26) 3 .none .none .none (.str "law_no0408_01" 632) none (.ref 386) .none 0 []), #[]⟩),
  (388, ⟨.type "tuple", none, .seq #[] 0, #[]⟩),
  (391, ⟨.type "code", none, .fields #[.str "_law_octets" 695, .str "_law_octets" 696, .str "/claim/cut.py" 697, .int 286 0, .int 2 0, .int 0 0, .int 0 0, .int 3 0, .ref 388, .bool true, .int 181 0, .ref 389, .none, .none, .none, .ref 390, .int 698 0, .int 286 0, .str "/claim/cut.py" 699], #[]⟩),
  (392, ⟨.type "function", none, .func (fo "_law_octets" "_law_octets" (stA 27) 3 .none .none .none (.str "law_no0408_01" 632) none (.ref 391) .none 0 []), #[]⟩),
  (393, ⟨.type "tuple", none, .seq #[] 0, #[]⟩),
  (395, ⟨.type "tuple", none, .seq #[.str "data" 704, .str "at" 705, .str "end" 706, .str "n" 707, .str "i" 708] 0, #[]⟩),
  (396, ⟨.type "tuple", none, .seq #[] 0, #[]⟩),
  (398, ⟨.type "code", none, .fields #[.str "_law_var" 701, .str "_law_var" 702, .str "/claim/cut.py" 703, .int 304 0, .int 3 0, .int 0 0, .int 0 0, .int 3 0, .ref 393, .bool true, .int 181 0, .ref 394, .none, .ref 395, .ref 396, .ref 397, .int 709 0, .int 304 0, .str "/claim/cut.py" 710], #[]⟩),
  (399, ⟨.type "function", none, .func (fo "_law_var" "_law_var" (stA 28) 3 .none .none .none (.str "law_no0408_01" 632) none (.ref 398) .none 0 []), #[]⟩),
  (400, ⟨.type "tuple", none, .seq #[] 0, #[]⟩),
  (402, ⟨.type "tuple", none, .seq #[.str "data" 715, .str "at" 716, .str "end" 717, .str "before" 718, .str "told" 719, .str "i" 720, .str "got" 721, .str "stop" 722] 0, #[]⟩),
  (403, ⟨.type "tuple", none, .seq #[] 0, #[]⟩),
  (405, ⟨.type "code", none, .fields #[.str "_law_entry" 712, .str "_law_entry" 713, .str "/claim/cut.py" 714, .int 315 0, .int 4 0, .int 0 0, .int 0 0, .int 3 0, .ref 400, .bool true, .int 181 0, .ref 401, .none, .ref 402, .ref 403, .ref 404, .int 723 0, .int 315 0, .str "/claim/cut.py" 724], #[]⟩),
  (406, ⟨.type "function", none, .func (fo "_law_entry" "_law_entry" (stA 29) 3 .none .none .none (.str "law_no0408_01" 632) none (.ref 405) .none 0 []), #[]⟩),
  (407, ⟨.type "tuple", none, .seq #[] 0, #[]⟩),
  (410, ⟨.type "code", none, .fields #[.str "_law_runs" 726, .str "_law_runs" 727, .str "/claim/cut.py" 728, .int 327 0, .int 1 0, .int 0 0, .int 0 0, .int 3 0, .ref 407, .bool true, .int 181 0, .ref 408, .none, .none, .none, .ref 409, .int 729 0, .int 327 0, .str "/claim/cut.py" 730], #[]⟩),
  (411, ⟨.type "function", none, .func (fo "_law_runs" "_law_runs" (stA 30) 3 .none .none .none (.str "law_no0408_01" 632) none (.ref 410) .none 0 []), #[]⟩),
  (412, ⟨.type "tuple", none, .seq #[] 0, #[]⟩),
  (414, ⟨.type "tuple", none, .seq #[.str "runs" 735, .str "i" 736] 0, #[]⟩),
  (415, ⟨.type "tuple", none, .seq #[] 0, #[]⟩),
  (417, ⟨.type "code", none, .fields #[.str "_law_front" 732, .str "_law_front" 733, .str "/claim/cut.py" 734, .int 358 0, .int 2 0, .int 0 0, .int 0 0, .int 3 0, .ref 412, .bool true, .int 181 0, .ref 413, .none, .ref 414, .ref 415, .ref 416, .int 737 0, .int 358 0, .str "/claim/cut.py" 738], #[]⟩),
  (418, ⟨.type "function", none, .func (fo "_law_front" "_law_front" (stA 31) 3 .none .none .none (.str "law_no0408_01" 632) none (.ref 417) .none 0 []), #[]⟩),
  (419, ⟨.type "tuple", none, .seq #[] 0, #[]⟩),
  (421, ⟨.type "tuple", none, .seq #[.str "runs" 743, .str "i" 744, .str "n" 745] 0, #[]⟩),
  (422, ⟨.type "tuple", none, .seq #[] 0, #[]⟩),
  (424, ⟨.type "code", none, .fields #[.str "_law_rear" 740, .str "_law_rear" 741, .str "/claim/cut.py" 742, .int 362 0, .int 2 0, .int 0 0, .int 0 0, .int 3 0, .ref 419, .bool true, .int 181 0, .ref 420, .none, .ref 421, .ref 422, .ref 423, .int 746 0, .int 362 0, .str "/claim/cut.py" 747], #[]⟩),
  (425, ⟨.type "function", none, .func (fo "_law_rear" "_law_rear" (stA 32) 3 .none .none .none (.str "law_no0408_01" 632) none (.ref 424) .none 0 []), #[]⟩),
  (426, ⟨.type "tuple", none, .seq #[] 0, #[]⟩),
  (428, ⟨.type "tuple", none, .seq #[.str "runs" 752, .str "place" 753, .str "move" 754, .str "target" 755, .str "i" 756, .str "j" 757] 0, #[]⟩),
  (429, ⟨.type "tuple", none, .seq #[] 0, #[]⟩),
  (431, ⟨.type "code", none, .fields #[.str "_law_after" 749, .str "_law_after" 750, .str "/claim/cut.py" 751, .int 367 0, .int 4 0, .int 0 0, .int 0 0, .int 3 0, .ref 426, .bool true, .int 181 0, .ref 427, .none, .ref 428, .ref 429, .ref 430, .int 758 0, .int 367 0, .str "/claim/cut.py" 759], #[]⟩),
  (432, ⟨.type "function", none, .func (fo "_law_after" "_law_after" (stA 33) 3 .none .none .none (.str "law_no0408_01" 632) none (.ref 431) .none 0 []), #[]⟩),
  (433, ⟨.type "tuple", none, .seq #[] 0, #[]⟩),
  (435, ⟨.type "tuple", none, .seq #[.str "walk" 764, .str "move" 765, .str "target" 766] 0, #[]⟩),
  (436, ⟨.type "tuple", none, .seq #[] 0, #[]⟩),
  (438, ⟨.type "code", none, .fields #[.str "_law_move" 761, .str "_law_move" 762, .str "/claim/cut.py" 763, .int 390 0, .int 3 0, .int 0 0, .int 0 0, .int 3 0, .ref 433, .bool true, .int 181 0, .ref 434, .none, .ref 435, .ref 436, .ref 437, .int 767 0, .int 390 0, .str "/claim/cut.py" 768], #[]⟩),
  (439, ⟨.type "function", none, .func (fo "_law_move" "_law_move" (stA 34) 3 .none .none .none (.str "law_no0408_01" 632) none (.ref 438) .none 0 []), #[]⟩),
  (440, ⟨.type "tuple", none, .seq #[] 0, #[]⟩),
  (442, ⟨.type "tuple", none, .seq #[.str "walk" 773, .str "runs" 774, .str "place" 775, .str "n" 776] 0, #[]⟩),
  (443, ⟨.type "tuple", none, .seq #[] 0, #[]⟩),
  (445, ⟨.type "code", none, .fields #[.str "_law_stands" 770, .str "_law_stands" 771, .str "/claim/cut.py" 772, .int 407 0, .int 3 0, .int 0 0, .int 0 0, .int 3 0, .ref 440, .bool true, .int 181 0, .ref 441, .none, .ref 442, .ref 443, .ref 444, .int 777 0, .int 407 0, .str "/claim/cut.py" 778], #[]⟩),
  (446, ⟨.type "function", none, .func (fo "_law_stands" "_law_stands" (stA 35) 3 .none .none .none (.str "law_no0408_01" 632) none (.ref 445) .none 0 []), #[]⟩),
  (447, ⟨.type "tuple", none, .seq #[] 0, #[]⟩),
  (450, ⟨.type "code", none, .fields #[.str "_law_sought" 780, .str "_law_sought" 781, .str "/claim/cut.py" 782, .int 422 0, .int 3 0, .int 0 0, .int 0 0, .int 3 0, .ref 447, .bool true, .int 181 0, .ref 448, .none, .none, .none, .ref 449, .int 783 0, .int 422 0, .str "/claim/cut.py" 784], #[]⟩),
  (451, ⟨.type "function", none, .func (fo "_law_sought" "_law_sought" (stA 36) 3 .none .none .none (.str "law_no0408_01" 632) none (.ref 450) .none 0 []), #[]⟩),
  (452, ⟨.type "tuple", none, .seq #[] 0, #[]⟩),
  (455, ⟨.type "code", none, .fields #[.str "law" 786, .str "law" 787, .str "/claim/cut.py" 788, .int 430 0, .int 1 0, .int 0 0, .int 0 0, .int 3 0, .ref 452, .bool true, .int 181 0, .ref 453, .none, .none, .none, .ref 454, .int 789 0, .int 430 0, .str "/claim/cut.py" 790], #[]⟩),
  (456, ⟨.type "function", none, .func (fo "law" "law" (stA 37) 3 .none .none .none (.str "law_no0408_01" 632) none (.ref 455) .none 0 []), #[]⟩)]
noncomputable def hd.view_39 : Program := view PySem.Challenge.pw_no0408_01 [0, 2, 3, 4, 5, 6, 8, 9, 10, 11, 13, 14, 16, 17, 19, 20, 21, 22, 23, 24, 25, 26, 27, 28, 29, 30, 31, 32, 33, 34, 35, 36, 37]
noncomputable def ads : List Addr := [2, 3, 15, 17, 18, 20, 21, 22, 29, 30, 31, 32, 35, 42, 43, 44, 47, 54, 55, 56, 59, 66, 67, 68, 71, 78, 79, 80, 83, 85, 86, 88, 89, 90, 92, 93, 95, 96, 97, 99, 100, 102, 103, 111, 113, 114, 116, 117, 118, 120, 121, 123, 124, 125, 127, 128, 130, 131, 132, 134, 135, 137, 138, 139, 141, 142, 144, 145, 146, 147, 148, 149, 150, 160, 162, 163, 165, 166, 167, 169, 170, 172, 173, 174, 176, 177, 179, 180, 181, 183, 184, 186, 187, 188, 190, 191, 193, 194, 195, 197, 198, 200, 201, 202, 204, 205, 207, 208, 209, 211, 212, 214, 215, 216, 218, 219, 221, 222, 223, 225, 226, 228, 229, 230, 232, 233, 235, 236, 237, 239, 240, 242, 243, 244, 246, 247, 249, 250, 251, 253, 254, 256, 257, 258, 259, 260, 261, 262, 272, 274, 275, 277, 278, 279, 281, 282, 284, 285, 286, 288, 289, 291, 292, 293, 295, 296, 298, 299, 300, 301, 302, 303, 304, 307, 314, 316, 317, 319, 320, 321, 323, 324, 326, 327, 328, 330, 331, 333, 334, 335, 336, 337, 340, 342, 343, 345, 346, 347, 350, 351, 352, 354, 355, 357, 358, 359, 362, 363, 364, 367, 368, 369, 371, 372, 374, 375, 376, 378, 379, 381, 382, 383, 386, 387, 388, 391, 392, 393, 395, 396, 398, 399, 400, 402, 403, 405, 406, 407, 410, 411, 412, 414, 415, 417, 418, 419, 421, 422, 424, 425, 426, 428, 429, 431, 432, 433, 435, 436, 438, 439, 440, 442, 443, 445, 446, 447, 450, 451, 452, 455, 456]
theorem ads_eq (P : Params) : ads = (hd.heap_39 P).map (·.1) := by kernel_rfl
noncomputable def hk : Hook := kHook hd.heap_39 ads ads_eq
/-! the top's run over a tree of objects -/
noncomputable def topRunT (ok : Thread → Bool) (st : SharedT → Thread → Option (SharedT × Thread)) : Nat → SharedT → Thread → Option SharedT
  | 0, _, _ => none
  | n + 1, s, t => match through t with
    | true => some s
    | false => match ok t with
      | false => none
      | true => match st s t with
        | some (s', t') => topRunT ok st n s' t'
        | none => none
theorem topRun_of {tb : String → Option Builtin} {p : Program} {w : World} {n₀ : Nat} {ann : Option Value} : ∀ {n : Nat} {s s' : SharedT} {t : Thread}, topRunT (stepOk n₀ ann) (stepT (denote tb) p w) n s t = some s' → topRun tb p w n₀ ann n s.abs t = some s'.abs
  | 0, _, _, _, h => by cases h
  | n + 1, s, s', t, h => by
    unfold topRunT at h
    unfold topRun
    cases ht : through t with
    | true => rw [ht] at h; cases h; rfl
    | false =>
      rw [ht] at h
      cases hk : stepOk n₀ ann t with
      | false => rw [hk] at h; cases h
      | true =>
        rw [hk] at h
        cases hs : stepT (denote tb) p w s t with
        | none => rw [hs] at h; cases h
        | some r => obtain ⟨s₂, t₂⟩ := r; rw [hs] at h; dsimp only at h ⊢; rw [stepT_spec hs]; exact topRun_of h
noncomputable def treeOf : List Obj → Nat → BT → BT
  | [], _, t => t
  | o :: r, n, t => treeOf r (n + 1) (t.ins n o)
noncomputable def mergeF : Nat → Frag → Frag → List Obj
  | 0, _, _ => []
  | n + 1, r, s => match r, s with
    | [], [] => []
    | [], (_, p) :: s => p :: mergeF n [] s
    | (_, o) :: r, [] => o :: mergeF n r []
    | (a, o) :: r, (b, p) :: s => match Nat.blt a b with
      | true => o :: mergeF n r ((b, p) :: s)
      | false => p :: mergeF n ((a, o) :: r) s
theorem LeftO.of_tree {p q : Program} {loose : List Str} {Xt : Shared → Bool} {α : Type} {Yf : Shared → α} {Ya : World → α} {N : Nat} {m₀ : Nat} {ann : Option Value} {L : Params → List Obj} {n k : Nat} {life : Life} {d : Drawn}
    (e : opening p = plainProg p.main.scope.names) (hN : Nat.ble 600 N = true) (f : ∀ s, fenceModules? p s = some s)
    (tr : ∀ P, boot_heap P = absHeap (treeOf (boot_heap P).objs.toList 0 .nil) m₀ (boot_heap P).life)
    (size : ∀ P : Params, ((boot_heap P).isNs mainGlobals, (boot_heap P).objs.size, (boot_heap P).nsMap mainGlobals "__annotations__") = (true, m₀, ann))
    (run : ∀ (w : World) (os : OsState), topRunT (Fast.tw6613529449190102663 m₀ ann) (Fast.tw10156331382660048174 (Fast.tw11892475500146522536 Fast.tw14364793385576792824) p w) N ⟨treeOf (boot_heap w.params).objs.toList 0 .nil, m₀, (boot_heap w.params).life, Array.mk [], boot_drawn, boot_toks, os⟩ (topStub p) =
      some ⟨treeOf (L w.params) 0 .nil, n, life, Array.mk [], d, k, os⟩)
    (fin : ∀ P, absHeap (treeOf (L P) 0 .nil) n life = ⟨Array.mk (L P), life⟩)
    (stat : ∀ (w : World) (os : OsState), (staticsOk (importedModules p.main.body) (boot_heap w.params) ⟨Array.mk (L w.params), life⟩ && namesBound p ⟨Array.mk (L w.params), life⟩ && gensDone ⟨⟨Array.mk (L w.params), life⟩, Array.mk [], d, k, os⟩ && laidKept (boot_heap w.params) ⟨Array.mk (L w.params), life⟩) = true)
    (seen : ∀ (w : World) (os : OsState), openSeen q loose (importedModules p.main.body) Xt true ⟨⟨Array.mk (L w.params), life⟩, Array.mk [], d, k, os⟩ = openGood q loose)
    (obs : ∀ (w : World) (os : OsState), Yf ⟨⟨Array.mk (L w.params), life⟩, Array.mk [], d, k, os⟩ = Ya w) :
    LeftO p q loose Xt Yf Ya N := fun w => by
  obtain ⟨⟨h, gs, d, k, os⟩, e1, e2⟩ := Option.map_eq_some_iff.mp (boot_open e hN f w)
  obtain ⟨rfl, rfl, rfl, rfl⟩ : h = boot_heap w.params ∧ gs = Array.mk [] ∧ d = boot_drawn ∧ k = boot_toks := by simpa using e2
  obtain ⟨z1, z2, z3⟩ : _ ∧ _ ∧ _ := by simpa only [Prod.mk.injEq] using size w.params
  have r1 := run w os
  rw [← Fast.te6613529449190102663, ← Fast.te10156331382660048174, ← Fast.te11892475500146522536, ← Fast.te14364793385576792824] at r1
  have r := topRun_of r1
  unfold SharedT.abs at r
  dsimp only at r
  rw [← tr, fin] at r
  unfold openEnds
  rw [e1]
  show (topFrom treeTable p w N _).map _ = _
  unfold topFrom
  dsimp only
  rw [z1, z2, z3, r]
  show Option.map _ (match staticsOk (importedModules p.main.body) (boot_heap w.params) _ && namesBound p _ && gensDone _ && laidKept (boot_heap w.params) _ with | true => _ | false => _) = _
  rw [stat w os]
  exact congrArg some (Prod.ext (seen w os) (obs w os))
theorem lf_e : opening PySem.Challenge.pw_no0408_01 = plainProg PySem.Challenge.pw_no0408_01.main.scope.names := by kernel_rfl
theorem lf_f (s) : fenceModules? PySem.Challenge.pw_no0408_01 s = some s := by kernel_rfl
theorem lf_tr (P) : boot_heap P = absHeap (treeOf (boot_heap P).objs.toList 0 .nil) 11 (boot_heap P).life := by kernel_rfl
theorem lf_size (P : Params) : ((boot_heap P).isNs mainGlobals, (boot_heap P).objs.size, (boot_heap P).nsMap mainGlobals "__annotations__") = (true, 11, some (.ref 6)) := by kernel_rfl
noncomputable def fin_rest (P : Params) : Frag := [
  (0, boot_o_0 P),
  (1, ⟨.type "dict", none, .dict #[de P "builtins" 162 (.ref 4), de P "__main__" 163 (.ref 5)] 2, #[]⟩),
  (4, ⟨.type "module", (some 0), .plain, #[]⟩),
  (5, ⟨.type "module", (some 3), .plain, #[]⟩),
  (6, ⟨.type "dict", none, .dict #[] 0, #[]⟩),
  (7, ⟨.type "tuple", none, .seq #[] 0, #[]⟩),
  (8, ⟨.none, none, .fields #[], #[]⟩),
  (9, ⟨.type "code", none, .fields #[.str "<module>" 176, .str "<module>" 177, .str "/claim/cut.py" 178, .int 1 0, .int 0 0, .int 0 0, .int 0 0, .int 0 0, .ref 7, .bool false, .int 175 0, .ref 8, .none, .none, .none, .none, .int 179 0, .int 1 0, .str "/claim/cut.py" 180], #[]⟩),
  (10, ⟨.type "frame", none, .plain, #[(some (.ref 9)), (some (.ref 3)), (some (.ref 3)), none, (some (.str "__main__" 164)), none, (some (.ref 0))]⟩),
  (11, ⟨.type "tuple", none, .seq #[] 0, #[]⟩),
  (12, ⟨.none, none, .fields #[.int 1 0, .int 0 0, .ref 20, .int 5 0, .int 0 0, .ref 27, .int 7 0, .int 0 0, .ref 40, .int 9 0, .int 0 0, .ref 52, .int 11 0, .int 0 0, .ref 64, .int 13 0, .int 0 0, .ref 76, .int 17 0, .int 0 0, .ref 88, .int 34 0, .int 0 0, .ref 95, .int 38 0, .int 0 0, .ref 102, .int 43 0, .int 0 0, .ref 109, .int 88 0, .int 0 0, .ref 158, .int 207 0, .int 0 0, .ref 270, .int 224 0, .int 0 0, .ref 312, .int 235 0, .int 0 0, .ref 345, .int 239 0, .int 0 0, .ref 350, .int 245 0, .int 0 0, .ref 357, .int 249 0, .int 0 0, .ref 362, .int 251 0, .int 0 0, .ref 367, .int 253 0, .int 0 0, .ref 374, .int 258 0, .int 0 0, .ref 381, .int 263 0, .int 0 0, .ref 386, .int 286 0, .int 0 0, .ref 391, .int 304 0, .int 0 0, .ref 398, .int 315 0, .int 0 0, .ref 405, .int 327 0, .int 0 0, .ref 410, .int 358 0, .int 0 0, .ref 417, .int 362 0, .int 0 0, .ref 424, .int 367 0, .int 0 0, .ref 431, .int 390 0, .int 0 0, .ref 438, .int 407 0, .int 0 0, .ref 445, .int 422 0, .int 0 0, .ref 450, .int 430 0, .int 0 0, .ref 455], #[]⟩),
  (13, ⟨.type "code", none, .fields #[.str "<module>" 182, .str "<module>" 183, .str "/claim/cut.py" 184, .int 1 0, .int 0 0, .int 0 0, .int 0 0, .int 0 0, .ref 11, .bool false, .int 181 0, .ref 12, .none, .none, .none, .none, .int 185 0, .int 1 0, .str "/claim/cut.py" 186], #[]⟩),
  (14, ⟨.type "frame", none, .plain, #[(some (.ref 13)), (some (.ref 3)), (some (.ref 3)), none, (some (.str "__main__" 164)), none, (some (.ref 0))]⟩),
  (16, ⟨.none, none, .fields #[], #[]⟩),
  (19, ⟨.none, none, .func (fo "_wall" "_wall" (stA 0) 0 .none .none .none .none none .none .none 0 []), #[]⟩),
  (23, ⟨.type "builtin_function_or_method", none, .fields #[.builtin "type.__prepare__", .type "type"], #[]⟩),
  (24, ⟨.type "dict", none, .dict #[de P "__module__" 203 (.str "raftkeep.errors" 194), de P "__qualname__" 205 (.str "KeepError" 204), de P "__firstlineno__" 207 (.int 5 206), de P "__static_attributes__" 208 (.ref 29)] 4, #[]⟩),
  (25, ⟨.type "tuple", none, .seq #[] 0, #[]⟩),
  (26, ⟨.none, none, .fields #[], #[]⟩),
  (27, ⟨.type "code", none, .fields #[.str "KeepError" 198, .str "KeepError" 199, .str "/claim/cut.py" 200, .int 5 0, .int 0 0, .int 0 0, .int 0 0, .int 0 0, .ref 25, .bool false, .int 181 0, .ref 26, .none, .none, .none, .none, .int 201 0, .int 5 0, .str "/claim/cut.py" 202], #[]⟩),
  (28, ⟨.type "frame", none, .plain, #[(some (.ref 27)), (some (.ref 3)), (some (.ref 24)), none, (some (.str "raftkeep.errors" 194)), none, (some (.ref 0))]⟩),
  (33, ⟨.type "super", none, .fields #[.ref 31, .ref 31, .ref 31], #[]⟩),
  (34, ⟨.type "builtin_function_or_method", none, .fields #[.builtin "object.__init_subclass__", .ref 31], #[]⟩),
  (36, ⟨.type "builtin_function_or_method", none, .fields #[.builtin "type.__prepare__", .type "type"], #[]⟩),
  (37, ⟨.type "dict", none, .dict #[de P "__module__" 223 (.str "raftkeep.errors" 194), de P "__qualname__" 225 (.str "StoreError" 224), de P "__firstlineno__" 227 (.int 7 226), de P "__static_attributes__" 228 (.ref 42)] 4, #[]⟩),
  (38, ⟨.type "tuple", none, .seq #[] 0, #[]⟩),
  (39, ⟨.none, none, .fields #[], #[]⟩),
  (40, ⟨.type "code", none, .fields #[.str "StoreError" 218, .str "StoreError" 219, .str "/claim/cut.py" 220, .int 7 0, .int 0 0, .int 0 0, .int 0 0, .int 0 0, .ref 38, .bool false, .int 181 0, .ref 39, .none, .none, .none, .none, .int 221 0, .int 7 0, .str "/claim/cut.py" 222], #[]⟩),
  (41, ⟨.type "frame", none, .plain, #[(some (.ref 40)), (some (.ref 3)), (some (.ref 37)), none, (some (.str "raftkeep.errors" 194)), none, (some (.ref 0))]⟩),
  (45, ⟨.type "super", none, .fields #[.ref 44, .ref 44, .ref 44], #[]⟩),
  (46, ⟨.type "builtin_function_or_method", none, .fields #[.builtin "object.__init_subclass__", .ref 44], #[]⟩),
  (48, ⟨.type "builtin_function_or_method", none, .fields #[.builtin "type.__prepare__", .type "type"], #[]⟩),
  (49, ⟨.type "dict", none, .dict #[de P "__module__" 239 (.str "raftkeep.errors" 194), de P "__qualname__" 241 (.str "Corrupt" 240), de P "__firstlineno__" 243 (.int 9 242), de P "__static_attributes__" 244 (.ref 54)] 4, #[]⟩),
  (50, ⟨.type "tuple", none, .seq #[] 0, #[]⟩),
  (51, ⟨.none, none, .fields #[], #[]⟩),
  (52, ⟨.type "code", none, .fields #[.str "Corrupt" 234, .str "Corrupt" 235, .str "/claim/cut.py" 236, .int 9 0, .int 0 0, .int 0 0, .int 0 0, .int 0 0, .ref 50, .bool false, .int 181 0, .ref 51, .none, .none, .none, .none, .int 237 0, .int 9 0, .str "/claim/cut.py" 238], #[]⟩),
  (53, ⟨.type "frame", none, .plain, #[(some (.ref 52)), (some (.ref 3)), (some (.ref 49)), none, (some (.str "raftkeep.errors" 194)), none, (some (.ref 0))]⟩),
  (57, ⟨.type "super", none, .fields #[.ref 56, .ref 56, .ref 56], #[]⟩),
  (58, ⟨.type "builtin_function_or_method", none, .fields #[.builtin "object.__init_subclass__", .ref 56], #[]⟩),
  (60, ⟨.type "builtin_function_or_method", none, .fields #[.builtin "type.__prepare__", .type "type"], #[]⟩),
  (61, ⟨.type "dict", none, .dict #[de P "__module__" 255 (.str "raftkeep.errors" 194), de P "__qualname__" 257 (.str "ShortOctets" 256), de P "__firstlineno__" 259 (.int 11 258), de P "__static_attributes__" 260 (.ref 66)] 4, #[]⟩),
  (62, ⟨.type "tuple", none, .seq #[] 0, #[]⟩),
  (63, ⟨.none, none, .fields #[], #[]⟩),
  (64, ⟨.type "code", none, .fields #[.str "ShortOctets" 250, .str "ShortOctets" 251, .str "/claim/cut.py" 252, .int 11 0, .int 0 0, .int 0 0, .int 0 0, .int 0 0, .ref 62, .bool false, .int 181 0, .ref 63, .none, .none, .none, .none, .int 253 0, .int 11 0, .str "/claim/cut.py" 254], #[]⟩),
  (65, ⟨.type "frame", none, .plain, #[(some (.ref 64)), (some (.ref 3)), (some (.ref 61)), none, (some (.str "raftkeep.errors" 194)), none, (some (.ref 0))]⟩),
  (69, ⟨.type "super", none, .fields #[.ref 68, .ref 68, .ref 68], #[]⟩),
  (70, ⟨.type "builtin_function_or_method", none, .fields #[.builtin "object.__init_subclass__", .ref 68], #[]⟩),
  (72, ⟨.type "builtin_function_or_method", none, .fields #[.builtin "type.__prepare__", .type "type"], #[]⟩),
  (73, ⟨.type "dict", none, .dict #[de P "__module__" 271 (.str "raftkeep.errors" 194), de P "__qualname__" 273 (.str "IterMisuse" 272), de P "__firstlineno__" 275 (.int 13 274), de P "__static_attributes__" 276 (.ref 78)] 4, #[]⟩),
  (74, ⟨.type "tuple", none, .seq #[] 0, #[]⟩),
  (75, ⟨.none, none, .fields #[], #[]⟩),
  (76, ⟨.type "code", none, .fields #[.str "IterMisuse" 266, .str "IterMisuse" 267, .str "/claim/cut.py" 268, .int 13 0, .int 0 0, .int 0 0, .int 0 0, .int 0 0, .ref 74, .bool false, .int 181 0, .ref 75, .none, .none, .none, .none, .int 269 0, .int 13 0, .str "/claim/cut.py" 270], #[]⟩),
  (77, ⟨.type "frame", none, .plain, #[(some (.ref 76)), (some (.ref 3)), (some (.ref 73)), none, (some (.str "raftkeep.errors" 194)), none, (some (.ref 0))]⟩),
  (81, ⟨.type "super", none, .fields #[.ref 80, .ref 80, .ref 80], #[]⟩),
  (82, ⟨.type "builtin_function_or_method", none, .fields #[.builtin "object.__init_subclass__", .ref 80], #[]⟩),
  (84, ⟨.none, none, .fields #[], #[]⟩),
  (87, ⟨.none, none, .func (fo "read_groups" "read_groups" (stA 9) 0 .none .none .none .none none .none .none 0 []), #[]⟩),
  (91, ⟨.none, none, .fields #[], #[]⟩),
  (94, ⟨.none, none, .func (fo "read_varint32" "read_varint32" (stA 10) 0 .none .none .none .none none .none .none 0 []), #[]⟩),
  (98, ⟨.none, none, .fields #[], #[]⟩),
  (101, ⟨.none, none, .func (fo "read_fixed32" "read_fixed32" (stA 11) 0 .none .none .none .none none .none .none 0 []), #[]⟩),
  (104, ⟨.type "tuple", none, .seq #[] 0, #[]⟩),
  (105, ⟨.type "builtin_function_or_method", none, .fields #[.builtin "type.__prepare__", .type "type"], #[]⟩),
  (106, ⟨.type "dict", none, .dict #[de P "__module__" 323 (.str "raftkeep.blocks" 314), de P "__qualname__" 325 (.str "Block" 324), de P "__firstlineno__" 327 (.int 43 326), de P "__init__" 340 (.ref 117), de P "count_restarts" 347 (.ref 124), de P "walk" 354 (.ref 131), de P "entry_at" 368 (.ref 138), de P "restart_key" 380 (.ref 145), de P "__static_attributes__" 385 (.ref 146)] 9, #[]⟩),
  (107, ⟨.type "tuple", none, .seq #[] 0, #[]⟩),
  (108, ⟨.none, none, .fields #[.int 45 0, .int 4 0, .ref 116, .int 67 0, .int 4 0, .ref 123, .int 70 0, .int 4 0, .ref 130, .int 73 0, .int 4 0, .ref 137, .int 83 0, .int 4 0, .ref 144], #[]⟩),
  (109, ⟨.type "code", none, .fields #[.str "Block" 318, .str "Block" 319, .str "/claim/cut.py" 320, .int 43 0, .int 0 0, .int 0 0, .int 0 0, .int 0 0, .ref 107, .bool false, .int 181 0, .ref 108, .none, .none, .none, .none, .int 321 0, .int 43 0, .str "/claim/cut.py" 322], #[]⟩),
  (110, ⟨.type "frame", none, .plain, #[(some (.ref 109)), (some (.ref 3)), (some (.ref 106)), none, (some (.str "raftkeep.blocks" 314)), none, (some (.ref 0))]⟩),
  (112, ⟨.none, none, .fields #[], #[]⟩),
  (115, ⟨.none, none, .func (fo "__init__" "Block.__init__" (stC 13 0) 0 .none .none .none .none none .none .none 0 []), #[]⟩),
  (119, ⟨.none, none, .fields #[], #[]⟩),
  (122, ⟨.none, none, .func (fo "count_restarts" "Block.count_restarts" (stC 13 1) 0 .none .none .none .none none .none .none 0 []), #[]⟩),
  (126, ⟨.none, none, .fields #[], #[]⟩),
  (129, ⟨.none, none, .func (fo "walk" "Block.walk" (stC 13 2) 0 .none .none .none .none none .none .none 0 []), #[]⟩),
  (133, ⟨.none, none, .fields #[], #[]⟩),
  (136, ⟨.none, none, .func (fo "entry_at" "Block.entry_at" (stC 13 3) 0 .none .none .none .none none .none .none 0 []), #[]⟩),
  (140, ⟨.none, none, .fields #[], #[]⟩),
  (143, ⟨.none, none, .func (fo "restart_key" "Block.restart_key" (stC 13 4) 0 .none .none .none .none none .none .none 0 []), #[]⟩),
  (151, ⟨.type "super", none, .fields #[.ref 148, .ref 148, .ref 148], #[]⟩),
  (152, ⟨.type "builtin_function_or_method", none, .fields #[.builtin "object.__init_subclass__", .ref 148], #[]⟩),
  (153, ⟨.type "tuple", none, .seq #[] 0, #[]⟩),
  (154, ⟨.type "builtin_function_or_method", none, .fields #[.builtin "type.__prepare__", .type "type"], #[]⟩),
  (155, ⟨.type "dict", none, .dict #[de P "__module__" 400 (.str "raftkeep.blocks" 314), de P "__qualname__" 402 (.str "BlockIter" 401), de P "__firstlineno__" 404 (.int 88 403), de P "__init__" 412 (.ref 166), de P "lose" 419 (.ref 173), de P "need" 426 (.ref 180), de P "valid" 433 (.ref 187), de P "key" 440 (.ref 194), de P "value" 447 (.ref 201), de P "go_restart" 455 (.ref 208), de P "parse" 469 (.ref 215), de P "seek_first" 476 (.ref 222), de P "seek_last" 483 (.ref 229), de P "seek" 491 (.ref 236), de P "narrow" 505 (.ref 243), de P "step" 512 (.ref 250), de P "back" 521 (.ref 257), de P "__static_attributes__" 529 (.ref 258)] 18, #[]⟩),
  (156, ⟨.type "tuple", none, .seq #[] 0, #[]⟩),
  (157, ⟨.none, none, .fields #[.int 90 0, .int 4 0, .ref 165, .int 99 0, .int 4 0, .ref 172, .int 104 0, .int 4 0, .ref 179, .int 108 0, .int 4 0, .ref 186, .int 111 0, .int 4 0, .ref 193, .int 115 0, .int 4 0, .ref 200, .int 119 0, .int 4 0, .ref 207, .int 124 0, .int 4 0, .ref 214, .int 146 0, .int 4 0, .ref 221, .int 150 0, .int 4 0, .ref 228, .int 156 0, .int 4 0, .ref 235, .int 163 0, .int 4 0, .ref 242, .int 189 0, .int 4 0, .ref 249, .int 193 0, .int 4 0, .ref 256], #[]⟩),
  (158, ⟨.type "code", none, .fields #[.str "BlockIter" 395, .str "BlockIter" 396, .str "/claim/cut.py" 397, .int 88 0, .int 0 0, .int 0 0, .int 0 0, .int 0 0, .ref 156, .bool false, .int 181 0, .ref 157, .none, .none, .none, .none, .int 398 0, .int 88 0, .str "/claim/cut.py" 399], #[]⟩),
  (159, ⟨.type "frame", none, .plain, #[(some (.ref 158)), (some (.ref 3)), (some (.ref 155)), none, (some (.str "raftkeep.blocks" 314)), none, (some (.ref 0))]⟩),
  (161, ⟨.none, none, .fields #[], #[]⟩),
  (164, ⟨.none, none, .func (fo "__init__" "BlockIter.__init__" (stC 14 0) 0 .none .none .none .none none .none .none 0 []), #[]⟩),
  (168, ⟨.none, none, .fields #[], #[]⟩),
  (171, ⟨.none, none, .func (fo "lose" "BlockIter.lose" (stC 14 1) 0 .none .none .none .none none .none .none 0 []), #[]⟩),
  (175, ⟨.none, none, .fields #[], #[]⟩),
  (178, ⟨.none, none, .func (fo "need" "BlockIter.need" (stC 14 2) 0 .none .none .none .none none .none .none 0 []), #[]⟩),
  (182, ⟨.none, none, .fields #[], #[]⟩),
  (185, ⟨.none, none, .func (fo "valid" "BlockIter.valid" (stC 14 3) 0 .none .none .none .none none .none .none 0 []), #[]⟩),
  (189, ⟨.none, none, .fields #[], #[]⟩),
  (192, ⟨.none, none, .func (fo "key" "BlockIter.key" (stC 14 4) 0 .none .none .none .none none .none .none 0 []), #[]⟩),
  (196, ⟨.none, none, .fields #[], #[]⟩),
  (199, ⟨.none, none, .func (fo "value" "BlockIter.value" (stC 14 5) 0 .none .none .none .none none .none .none 0 []), #[]⟩),
  (203, ⟨.none, none, .fields #[], #[]⟩),
  (206, ⟨.none, none, .func (fo "go_restart" "BlockIter.go_restart" (stC 14 6) 0 .none .none .none .none none .none .none 0 []), #[]⟩),
  (210, ⟨.none, none, .fields #[], #[]⟩),
  (213, ⟨.none, none, .func (fo "parse" "BlockIter.parse" (stC 14 7) 0 .none .none .none .none none .none .none 0 []), #[]⟩),
  (217, ⟨.none, none, .fields #[], #[]⟩),
  (220, ⟨.none, none, .func (fo "seek_first" "BlockIter.seek_first" (stC 14 8) 0 .none .none .none .none none .none .none 0 []), #[]⟩),
  (224, ⟨.none, none, .fields #[], #[]⟩),
  (227, ⟨.none, none, .func (fo "seek_last" "BlockIter.seek_last" (stC 14 9) 0 .none .none .none .none none .none .none 0 []), #[]⟩),
  (231, ⟨.none, none, .fields #[], #[]⟩),
  (234, ⟨.none, none, .func (fo "seek" "BlockIter.seek" (stC 14 10) 0 .none .none .none .none none .none .none 0 []), #[]⟩),
  (238, ⟨.none, none, .fields #[], #[]⟩),
  (241, ⟨.none, none, .func (fo "narrow" "BlockIter.narrow" (stC 14 11) 0 .none .none .none .none none .none .none 0 []), #[]⟩),
  (245, ⟨.none, none, .fields #[], #[]⟩),
  (248, ⟨.none, none, .func (fo "step" "BlockIter.step" (stC 14 12) 0 .none .none .none .none none .none .none 0 []), #[]⟩),
  (252, ⟨.none, none, .fields #[], #[]⟩),
  (255, ⟨.none, none, .func (fo "back" "BlockIter.back" (stC 14 13) 0 .none .none .none .none none .none .none 0 []), #[]⟩),
  (263, ⟨.type "super", none, .fields #[.ref 260, .ref 260, .ref 260], #[]⟩),
  (264, ⟨.type "builtin_function_or_method", none, .fields #[.builtin "object.__init_subclass__", .ref 260], #[]⟩),
  (265, ⟨.type "tuple", none, .seq #[] 0, #[]⟩),
  (266, ⟨.type "builtin_function_or_method", none, .fields #[.builtin "type.__prepare__", .type "type"], #[]⟩),
  (267, ⟨.type "dict", none, .dict #[de P "__module__" 546 (.str "raftkeep.keys" 537), de P "__qualname__" 548 (.str "Order" 547), de P "__firstlineno__" 550 (.int 207 549), de P "compare" 559 (.ref 278), de P "separator" 568 (.ref 285), de P "successor" 576 (.ref 292), de P "name" 583 (.ref 299), de P "__static_attributes__" 584 (.ref 300)] 8, #[]⟩),
  (268, ⟨.type "tuple", none, .seq #[] 0, #[]⟩),
  (269, ⟨.none, none, .fields #[.int 209 0, .int 4 0, .ref 277, .int 216 0, .int 4 0, .ref 284, .int 219 0, .int 4 0, .ref 291, .int 222 0, .int 4 0, .ref 298], #[]⟩),
  (270, ⟨.type "code", none, .fields #[.str "Order" 541, .str "Order" 542, .str "/claim/cut.py" 543, .int 207 0, .int 0 0, .int 0 0, .int 0 0, .int 0 0, .ref 268, .bool false, .int 181 0, .ref 269, .none, .none, .none, .none, .int 544 0, .int 207 0, .str "/claim/cut.py" 545], #[]⟩),
  (271, ⟨.type "frame", none, .plain, #[(some (.ref 270)), (some (.ref 3)), (some (.ref 267)), none, (some (.str "raftkeep.keys" 537)), none, (some (.ref 0))]⟩),
  (273, ⟨.none, none, .fields #[], #[]⟩),
  (276, ⟨.none, none, .func (fo "compare" "Order.compare" (stC 16 0) 0 .none .none .none .none none .none .none 0 []), #[]⟩),
  (280, ⟨.none, none, .fields #[], #[]⟩),
  (283, ⟨.none, none, .func (fo "separator" "Order.separator" (stC 16 1) 0 .none .none .none .none none .none .none 0 []), #[]⟩),
  (287, ⟨.none, none, .fields #[], #[]⟩),
  (290, ⟨.none, none, .func (fo "successor" "Order.successor" (stC 16 2) 0 .none .none .none .none none .none .none 0 []), #[]⟩),
  (294, ⟨.none, none, .fields #[], #[]⟩),
  (297, ⟨.none, none, .func (fo "name" "Order.name" (stC 16 3) 0 .none .none .none .none none .none .none 0 []), #[]⟩),
  (305, ⟨.type "super", none, .fields #[.ref 302, .ref 302, .ref 302], #[]⟩),
  (306, ⟨.type "builtin_function_or_method", none, .fields #[.builtin "object.__init_subclass__", .ref 302], #[]⟩),
  (308, ⟨.type "builtin_function_or_method", none, .fields #[.builtin "type.__prepare__", .type "type"], #[]⟩),
  (309, ⟨.type "dict", none, .dict #[de P "__module__" 599 (.str "raftkeep.keys" 537), de P "__qualname__" 601 (.str "BytesOrder" 600), de P "__firstlineno__" 603 (.int 224 602), de P "separator" 612 (.ref 320), de P "successor" 620 (.ref 327), de P "name" 627 (.ref 334), de P "__static_attributes__" 628 (.ref 335)] 7, #[]⟩),
  (310, ⟨.type "tuple", none, .seq #[] 0, #[]⟩),
  (311, ⟨.none, none, .fields #[.int 226 0, .int 4 0, .ref 319, .int 229 0, .int 4 0, .ref 326, .int 232 0, .int 4 0, .ref 333], #[]⟩),
  (312, ⟨.type "code", none, .fields #[.str "BytesOrder" 594, .str "BytesOrder" 595, .str "/claim/cut.py" 596, .int 224 0, .int 0 0, .int 0 0, .int 0 0, .int 0 0, .ref 310, .bool false, .int 181 0, .ref 311, .none, .none, .none, .none, .int 597 0, .int 224 0, .str "/claim/cut.py" 598], #[]⟩),
  (313, ⟨.type "frame", none, .plain, #[(some (.ref 312)), (some (.ref 3)), (some (.ref 309)), none, (some (.str "raftkeep.keys" 537)), none, (some (.ref 0))]⟩),
  (315, ⟨.none, none, .fields #[], #[]⟩),
  (318, ⟨.none, none, .func (fo "separator" "BytesOrder.separator" (stC 17 0) 0 .none .none .none .none none .none .none 0 []), #[]⟩),
  (322, ⟨.none, none, .fields #[], #[]⟩),
  (325, ⟨.none, none, .func (fo "successor" "BytesOrder.successor" (stC 17 1) 0 .none .none .none .none none .none .none 0 []), #[]⟩),
  (329, ⟨.none, none, .fields #[], #[]⟩),
  (332, ⟨.none, none, .func (fo "name" "BytesOrder.name" (stC 17 2) 0 .none .none .none .none none .none .none 0 []), #[]⟩),
  (338, ⟨.type "super", none, .fields #[.ref 337, .ref 337, .ref 337], #[]⟩),
  (339, ⟨.type "builtin_function_or_method", none, .fields #[.builtin "object.__init_subclass__", .ref 337], #[]⟩),
  (341, ⟨.none, none, .fields #[], #[]⟩),
  (344, ⟨.none, none, .func (fo "_law_take" "_law_take" (stA 19) 0 .none .none .none .none none .none .none 0 []), #[]⟩),
  (348, ⟨.none, none, .fields #[], #[]⟩),
  (349, ⟨.none, none, .func (fo "_law_word" "_law_word" (stA 20) 0 .none .none .none .none none .none .none 0 []), #[]⟩),
  (353, ⟨.none, none, .fields #[], #[]⟩),
  (356, ⟨.none, none, .func (fo "_law_put" "_law_put" (stA 21) 0 .none .none .none .none none .none .none 0 []), #[]⟩),
  (360, ⟨.none, none, .fields #[], #[]⟩),
  (361, ⟨.none, none, .func (fo "_law_fix" "_law_fix" (stA 22) 0 .none .none .none .none none .none .none 0 []), #[]⟩),
  (365, ⟨.none, none, .fields #[], #[]⟩),
  (366, ⟨.none, none, .func (fo "_law_num" "_law_num" (stA 23) 0 .none .none .none .none none .none .none 0 []), #[]⟩),
  (370, ⟨.none, none, .fields #[], #[]⟩),
  (373, ⟨.none, none, .func (fo "_law_common" "_law_common" (stA 24) 0 .none .none .none .none none .none .none 0 []), #[]⟩),
  (377, ⟨.none, none, .fields #[], #[]⟩),
  (380, ⟨.none, none, .func (fo "_law_close" "_law_close" (stA 25) 0 .none .none .none .none none .none .none 0 []), #[]⟩),
  (384, ⟨.none, none, .fields #[], #[]⟩),
  (385, ⟨.none, none, .func (fo "_law_made" "_law_made" (stA 26) 0 .none .none .none .none none .none .none 0 []), #[]⟩),
  (389, ⟨.none, none, .fields #[], #[]⟩),
  (390, ⟨.none, none, .func (fo "_law_octets" "_law_octets" (stA 27) 0 .none .none .none .none none .none .none 0 []), #[]⟩),
  (394, ⟨.none, none, .fields #[], #[]⟩),
  (397, ⟨.none, none, .func (fo "_law_var" "_law_var" (stA 28) 0 .none .none .none .none none .none .none 0 []), #[]⟩),
  (401, ⟨.none, none, .fields #[], #[]⟩),
  (404, ⟨.none, none, .func (fo "_law_entry" "_law_entry" (stA 29) 0 .none .none .none .none none .none .none 0 []), #[]⟩),
  (408, ⟨.none, none, .fields #[], #[]⟩),
  (409, ⟨.none, none, .func (fo "_law_runs" "_law_runs" (stA 30) 0 .none .none .none .none none .none .none 0 []), #[]⟩),
  (413, ⟨.none, none, .fields #[], #[]⟩),
  (416, ⟨.none, none, .func (fo "_law_front" "_law_front" (stA 31) 0 .none .none .none .none none .none .none 0 []), #[]⟩),
  (420, ⟨.none, none, .fields #[], #[]⟩),
  (423, ⟨.none, none, .func (fo "_law_rear" "_law_rear" (stA 32) 0 .none .none .none .none none .none .none 0 []), #[]⟩),
  (427, ⟨.none, none, .fields #[], #[]⟩),
  (430, ⟨.none, none, .func (fo "_law_after" "_law_after" (stA 33) 0 .none .none .none .none none .none .none 0 []), #[]⟩),
  (434, ⟨.none, none, .fields #[], #[]⟩),
  (437, ⟨.none, none, .func (fo "_law_move" "_law_move" (stA 34) 0 .none .none .none .none none .none .none 0 []), #[]⟩),
  (441, ⟨.none, none, .fields #[], #[]⟩),
  (444, ⟨.none, none, .func (fo "_law_stands" "_law_stands" (stA 35) 0 .none .none .none .none none .none .none 0 []), #[]⟩),
  (448, ⟨.none, none, .fields #[], #[]⟩),
  (449, ⟨.none, none, .func (fo "_law_sought" "_law_sought" (stA 36) 0 .none .none .none .none none .none .none 0 []), #[]⟩),
  (453, ⟨.none, none, .fields #[], #[]⟩),
  (454, ⟨.none, none, .func (fo "law" "law" (stA 37) 0 .none .none .none .none none .none .none 0 []), #[]⟩)]
noncomputable def fin_L (P : Params) : List Obj := mergeF 457 (hd.heap_39 P) (fin_rest P)
noncomputable def fin_S (w : World) (os : OsState) : Shared := ⟨⟨Array.mk (fin_L w.params), {}⟩, Array.mk [], {}, 792, os⟩
theorem pr9 {A B C D E F G H I : Type} {a a' : A} {b b' : B} {c c' : C} {d d' : D} {e e' : E} {f f' : F} {g g' : G} {h h' : H} {i i' : I} (h1 : a = a') (h2 : b = b') (h3 : c = c') (h4 : d = d') (h5 : e = e') (h6 : f = f') (h7 : g = g') (h8 : h = h') (h9 : i = i') :
    (a, b, c, d, e, f, g, h, i) = (a', b', c', d', e', f', g', h', i') := by rw [h1, h2, h3, h4, h5, h6, h7, h8, h9]
theorem lf_run (w : World) (os : OsState) : topRunT (Fast.tw6613529449190102663 11 (some (.ref 6))) (Fast.tw10156331382660048174 (Fast.tw11892475500146522536 Fast.tw14364793385576792824) PySem.Challenge.pw_no0408_01 w) 7094 ⟨treeOf (boot_heap w.params).objs.toList 0 .nil, 11, (boot_heap w.params).life, Array.mk [], boot_drawn, boot_toks, os⟩ (topStub PySem.Challenge.pw_no0408_01) =
    some ⟨treeOf (fin_L w.params) 0 .nil, 457, {}, Array.mk [], {}, 792, os⟩ := by kernel_rfl
theorem lf_fin (P : Params) : absHeap (treeOf (fin_L P) 0 .nil) 457 {} = ⟨Array.mk (fin_L P), {}⟩ := by kernel_rfl
theorem lf_stat (w : World) (os : OsState) : (staticsOk (importedModules PySem.Challenge.pw_no0408_01.main.body) (boot_heap w.params) (fin_S w os).heap && namesBound PySem.Challenge.pw_no0408_01 (fin_S w os).heap && gensDone (fin_S w os) && laidKept (boot_heap w.params) (fin_S w os).heap) = true := by kernel_rfl
theorem lf_obs (w : World) (os : OsState) : hk.obs (fin_S w os) = hk.val w := by kernel_rfl
theorem lf_s1 (w : World) (os : OsState) : seen ((recsOf hd.view_39).map (·.name)) (ownsOf hd.view_39) [] { fin_S w os with gens := #[] } = expectedOf hd.view_39 := by kernel_rfl
theorem lf_s2 (w : World) (os : OsState) : (fin_S w os).heap.bltView = bltViewBooted := by kernel_rfl
theorem lf_k1 (w : World) (os : OsState) : (fin_S w os).heap.keysOk (looseW hd.view_39 []) ((recsOf hd.view_39).map (·.name)) ((litsOf hd.view_39).map (·.1)) ((clssOf hd.view_39 (looseW hd.view_39 [])).map (·.name)) = true := by kernel_rfl
theorem lf_k2 (w : World) (os : OsState) : (fin_S w os).heap.accountedOkI (importedModules PySem.Challenge.pw_no0408_01.main.body) = true := by kernel_rfl
theorem lf_k3 (w : World) (os : OsState) : (fin_S w os).heap.isNs mainGlobals = true := by kernel_rfl
theorem lf_k4 (w : World) (os : OsState) : (fin_S w os).heap.isNs builtinsNs = true := by kernel_rfl
theorem lf_k5 (w : World) (os : OsState) : tablesOk hd.view_39 (fin_S w os).heap = true := by kernel_rfl
theorem lf_k6 (w : World) (os : OsState) : ((fun s => xlAt hd.view_39 [] s && recOk [] s) (fin_S w os)) = true := by kernel_rfl
theorem lf_k7 (w : World) (os : OsState) : (if true then (fin_S w os).gens.size == 0 else !leftWithCleanup (fin_S w os).gens) = true := by kernel_rfl
theorem lf_s4 (w : World) (os : OsState) : tabsOk hd.view_39 (fin_S w os) = true := by kernel_rfl
theorem lf_s5 (w : World) (os : OsState) : pinSeenD hd.view_39 (drecsOf hd.view_39) (fin_S w os) = pinGoodD (drecsOf hd.view_39) := by kernel_rfl
theorem lf_s6 (w : World) (os : OsState) : plainSeenE hd.view_39 (looseW hd.view_39 []) (fin_S w os) = plainGoodE hd.view_39 (looseW hd.view_39 []) := by kernel_rfl
theorem lf_s7 (w : World) (os : OsState) : plainSeenD hd.view_39 [] (fin_S w os) = plainGoodD hd.view_39 [] := by kernel_rfl
theorem lf_s8 (w : World) (os : OsState) : wideSeen hd.view_39 (fin_S w os) = wideGood hd.view_39 := by kernel_rfl
theorem lf_s9 (w : World) (os : OsState) : clsSeenW hd.view_39 [] (fin_S w os) = clsGoodW hd.view_39 [] := by kernel_rfl
theorem lf_seen (w : World) (os : OsState) : openSeen hd.view_39 [] (importedModules PySem.Challenge.pw_no0408_01.main.body) (fun s => xlAt hd.view_39 [] s && recOk [] s) true (fin_S w os) = openGood hd.view_39 [] := by
  unfold openSeen openGood
  exact pr9 (lf_s1 w os) (lf_s2 w os) (look_both (look_both (look_both (look_both (look_both (look_both (lf_k1 w os) (lf_k2 w os)) (lf_k3 w os)) (lf_k4 w os)) (lf_k5 w os)) (lf_k6 w os)) (lf_k7 w os)) (lf_s4 w os) (lf_s5 w os) (lf_s6 w os) (lf_s7 w os) (lf_s8 w os) (lf_s9 w os)
theorem left : LeftO PySem.Challenge.pw_no0408_01 hd.view_39 [] (fun s => xlAt hd.view_39 [] s && recOk [] s) hk.obs hk.val 7094 :=
  LeftO.of_tree lf_e rfl lf_f lf_tr lf_size lf_run lf_fin lf_stat lf_seen lf_obs
@[reducible] noncomputable def PW : Program := PySem.Challenge.rw_no0408_01.row.prog
@[reducible] noncomputable def LW : OpenLaw := PySem.Challenge.rw_no0408_01
theorem lo0 : sreFenced PW.main = true := by kernel_rfl
theorem lo2 : namesResolve PW = true := by kernel_rfl
theorem lo41 : readsOut PW PW.main.body ("vars" : Str) = false := by kernel_rfl
theorem lo42 : readsOut PW PW.main.body ("dir" : Str) = false := by kernel_rfl
theorem lo43 : readsOut PW PW.main.body ("locals" : Str) = false := by kernel_rfl
theorem fil3 {α : Type} {f : α → Bool} {a b c : α} (h1 : f a = false) (h2 : f b = false) (h3 : f c = false) : [a, b, c].filter f = [] := by simp [h1, h2, h3]
theorem lo4 : noRoadLSs { strict := !(importedModules PW.main.body).all cThrough.contains, foot := none, bare := (["vars", "dir", "locals"] : List Str).filter (readsOut PW PW.main.body) } PW.main.body = true := by
  rw [fil3 lo41 lo42 lo43]; kernel_rfl
theorem lo5 : (namesMeet PW PW.main.body fun _ n => attrL n) = true := by kernel_rfl
theorem lo : looksOpen PW = true := by
  unfold looksOpen
  rw [lo0, lo2, lo4, lo5]
  kernel_rfl
theorem lr : PySem.Challenge.rw_no0408_01.row.wellSaid = true := by
  unfold OpenRow.wellSaid OpenRow.partSaid
  rw [show looksOpen PySem.Challenge.rw_no0408_01.row.prog = true from lo]
  kernel_rfl
theorem ls2 : LW.footing.all footLine = true := by kernel_rfl
theorem ls3 : noClassBlock LW.prog LW.footing = true := by kernel_rfl
theorem ls6 : noRoadLSs { strict := true, foot := some LW.bound', writes := LW.writes, may := LW.may } LW.footing = true := by kernel_rfl
theorem ls7 : defStands LW.about LW.above = true := by kernel_rfl
theorem ls8 : LW.namesIt = true := by kernel_rfl
theorem ls10 : LW.bound'.all (fun n => !builtinNamed n || LW.about == [n] || !LW.reads n) = true := by kernel_rfl
theorem ls13 : namesMeet LW.prog LW.footing (fun sc n => (!(["type", "isinstance", "issubclass", "getattr", "hasattr"] : List Str).contains n || sc.names.lookup n == some .globalImplicit) && (LW.may != some n || sc.kind == .module || sc.names.lookup n == some .globalImplicit)) = true := by kernel_rfl
theorem ls17 : namesMeet LW.prog LW.above (fun _ n => !LW.own.contains n) = true := by kernel_rfl
theorem ls18 : (namesMeet LW.prog LW.footing fun sc n => sc.kind == .module || sc.names.lookup n != some .globalExplicit) = true := by kernel_rfl
theorem law_said : PySem.Challenge.rw_no0408_01.wellSaid = true := by
  unfold OpenLaw.wellSaid
  rw [lr, ls2, ls3, ls6, ls7, ls8, ls10, ls13, ls17, ls18]
  kernel_rfl
theorem hd.opens : (chainsOk hd.view_39 && opensWell PySem.Challenge.rw_no0408_01.row.prog && (frees PySem.Challenge.rw_no0408_01.row.toRowW && PySem.Challenge.rw_no0408_01.row.within.isEmpty)) = true := by kernel_rfl
theorem hd.of (call : ∀ d kwd, defOf hd.view_39 "law" = some (d, kwd) → WalkO hd.view_39 [] (XL hd.view_39 []) (Hook.says hk) PySem.Challenge.rw_no0408_01.row.toRowW d kwd fun f vs => PySem.call f vs) : PySem.Challenge.rw_no0408_01.Holds := by
  refine holds_law law_said fun said => ?_
  refine holds_open (q := hd.view_39) (loose := []) (Xt := fun s => xlAt hd.view_39 [] s && recOk [] s) (XP := XL hd.view_39 []) (Yf := hk.obs) (Ya := hk.val) (YP := hk.says) (N := 7094) left hk.of hk.keeps (fun s e => xl_of s (Bool.and_eq_true_iff.mp e).1) XL.keeps (by rfl) (by rfl) (by rfl) (fun s e => recFacts_of (Bool.and_eq_true_iff.mp e).2) rfl said hd.opens ⟨rfl, rfl, rfl, rfl, rfl, by decide +kernel⟩ ?hw (call _ _ rfl)
  case hw => w_witness2
/-! the plain world: values, cells, the state -/
/-- the handles of the things that change in the law's run -/
inductive Hd where
  | cnt | ord | blk | rst | itr
inductive Cls where
  | order | block | iter
inductive Exn where
  | corrupt | short | misuse

inductive V where
  | none
  | bool (b : Bool)
  | int (i : Int)
  | bytes (b : List UInt8)
  | str
  | tup (vs : List V)
  | lst (vs : List V)
  | rng (lo hi : Int)
  | ref (k : Hd)

inductive Cell where
  | dead
  | lst (p : Bool) (vs : List V)
  | inst (c : Cls) (fs : List (Str × V))
noncomputable def Cell.live : Cell → Prop
  | .dead => False
  | _ => True

structure St where
  cnt : Cell
  ord : Cell
  blk : Cell
  rst : Cell
  itr : Cell
noncomputable def St.get (σ : St) : Hd → Cell
  | .cnt => σ.cnt
  | .ord => σ.ord
  | .blk => σ.blk
  | .rst => σ.rst
  | .itr => σ.itr
noncomputable def St.set (σ : St) : Hd → Cell → St
  | .cnt, c => { σ with cnt := c }
  | .ord, c => { σ with ord := c }
  | .blk, c => { σ with blk := c }
  | .rst, c => { σ with rst := c }
  | .itr, c => { σ with itr := c }
theorem St.get_set_same (σ : St) (k : Hd) (c : Cell) : (σ.set k c).get k = c := by cases k <;> rfl
theorem St.get_set_ne (σ : St) {k k' : Hd} (c : Cell) (h : k' ≠ k) : (σ.set k c).get k' = σ.get k' := by
  cases k <;> cases k' <;> first | rfl | exact absurd rfl h
theorem Hd.em (k k' : Hd) : k = k' ∨ k ≠ k' := by
  cases k <;> cases k' <;> first | exact .inl rfl | exact .inr (fun h => nomatch h)

noncomputable abbrev Loc := List (Str × V)
noncomputable def lk : Loc → Str → Option V
  | [], _ => none
  | (y, v) :: r, x => if y = x then some v else lk r x
noncomputable def stl : Loc → Str → V → Loc
  | [], x, v => [(x, v)]
  | (y, w) :: r, x, v => if y = x then (y, v) :: r else (y, w) :: stl r x v
theorem lk_stl : ∀ (ρ : Loc) (x : Str) (v : V) (y : Str), lk (stl ρ x v) y = if x = y then some v else lk ρ y
  | [], x, v, y => by simp [stl, lk]
  | (z, w) :: r, x, v, y => by
    unfold stl
    by_cases h : z = x
    · subst h; simp only [if_true, lk]
      by_cases q : z = y <;> simp [q]
    · simp only [h, if_false, lk, lk_stl r x v y]
      by_cases q : z = y
      · subst q
        simp [Ne.symm h]
      · simp [q]

/-- what is known of the heap: F the frozen objects; where the handles lie -/
structure Wd where
  F : Addr → Option Obj
  al : Hd → Addr
  dl : Hd → Addr

mutual
noncomputable def Rep (W : Wd) (lv : Hd → Prop) : V → Value → Prop
  | .none, v => v = .none
  | .bool b, v => v = .bool b
  | .int i, v => ∃ t, v = .int i t
  | .bytes b, v => ∃ t, v = .bytes b.toArray t
  | .str, v => ∃ x t, v = .str x t
  | .tup Vs, v => ∃ a o arr n, v = .ref a ∧ W.F a = some o ∧ o.cls = .type "tuple" ∧ o.data = .seq arr n ∧ RepL W lv Vs arr.toList
  | .lst Vs, v => ∃ a o arr n, v = .ref a ∧ W.F a = some o ∧ o.cls = .type "list" ∧ o.data = .seq arr n ∧ True ∧ RepL W lv Vs arr.toList
  | .rng lo hi, v => ∃ a o t u w, v = .ref a ∧ W.F a = some o ∧ o = { cls := .type "range", data := .fields #[.int lo t, .int hi u, .int 1 w] }
  | .ref k, v => v = .ref (W.al k) ∧ lv k
noncomputable def RepL (W : Wd) (lv : Hd → Prop) : List V → List Value → Prop
  | [], vs => vs = []
  | x :: xs, vs => ∃ v r, vs = v :: r ∧ Rep W lv x v ∧ RepL W lv xs r
end

mutual
theorem Rep.mono {W W' : Wd} {lv lv' : Hd → Prop} (hF : ∀ a o, W.F a = some o → W'.F a = some o) (hA : ∀ k, lv k → W'.al k = W.al k ∧ lv' k) : ∀ (x : V) (v : Value), Rep W lv x v → Rep W' lv' x v
  | .none, _, h => h
  | .bool _, _, h => h
  | .int _, _, h => h
  | .bytes _, _, h => h
  | .str, _, h => h
  | .tup Vs, v, h => by
    simp only [Rep] at h ⊢
    obtain ⟨a, o, arr, n, e, f, c, d, r⟩ := h
    exact ⟨a, o, arr, n, e, hF _ _ f, c, d, RepL.mono hF hA Vs _ r⟩
  | .lst Vs, v, h => by
    simp only [Rep] at h ⊢
    obtain ⟨a, o, arr, n, e, f, c, d, d', r⟩ := h
    exact ⟨a, o, arr, n, e, hF _ _ f, c, d, d', RepL.mono hF hA Vs _ r⟩
  | .rng _ _, v, h => by
    simp only [Rep] at h ⊢
    obtain ⟨a, o, t, u, w, e, f, c⟩ := h
    exact ⟨a, o, t, u, w, e, hF _ _ f, c⟩
  | .ref k, v, h => by
    simp only [Rep] at h ⊢
    exact ⟨by rw [(hA k h.2).1]; exact h.1, (hA k h.2).2⟩
theorem RepL.mono {W W' : Wd} {lv lv' : Hd → Prop} (hF : ∀ a o, W.F a = some o → W'.F a = some o) (hA : ∀ k, lv k → W'.al k = W.al k ∧ lv' k) : ∀ (xs : List V) (vs : List Value), RepL W lv xs vs → RepL W' lv' xs vs
  | [], _, h => h
  | x :: xs, vs, h => by
    simp only [RepL] at h ⊢
    obtain ⟨v, r, e, h1, h2⟩ := h
    exact ⟨v, r, e, Rep.mono hF hA x v h1, RepL.mono hF hA xs r h2⟩
end

theorem RepL.length {W : Wd} {lv : Hd → Prop} : ∀ {xs : List V} {vs : List Value}, RepL W lv xs vs → vs.length = xs.length
  | [], _, h => by simp only [RepL] at h; rw [h]; rfl
  | x :: xs, vs, h => by
    simp only [RepL] at h
    obtain ⟨v, r, e, _, h2⟩ := h
    rw [e, List.length_cons, List.length_cons, RepL.length h2]
theorem RepL.get {W : Wd} {lv : Hd → Prop} : ∀ {xs : List V} {vs : List Value} {i : Nat} {x : V}, RepL W lv xs vs → xs[i]? = some x → ∃ v, vs[i]? = some v ∧ Rep W lv x v
  | [], _, i, x, _, e => by simp at e
  | y :: xs, vs, i, x, h, e => by
    simp only [RepL] at h
    obtain ⟨v, r, rfl, h1, h2⟩ := h
    cases i with
    | zero => simp at e; subst e; exact ⟨v, rfl, h1⟩
    | succ i => simp at e; simpa using RepL.get h2 e
theorem RepL.append {W : Wd} {lv : Hd → Prop} : ∀ {xs ys : List V} {vs ws : List Value}, RepL W lv xs vs → RepL W lv ys ws → RepL W lv (xs ++ ys) (vs ++ ws)
  | [], ys, vs, ws, h, h' => by simp only [RepL] at h; subst h; exact h'
  | x :: xs, ys, vs, ws, h, h' => by
    simp only [RepL] at h
    obtain ⟨v, r, rfl, h1, h2⟩ := h
    simp only [List.cons_append, RepL]
    exact ⟨v, r ++ ws, rfl, h1, RepL.append h2 h'⟩
theorem RepL.set {W : Wd} {lv : Hd → Prop} : ∀ {xs : List V} {vs : List Value} {x : V} {v : Value} {i : Nat}, RepL W lv xs vs → Rep W lv x v → RepL W lv (xs.set i x) (vs.set i v)
  | [], _, x, v, i, h, _ => by simp only [RepL] at h; subst h; simp [RepL]
  | y :: xs, vs, x, v, i, h, r => by
    simp only [RepL] at h
    obtain ⟨w, ws, rfl, h1, h2⟩ := h
    cases i with
    | zero => simp only [List.set_cons_zero, RepL]; exact ⟨v, ws, rfl, r, h2⟩
    | succ i => simp only [List.set_cons_succ, RepL]; exact ⟨w, _, rfl, h1, RepL.set h2 r⟩
theorem RepL.nil {W : Wd} {lv : Hd → Prop} : RepL W lv [] [] := by simp only [RepL]
theorem RepL.cons {W : Wd} {lv : Hd → Prop} {x : V} {xs : List V} {v : Value} {vs : List Value} (h : Rep W lv x v) (h' : RepL W lv xs vs) : RepL W lv (x :: xs) (v :: vs) := by
  simp only [RepL]; exact ⟨v, vs, rfl, h, h'⟩

/-! objects that are the same up to their slots, or as tables of names -/
noncomputable def NsObj (o : Obj) (m : Str → Option Value) : Prop := ∃ es ep, o.data = .dict es ep ∧ StrKeys es ∧ ∀ name, nsFind es name = m name
noncomputable def Same (o o' : Obj) : Prop := o' = o ∨ (∃ m, NsObj o m ∧ NsObj o' m)
theorem Same.refl (o : Obj) : Same o o := .inl rfl
theorem NsObj.slots {o : Obj} {m} (h : NsObj o m) (sl) : NsObj { o with slots := sl } m := h
theorem NsObj.inj {o : Obj} {m m'} (h : NsObj o m) (h' : NsObj o m') : m = m' := by
  obtain ⟨es, ep, d, _, f⟩ := h
  obtain ⟨es', ep', d', _, f'⟩ := h'
  rw [d] at d'; cases d'
  funext x; rw [← f, ← f']
theorem Same.ns {o o' : Obj} {m} (h : Same o o') (n : NsObj o m) : NsObj o' m := by
  rcases h with rfl | ⟨m', a, b⟩
  · exact n
  · rw [n.inj a]; exact b
theorem Same.trans {a b c : Obj} (h : Same a b) (h' : Same b c) : Same a c := by
  rcases h with rfl | ⟨m, x, y⟩
  · exact h'
  · exact .inr ⟨m, x, h'.ns y⟩
theorem Same.eq {o o' : Obj} (h : Same o o') (hd : ∀ es ep, o.data ≠ .dict es ep) : o' = o := by
  rcases h with h | ⟨m, ⟨es, ep, d, _⟩, _⟩
  · exact h
  · exact absurd d (hd es ep)
theorem Same.data {o o' : Obj} (h : Same o o') (hd : ∀ es ep, o.data ≠ .dict es ep) : o'.data = o.data := by rw [h.eq hd]
theorem ns_iff {h : Heap} {a : Addr} {m} : h.Ns a m ↔ ∃ o, h.get? a = some o ∧ NsObj o m :=
  ⟨fun ⟨o, es, ep, ho, hd, k, f⟩ => ⟨o, ho, es, ep, hd, k, f⟩, fun ⟨o, ho, es, ep, hd, k, f⟩ => ⟨o, es, ep, ho, hd, k, f⟩⟩

noncomputable def exnName : Exn → Str
  | .corrupt => "Corrupt"
  | .short => "ShortOctets"
  | .misuse => "IterMisuse"
/-- is c caught by «except d»? -/
noncomputable def exnSub : Exn → Exn → Bool
  | .corrupt, .corrupt => true
  | .short, .corrupt => true
  | .short, .short => true
  | .misuse, .misuse => true
  | _, _ => false
noncomputable def excBm : List Value := [.type "Exception", .type "BaseException", .type "object"]
noncomputable def fldNames : List Str := ["data", "order", "limit", "restarts", "block", "current", "ahead", "turn", "held_key", "value_from"]
/-! the fixed part: program, world, the written objects -/
set_option genInjectivity false in
set_option genSizeOf false in
structure Uni where
  prog : Program
  w : World
  K : Frag
  g₀ : Heap
  p : Program
  loose : List Str
  mean : ExcName → Option Value
  mg : Str → Option Value
  mb : Str → Option Value
  T : Top p loose mean mg mb g₀
  X : K.In g₀
  cls : Cls → Addr
  exc : Exn → Addr
  getA : ∀ c x, plainGet K (cls c) x = true
  hasD : ∀ c, hasDictIn K (cls c) = true
  setA : ∀ c, findIn K (.ref (cls c)) "__setattr__" = some (some (.builtin "object.__setattr__")) ∧ plainOver K (cls c) = true
  fld : ∀ c, ∀ x ∈ fldNames, findIn K (.ref (cls c)) x = some none
  exn : ∀ c, OwnCls (exnName c) (exc c) excBm "Exception.__new__" mg g₀
  sub : ∀ c d, mroIn K (exc c) (.ref (exc d)) = some (exnSub c d)
  len : mg "len" = none ∧ mb "len" = some (.builtin "len")
  sum : mg "sum" = none ∧ mb "sum" = some (.builtin "sum")
  sorted : mg "sorted" = none ∧ mb "sorted" = some (.builtin "sorted")
  range : mg "range" = none ∧ mb "range" = some (.type "range")
  bytes : mg "bytes" = none ∧ mb "bytes" = some (.type "bytes")
noncomputable abbrev Uni.M (u : Uni) : Model := model u.prog u.w

noncomputable def live (σ : St) (k : Hd) : Prop := (σ.get k).live
noncomputable def MutK (W : Wd) (σ : St) (k : Hd) (a : Addr) : Prop := match σ.get k with
  | .dead => False
  | .lst .. => a = W.al k
  | .inst .. => a = W.al k ∨ a = W.dl k
noncomputable abbrev Rp (W : Wd) (σ : St) (x : V) (v : Value) : Prop := Rep W (live σ) x v
noncomputable abbrev RpL (W : Wd) (σ : St) (x : List V) (v : List Value) : Prop := RepL W (live σ) x v

section
variable {W : Wd} {σ : St} {v : Value}
theorem rp_none : Rp W σ .none .none := by simp only [Rp, Rep]
theorem rp_bool {b : Bool} : Rp W σ (.bool b) (.bool b) := by simp only [Rp, Rep]
theorem rp_int {i : Int} {t : Tok} : Rp W σ (.int i) (.int i t) := by simp only [Rp, Rep]; exact ⟨t, rfl⟩
theorem rp_bytes {b : List UInt8} {t : Tok} : Rp W σ (.bytes b) (.bytes b.toArray t) := by simp only [Rp, Rep]; exact ⟨t, rfl⟩
theorem rp_str {x : Str} {t : Tok} : Rp W σ .str (.str x t) := by simp only [Rp, Rep]; exact ⟨x, t, rfl⟩
theorem rp_noneI (h : Rp W σ .none v) : v = .none := by simpa only [Rp, Rep] using h
theorem rp_boolI {b : Bool} (h : Rp W σ (.bool b) v) : v = .bool b := by simpa only [Rp, Rep] using h
theorem rp_intI {i : Int} (h : Rp W σ (.int i) v) : ∃ t, v = .int i t := by simpa only [Rp, Rep] using h
theorem rp_bytesI {b : List UInt8} (h : Rp W σ (.bytes b) v) : ∃ t, v = .bytes b.toArray t := by simpa only [Rp, Rep] using h
theorem rp_strI (h : Rp W σ .str v) : ∃ x t, v = .str x t := by simpa only [Rp, Rep] using h
theorem rp_tupI {xs : List V} (h : Rp W σ (.tup xs) v) : ∃ a o arr n, v = .ref a ∧ W.F a = some o ∧ o.cls = .type "tuple" ∧ o.data = .seq arr n ∧ RpL W σ xs arr.toList := by simpa only [Rp, Rep] using h
theorem rp_lstI {xs : List V} (h : Rp W σ (.lst xs) v) : ∃ a o arr n, v = .ref a ∧ W.F a = some o ∧ o.cls = .type "list" ∧ o.data = .seq arr n ∧ True ∧ RpL W σ xs arr.toList := by simpa only [Rp, Rep] using h
theorem rp_tup {xs : List V} {a o arr n} (h1 : W.F a = some o) (h2 : o.cls = .type "tuple") (h3 : o.data = .seq arr n) (h4 : RpL W σ xs arr.toList) : Rp W σ (.tup xs) (.ref a) := by
  simp only [Rp, Rep]; exact ⟨a, o, arr, n, rfl, h1, h2, h3, h4⟩
theorem rp_lst {xs : List V} {a o arr n} (h1 : W.F a = some o) (h2 : o.cls = .type "list") (h3 : o.data = .seq arr n) (_h4 : o.dict = none) (h5 : RpL W σ xs arr.toList) : Rp W σ (.lst xs) (.ref a) := by
  simp only [Rp, Rep]; exact ⟨a, o, arr, n, rfl, h1, h2, h3, trivial, h5⟩
theorem rp_lst' {xs : List V} {a o arr n} (h1 : W.F a = some o) (h2 : o.cls = .type "list") (h3 : o.data = .seq arr n) (h5 : RpL W σ xs arr.toList) : Rp W σ (.lst xs) (.ref a) := by
  simp only [Rp, Rep]; exact ⟨a, o, arr, n, rfl, h1, h2, h3, trivial, h5⟩
theorem rp_rngI {lo hi : Int} (h : Rp W σ (.rng lo hi) v) : ∃ a o t u w, v = .ref a ∧ W.F a = some o ∧ o = { cls := .type "range", data := .fields #[.int lo t, .int hi u, .int 1 w] } := by simpa only [Rp, Rep] using h
theorem rp_rng {lo hi : Int} {a t u w} (h1 : W.F a = some { cls := .type "range", data := .fields #[.int lo t, .int hi u, .int 1 w] }) : Rp W σ (.rng lo hi) (.ref a) := by
  simp only [Rp, Rep]; exact ⟨a, _, t, u, w, rfl, h1, rfl⟩
theorem rp_refI {k : Hd} (h : Rp W σ (.ref k) v) : v = .ref (W.al k) ∧ live σ k := by simpa only [Rp, Rep] using h
theorem rp_ref {k : Hd} (h : live σ k) : Rp W σ (.ref k) (.ref (W.al k)) := by simp only [Rp, Rep]; exact ⟨trivial, h⟩
end

/-- the entries of an object's own dict, as they lie -/
noncomputable def EntL (W : Wd) (σ : St) : List (Str × V) → List DictEntry → Prop
  | [], es => es = []
  | (x, y) :: r, es => ∃ e es', es = e :: es' ∧ (∃ t, e.key = .str x t) ∧ Rp W σ y e.val ∧ EntL W σ r es'

noncomputable def CellAt (u : Uni) (W : Wd) (σ : St) (h : Heap) (k : Hd) : Cell → Prop
  | .dead => True
  | .lst p vs => ∃ o arr n, h.get? (W.al k) = some o ∧ o.cls = .type "list" ∧ o.data = .seq arr n ∧ (p = true → o.dict = none) ∧ RpL W σ vs arr.toList
  | .inst c fs => ∃ es n, h.get? (W.al k) = some (instObj (u.cls c) (W.dl k)) ∧ h.get? (W.dl k) = some (dictOf es n) ∧ EntL W σ fs es ∧ fs.length ≤ 100

structure Hp (u : Uni) (W : Wd) (σ : St) (l : List Env) (h : Heap) : Prop where
  base : ∀ a o, u.g₀.get? a = some o → W.F a = some o
  froz : ∀ a o, W.F a = some o → h.get? a = some o
  cell : ∀ k, CellAt u W σ h k (σ.get k)
  mutF : ∀ k a, MutK W σ k a → W.F a = none
  sep : ∀ k k' a, MutK W σ k a → MutK W σ k' a → k = k'
  sepi : ∀ k c fs, σ.get k = .inst c fs → W.al k ≠ W.dl k
  frm : ∀ env ∈ l, env.scope.kind ≠ .module ∧ ∃ L m, env.frame = some L ∧ h.Ns L m ∧ W.F L = none ∧ u.g₀.objs.size ≤ L ∧ ∀ k, ¬ MutK W σ k L

theorem MutK.there {u : Uni} {W : Wd} {σ : St} {l h} (H : Hp u W σ l h) {k a} (m : MutK W σ k a) : ∃ o, h.get? a = some o := by
  have c := H.cell k
  unfold MutK at m
  cases e : σ.get k with
  | dead => rw [e] at m; exact m.elim
  | lst p vs => rw [e] at m c; obtain ⟨o, _, _, ho, _⟩ := c; exact ⟨o, m ▸ ho⟩
  | inst c' fs =>
    rw [e] at m c
    obtain ⟨es, n, h1, h2, _⟩ := c
    rcases m with m | m <;> subst m
    · exact ⟨_, h1⟩
    · exact ⟨_, h2⟩

/-- a step of the run: own says what the running frame itself may turn -/
structure Step (u : Uni) (l : List Env) (own : Addr → Prop) (W : Wd) (σ : St) (h : Heap) (W' : Wd) (σ' : St) (h' : Heap) : Prop where
  hp : Hp u W' σ' l h'
  le : ∀ a o, W.F a = some o → W'.F a = some o
  al : ∀ k, live σ k → W'.al k = W.al k ∧ W'.dl k = W.dl k ∧ live σ' k
  up : ∀ b o, h.get? b = some o → (∀ k, ¬ MutK W σ k b) → ¬ own b → ∃ o', h'.get? b = some o' ∧ Same o o'
  nm : ∀ k b, MutK W' σ' k b → MutK W σ k b ∨ h.get? b = none
  nf : ∀ b o, W'.F b = some o → W.F b = some o ∨ h.get? b = none
  dm : ∀ b o, h.get? b = some o → ∃ o', h'.get? b = some o'

noncomputable def noOwn : Addr → Prop := fun _ => False

section
variable {u : Uni} {l : List Env} {own own' : Addr → Prop} {W W' W'' : Wd} {σ σ' σ'' : St} {h h' h'' : Heap}
theorem Step.refl (H : Hp u W σ l h) : Step u l own W σ h W σ h :=
  ⟨H, fun _ _ e => e, fun _ e => ⟨rfl, rfl, e⟩, fun _ o e _ _ => ⟨o, e, .refl o⟩, fun _ _ e => .inl e, fun _ _ e => .inl e, fun _ o e => ⟨o, e⟩⟩
theorem none_back (dm : ∀ b o, h.get? b = some o → ∃ o', h'.get? b = some o') {b} (q : h'.get? b = none) : h.get? b = none := by
  cases z : h.get? b with
  | none => rfl
  | some o => obtain ⟨o', e⟩ := dm b o z; rw [e] at q; cases q
theorem Step.trans (x : Step u l own W σ h W' σ' h') (y : Step u l own W' σ' h' W'' σ'' h'') : Step u l own W σ h W'' σ'' h'' := by
  refine ⟨y.hp, fun a o e => y.le _ _ (x.le _ _ e), fun k e => ?_, fun b o e nm no => ?_, fun k b e => ?_, fun b o e => ?_, fun b o e => ?_⟩
  · obtain ⟨a1, a2, a3⟩ := x.al k e
    obtain ⟨b1, b2, b3⟩ := y.al k a3
    exact ⟨b1.trans a1, b2.trans a2, b3⟩
  · obtain ⟨o', e', s'⟩ := x.up b o e nm no
    have : ∀ k, ¬ MutK W' σ' k b := fun k q => (x.nm k b q).elim (nm k) fun z => by rw [e] at z; cases z
    obtain ⟨o'', e'', s''⟩ := y.up b o' e' this no
    exact ⟨o'', e'', s'.trans s''⟩
  · rcases y.nm k b e with q | q
    · exact x.nm k b q
    · exact .inr (none_back x.dm q)
  · rcases y.nf b o e with q | q
    · exact x.nf b o q
    · exact .inr (none_back x.dm q)
  · obtain ⟨o', e'⟩ := x.dm b o e
    exact y.dm b o' e'
theorem Step.wider (x : Step u l own W σ h W' σ' h') (w : ∀ a, own a → own' a) : Step u l own' W σ h W' σ' h' :=
  ⟨x.hp, x.le, x.al, fun b o e nm no => x.up b o e nm fun q => no (w b q), x.nm, x.nf, x.dm⟩
theorem Step.rp (x : Step u l own W σ h W' σ' h') {v : V} {a : Value} (r : Rp W σ v a) : Rp W' σ' v a :=
  Rep.mono x.le (fun k e => ⟨(x.al k e).1, (x.al k e).2.2⟩) v a r
theorem Step.rpL (x : Step u l own W σ h W' σ' h') {v : List V} {a : List Value} (r : RpL W σ v a) : RpL W' σ' v a :=
  RepL.mono x.le (fun k e => ⟨(x.al k e).1, (x.al k e).2.2⟩) v a r
end

/-! the names of a frame -/
noncomputable def VarAt (W : Wd) (σ : St) (env : Env) (h : Heap) (x : Str) (y : V) : Prop :=
  match env.kindOf x with
  | some .local => ∃ m v, h.Ns env.locals m ∧ m x = some v ∧ Rp W σ y v
  | some .cell => ∃ c v, env.cells.lookup x = some c ∧ h.IsCell c (some v) ∧ Rp W σ y v
  | some .free => ∃ c v, env.cells.lookup x = some c ∧ h.IsCell c (some v) ∧ Rp W σ y v
  | _ => False
structure Lo (W : Wd) (σ : St) (env : Env) (h : Heap) (ρ : Loc) : Prop where
  var : ∀ x y, lk ρ x = some y → VarAt W σ env h x y
  ns : ∃ m, h.Ns env.locals m
  lfree : W.F env.locals = none ∧ ∀ k, ¬ MutK W σ k env.locals
  cfree : ∀ x c, env.cells.lookup x = some c → W.F c = none ∧ (∀ k, ¬ MutK W σ k c) ∧ (∃ w, h.IsCell c w)
  cinj : ∀ x y c, env.cells.lookup x = some c → env.cells.lookup y = some c → x = y
  cdef : ∀ x, env.kindOf x = some .cell → ∃ c, env.cells.lookup x = some c

theorem isCell_same {h h' : Heap} {c w} (x : h.IsCell c w) (up : ∀ o, h.get? c = some o → ∃ o', h'.get? c = some o' ∧ Same o o') : h'.IsCell c w := by
  obtain ⟨o, ho, hd⟩ := x
  obtain ⟨o', ho', s⟩ := up o ho
  exact ⟨o', ho', (s.data (by rw [hd]; intro _ _ q; cases q)).trans hd⟩
theorem ns_same {h h' : Heap} {a m} (x : h.Ns a m) (up : ∀ o, h.get? a = some o → ∃ o', h'.get? a = some o' ∧ Same o o') : h'.Ns a m := by
  obtain ⟨o, ho, n⟩ := ns_iff.mp x
  obtain ⟨o', ho', s⟩ := up o ho
  exact ns_iff.mpr ⟨o', ho', s.ns n⟩

theorem Lo.step {u : Uni} {l : List Env} {own : Addr → Prop} {W W' : Wd} {σ σ' : St} {h h' : Heap} {env : Env} {ρ : Loc} (x : Lo W σ env h ρ) (t : Step u l own W σ h W' σ' h')
    (nL : ¬ own env.locals) (nC : ∀ y c, env.cells.lookup y = some c → ¬ own c) : Lo W' σ' env h' ρ := by
  have upL : ∀ o, h.get? env.locals = some o → ∃ o', h'.get? env.locals = some o' ∧ Same o o' := fun o e => t.up _ o e x.lfree.2 nL
  have upC : ∀ y c, env.cells.lookup y = some c → ∀ o, h.get? c = some o → ∃ o', h'.get? c = some o' ∧ Same o o' := fun y c e o ho => t.up _ o ho (x.cfree y c e).2.1 (nC y c e)
  refine ⟨fun y z e => ?_, ?_, ?_, fun y c e => ?_, x.cinj, x.cdef⟩
  · have v := x.var y z e
    unfold VarAt at v ⊢
    split at v
    · obtain ⟨m, w, a, b, c⟩ := v
      exact ⟨m, w, ns_same a upL, b, t.rp c⟩
    · obtain ⟨c, w, a, b, d⟩ := v
      exact ⟨c, w, a, isCell_same b (upC _ _ a), t.rp d⟩
    · obtain ⟨c, w, a, b, d⟩ := v
      exact ⟨c, w, a, isCell_same b (upC _ _ a), t.rp d⟩
    · exact v
  · obtain ⟨m, a⟩ := x.ns
    exact ⟨m, ns_same a upL⟩
  · obtain ⟨m, a⟩ := x.ns
    obtain ⟨o, ho, _⟩ := ns_iff.mp a
    refine ⟨?_, fun k q => ?_⟩
    · cases e : W'.F env.locals with
      | none => rfl
      | some o' =>
        rcases t.nf _ _ e with q | q
        · rw [x.lfree.1] at q; cases q
        · rw [ho] at q; cases q
    · rcases t.nm _ _ q with q | q
      · exact x.lfree.2 k q
      · rw [ho] at q; cases q
  · obtain ⟨a, b, w, ic⟩ := x.cfree y c e
    obtain ⟨o, ho, hd⟩ := ic
    refine ⟨?_, fun k q => ?_, w, isCell_same ⟨o, ho, hd⟩ (upC _ _ e)⟩
    · cases z : W'.F c with
      | none => rfl
      | some o' =>
        rcases t.nf _ _ z with q | q
        · rw [a] at q; cases q
        · rw [ho] at q; cases q
    · rcases t.nm _ _ q with q | q
      · exact b k q
      · rw [ho] at q; cases q
theorem Lo.stepE {u : Uni} {l : List Env} {W W' : Wd} {σ σ' : St} {h h' : Heap} {env : Env} {ρ : Loc} (x : Lo W σ env h ρ) (t : Step u l noOwn W σ h W' σ' h') : Lo W' σ' env h' ρ :=
  x.step t id fun _ _ _ => id

/-! an exception on its way: e, of the class c, through the frames l; hs the heap at the start -/
noncomputable def Fresh (h : Heap) (e : Addr) (cls a0 : Value) : Prop := ∃ oe vs, h.get? e = some oe ∧ oe.cls = cls ∧ oe.data = .fields vs ∧ vs[0]? = some a0 ∧ vs[1]? = some .none
noncomputable def Ex (u : Uni) (W : Wd) (σ : St) (l : List Env) (e : Addr) (c : Exn) (hs : Heap) (h : Heap) : Prop :=
  ∃ (B : Heap) (a0 : Value),
    ((∀ a o, W.F a = some o → B.get? a = some o) ∧ (∀ k a o, MutK W σ k a → h.get? a = some o → B.get? a = some o) ∧
    (∀ a o₀ o, hs.get? a = some o₀ → h.get? a = some o → (∀ env ∈ l, env.frame ≠ some a) → B.get? a = some o)) ∧
    B.StaysIn h ∧ B.get? e = none ∧ h.FunFrames B l ∧
    (Fresh h e (.ref (u.exc c)) a0 ∨ h.TracedAtW B e (.ref (u.exc c)) a0 .none ∨ ∃ env r L, l = env :: r ∧ env.frame = some L ∧ h.TracedAtW B e (.ref (u.exc c)) a0 (rawInt L))
theorem Ex.older {u : Uni} {W : Wd} {σ : St} {l : List Env} {e : Addr} {c : Exn} {hs hs' h : Heap} (x : Ex u W σ l e c hs' h) (dm : ∀ b o, hs.get? b = some o → ∃ o', hs'.get? b = some o') : Ex u W σ l e c hs h := by
  obtain ⟨B, a0, ⟨x1, x2, x3⟩, x4⟩ := x
  refine ⟨B, a0, ⟨x1, x2, fun a o₀ o h0 h1 h2 => ?_⟩, x4⟩
  obtain ⟨o', h'⟩ := dm a o₀ h0
  exact x3 a o' o h' h1 h2

/-- an expression's (or a list's, or a test's) run, said of the plain values -/
noncomputable def EOk {τ β : Type} (u : Uni) (A : Around) (l : List Env) (env : Env) (rp : Wd → St → β → τ → Prop) (t : Sem τ) (ρ : Loc) (Q : β → St → Prop) (X : Exn → St → Prop) (σ : St) : Prop :=
  ∀ (W : Wd) (s : Shared), Hp u W σ l s.heap → Lo W σ env s.heap ρ → ∀ (QC : τ → Shared → Prop) (EC : Value → Shared → Prop),
    (∀ v b W' σ' h' tk, Step u l noOwn W σ s.heap W' σ' h' → rp W' σ' b v → Q b σ' → QC v ⟨h', s.gens, s.drawn, tk, s.os⟩) →
    (∀ e c W' σ' h' tk, Step u l noOwn W σ s.heap W' σ' h' → Ex u W' σ' l e c s.heap h' → X c σ' → EC (.ref e) ⟨h', s.gens, s.drawn, tk, s.os⟩) →
    wpAny u.M A t QC EC s
/-- the names' kinds as the frame has them, the room that is left -/
structure ECx (u : Uni) (A : Around) (l : List Env) (env : Env) (n : Nat) (hn : Bool) (kd : Str → Option NameKind) : Prop where
  frames : A.frames = some l
  ne : l ≠ []
  kind : env.scope.kind = .function
  glob : env.globals = mainGlobals
  bns : env.builtins = builtinsNs
  kinds : ∀ x k, kd x = some k → env.kindOf x = some k ∨ (k = .free ∧ env.kindOf x = some .cell)
  nodbg : ∀ x k, env.kindOf x = some k → ((x == ("__debug__" : Str)) || (x == ("__classdict__" : Str))) = false
  room : A.depth + 4 * n + 8 < recursionLimit
  units : A.units + 24 * n + 40 < cLine
  hand : hn = true → A.handled = none

/-- a step of the machine on values in hand -/
noncomputable def OpOk {τ β : Type} (u : Uni) (A : Around) (l : List Env) (rp : Wd → St → β → τ → Prop) (t : Sem τ) (Q : β → St → Prop) (X : Exn → St → Prop) (W : Wd) (σ : St) (s : Shared) : Prop :=
  ∀ (QC : τ → Shared → Prop) (EC : Value → Shared → Prop),
    (∀ v b W' σ' h' tk, Step u l noOwn W σ s.heap W' σ' h' → rp W' σ' b v → Q b σ' → QC v ⟨h', s.gens, s.drawn, tk, s.os⟩) →
    (∀ e c W' σ' h' tk, Step u l noOwn W σ s.heap W' σ' h' → Ex u W' σ' l e c s.heap h' → X c σ' → EC (.ref e) ⟨h', s.gens, s.drawn, tk, s.os⟩) →
    wpAny u.M A t QC EC s

noncomputable abbrev Bl : Wd → St → Bool → Bool → Prop := fun _ _ b c => c = b
noncomputable abbrev Un : Wd → St → Unit → Unit → Prop := fun _ _ _ _ => True

section
variable {u : Uni} {A : Around} {l : List Env} {env : Env} {ρ : Loc} {X : Exn → St → Prop} {σ : St} {n : Nat} {hn : Bool} {kd : Str → Option NameKind}

/-- sequencing, the second part on the first's value, no name asked -/
theorem EOk.op {τ τ' β β' : Type} {rp : Wd → St → β → τ → Prop} {rp' : Wd → St → β' → τ' → Prop} {t : Sem τ} {QC' : τ → Sem τ'} {Q : β' → St → Prop} {Q₁ : β → St → Prop}
    (h : EOk u A l env rp t ρ Q₁ X σ) (k : ∀ b σ₁ W v (s : Shared), Q₁ b σ₁ → Hp u W σ₁ l s.heap → rp W σ₁ b v → OpOk u A l rp' (QC' v) Q X W σ₁ s)
    {W : Wd} {s : Shared} (H : Hp u W σ l s.heap) (L : Lo W σ env s.heap ρ) {QC : τ' → Shared → Prop} {EC : Value → Shared → Prop}
    (hq : ∀ v b W' σ' h' tk, Step u l noOwn W σ s.heap W' σ' h' → rp' W' σ' b v → Q b σ' → QC v ⟨h', s.gens, s.drawn, tk, s.os⟩)
    (he : ∀ e c W' σ' h' tk, Step u l noOwn W σ s.heap W' σ' h' → Ex u W' σ' l e c s.heap h' → X c σ' → EC (.ref e) ⟨h', s.gens, s.drawn, tk, s.os⟩) :
    wpAny u.M A t (fun v s' => wpAny u.M A (QC' v) QC EC s') EC s :=
  h W s H L _ EC (fun v b W' σ' h' tk st r q => k b σ' W' v ⟨h', s.gens, s.drawn, tk, s.os⟩ q st.hp r QC EC
    (fun v' b' W'' σ'' h'' tk' st' r' q' => hq v' b' W'' σ'' h'' tk' (st.trans st') r' q')
    (fun e c W'' σ'' h'' tk' st' x q' => he e c W'' σ'' h'' tk' (st.trans st') (x.older st.dm) q')) he

theorem E_local {x : Str} {pos : Pos} {y : V} {Q : V → St → Prop} (C : ECx u A l env n hn kd) (hl : lk ρ x = some y) (q : Q y σ) : EOk u A l env Rp (eval (.Name x pos) env) ρ Q X σ := by
  intro W s H L QC EC hq he
  have v := L.var x y hl
  unfold VarAt at v
  split at v
  · rename_i z
    obtain ⟨hd, hc⟩ := Bool.or_eq_false_iff.mp (C.nodbg _ _ z)
    obtain ⟨m, w, a, b, c⟩ := v
    refine wpAny_Name ?_ hd
    with_reducible exact wpAny_loadName_local C.kind z a b (hq w y W σ s.heap s.toks (.refl H) c q)
  · rename_i z
    obtain ⟨hd, hc⟩ := Bool.or_eq_false_iff.mp (C.nodbg _ _ z)
    obtain ⟨c, w, a, b, r⟩ := v
    refine wpAny_Name ?_ hd
    with_reducible exact wpAny_loadName_cell C.kind z a b (hq w y W σ s.heap s.toks (.refl H) r q)
  · rename_i z
    obtain ⟨hd, hc⟩ := Bool.or_eq_false_iff.mp (C.nodbg _ _ z)
    obtain ⟨c, w, a, b, r⟩ := v
    refine wpAny_Name ?_ hd
    with_reducible exact wpAny_loadName_free C.kind z a b (hq w y W σ s.heap s.toks (.refl H) r q) hc
  · exact v.elim

theorem E_int {i : Int} {k : Nat} {pos : Pos} {Q : V → St → Prop} (q : Q (.int i) σ) : EOk u A l env Rp (eval (.Constant (.int i) k pos) env) ρ Q X σ :=
  fun W s H _ _ _ hq _ => wpAny_Constant_int (hq _ (.int i) W σ s.heap _ (.refl H) rp_int q)
theorem E_bool {i : Bool} {k : Nat} {pos : Pos} {Q : V → St → Prop} (q : Q (.bool i) σ) : EOk u A l env Rp (eval (.Constant (.bool i) k pos) env) ρ Q X σ :=
  fun W s H _ _ _ hq _ => wpAny_Constant_bool (hq _ (.bool i) W σ s.heap _ (.refl H) rp_bool q)
theorem E_none {k : Nat} {pos : Pos} {Q : V → St → Prop} (q : Q .none σ) : EOk u A l env Rp (eval (.Constant .none k pos) env) ρ Q X σ :=
  fun W s H _ _ _ hq _ => wpAny_Constant_none (hq _ .none W σ s.heap _ (.refl H) rp_none q)
theorem E_str {x : Str} {k : Nat} {pos : Pos} {Q : V → St → Prop} (q : Q .str σ) : EOk u A l env Rp (eval (.Constant (.str x) k pos) env) ρ Q X σ :=
  fun W s H _ _ _ hq _ => wpAny_Constant_str (hq _ .str W σ s.heap _ (.refl H) rp_str q)

/-! two values and an operation -/
noncomputable def BinP (u : Uni) (A : Around) (l : List Env) (f : Value → Value → Sem Value) (x y : V) (Q : V → St → Prop) (X : Exn → St → Prop) (σ : St) : Prop :=
  ∀ W v w (s : Shared), Hp u W σ l s.heap → Rp W σ x v → Rp W σ y w → OpOk u A l Rp (f v w) Q X W σ s

/-! what comes after, as named steps: a lambda would shift the bound variables, and the olean would hold each copy -/
@[reducible] noncomputable def kB (u : Uni) (A : Around) (l : List Env) (f : Value → Value → Sem Value) (Q : V → St → Prop) (X : Exn → St → Prop) : V → V → St → Prop := fun x y σ₂ => BinP u A l f x y Q X σ₂
@[reducible] noncomputable def kE (u : Uni) (A : Around) (l : List Env) (env : Env) (b : Expr) (ρ : Loc) (F : V → V → St → Prop) (X : Exn → St → Prop) : V → St → Prop := fun x σ₁ => EOk u A l env Rp (eval b env) ρ (F x) X σ₁
@[reducible] noncomputable def kV (Q : Bool → St → Prop) : V → St → Prop := fun x σ₁ => ∃ b, x = .bool b ∧ Q b σ₁
@[reducible] noncomputable def kNot (Q : Bool → St → Prop) : Bool → St → Prop := fun b σ₁ => Q (!b) σ₁
@[reducible] noncomputable def kAnd (u : Uni) (A : Around) (l : List Env) (env : Env) (r : List Expr) (ρ : Loc) (Q : Bool → St → Prop) (X : Exn → St → Prop) : Bool → St → Prop := fun b σ₁ => (b = true → EOk u A l env Bl (allTrue .And r env) ρ Q X σ₁) ∧ (b = false → Q false σ₁)
@[reducible] noncomputable def kOr (u : Uni) (A : Around) (l : List Env) (env : Env) (r : List Expr) (ρ : Loc) (Q : Bool → St → Prop) (X : Exn → St → Prop) : Bool → St → Prop := fun b σ₁ => (b = true → Q true σ₁) ∧ (b = false → EOk u A l env Bl (allTrue .Or r env) ρ Q X σ₁)
@[reducible] noncomputable def kNeg (Q : V → St → Prop) : V → St → Prop := fun x σ₁ => ∃ k, x = .int k ∧ Q (.int (-k)) σ₁

theorem E_bin {a b : Expr} {op : Operator} {pos : Pos} {Q : V → St → Prop}
    (h : EOk u A l env Rp (eval a env) ρ (kE u A l env b ρ (kB u A l (binaryOp op) Q X) X) X σ) :
    EOk u A l env Rp (eval (.BinOp a op b pos) env) ρ Q X σ := by
  intro W s H L QC EC hq he
  refine wpAny_BinOp (h W s H L _ EC (fun v x W₁ σ₁ h₁ tk₁ st₁ r₁ q₁ => ?_) he)
  refine q₁ W₁ _ st₁.hp (L.stepE st₁) _ EC (fun w y W₂ σ₂ h₂ tk₂ st₂ r₂ q₂ => ?_) (fun e c W'' σ'' h'' tk' st' x q' => he e c W'' σ'' h'' tk' (st₁.trans st') (x.older st₁.dm) q')
  exact q₂ W₂ v w _ st₂.hp (st₂.rp r₁) r₂ QC EC (fun v' b' W' σ' h' tk st r q => hq v' b' W' σ' h' tk ((st₁.trans st₂).trans st) r q)
    fun e c W'' σ'' h'' tk' st' x q' => he e c W'' σ'' h'' tk' ((st₁.trans st₂).trans st') (x.older (st₁.trans st₂).dm) q'
theorem E_cmp {a b : Expr} {op : CmpOp} {pos : Pos} {Q : V → St → Prop}
    (h : EOk u A l env Rp (eval a env) ρ (kE u A l env b ρ (kB u A l (compareOp op) Q X) X) X σ)
    (hb : behindInMarks op b = false := by rfl) :
    EOk u A l env Rp (eval (.Compare a [op] [b] pos) env) ρ Q X σ := by
  intro W s H L QC EC hq he
  refine wpAny_Compare1 (h W s H L _ EC (fun v x W₁ σ₁ h₁ tk₁ st₁ r₁ q₁ => ?_) he) hb
  refine q₁ W₁ _ st₁.hp (L.stepE st₁) _ EC (fun w y W₂ σ₂ h₂ tk₂ st₂ r₂ q₂ => ?_) (fun e c W'' σ'' h'' tk' st' x q' => he e c W'' σ'' h'' tk' (st₁.trans st') (x.older st₁.dm) q')
  exact q₂ W₂ v w _ st₂.hp (st₂.rp r₁) r₂ QC EC (fun v' b' W' σ' h' tk st r q => hq v' b' W' σ' h' tk ((st₁.trans st₂).trans st) r q)
    fun e c W'' σ'' h'' tk' st' x q' => he e c W'' σ'' h'' tk' ((st₁.trans st₂).trans st') (x.older (st₁.trans st₂).dm) q'

theorem BinP.gives {f : Value → Value → Sem Value} {x y z : V} {Q : V → St → Prop}
    (g : ∀ W v w, Rp W σ x v → Rp W σ y w → ∀ (QC : Value → Shared → Prop) (EC : Value → Shared → Prop) (s : Shared), (∀ r tk, Rp W σ z r → QC r ⟨s.heap, s.gens, s.drawn, tk, s.os⟩) → wpAny u.M A (f v w) QC EC s) (q : Q z σ) :
    BinP u A l f x y Q X σ := fun W v w s H r₁ r₂ QC EC hq _ => g W v w r₁ r₂ QC EC s fun r tk rr => hq r z W σ s.heap tk (.refl H) rr q

section
variable {x y : Int} {Q : V → St → Prop}
theorem B_add (q : Q (.int (x + y)) σ) : BinP u A l (binaryOp .Add) (.int x) (.int y) Q X σ :=
  .gives (fun W v w h₁ h₂ QC EC s k => by obtain ⟨t, rfl⟩ := rp_intI h₁; obtain ⟨t', rfl⟩ := rp_intI h₂; with_reducible exact add_int (k _ _ rp_int)) q
theorem B_sub (q : Q (.int (x - y)) σ) : BinP u A l (binaryOp .Sub) (.int x) (.int y) Q X σ :=
  .gives (fun W v w h₁ h₂ QC EC s k => by obtain ⟨t, rfl⟩ := rp_intI h₁; obtain ⟨t', rfl⟩ := rp_intI h₂; with_reducible exact sub_int (k _ _ rp_int)) q
theorem fdiv_pos (x : Int) {y : Int} (h : 0 < y) : x.fdiv y = x / y := by rw [Int.fdiv_eq_ediv_of_nonneg]; lcg_off
theorem fmod_pos (x : Int) {y : Int} (h : 0 < y) : x.fmod y = x % y := by rw [Int.fmod_eq_emod_of_nonneg]; lcg_off
theorem B_mod (hy : 0 < y) (q : Q (.int (x % y)) σ) : BinP u A l (binaryOp .Mod) (.int x) (.int y) Q X σ :=
  .gives (fun W v w h₁ h₂ QC EC s k => by
    obtain ⟨t, rfl⟩ := rp_intI h₁; obtain ⟨t', rfl⟩ := rp_intI h₂
    with_reducible refine mod_int' (by lcg_off) ?_
    rw [fmod_pos x hy]; exact k _ _ rp_int) q
theorem B_mul (h1 : x.natAbs < 2 ^ 64) (q : Q (.int (x * y)) σ) : BinP u A l (binaryOp .Mult) (.int x) (.int y) Q X σ :=
  .gives (fun W v w h₁ h₂ QC EC s k => by
    obtain ⟨t, rfl⟩ := rp_intI h₁; obtain ⟨t', rfl⟩ := rp_intI h₂
    with_reducible refine mul_int (k _ _ rp_int) ?_
    have := intBits_le_64 (k := x) (by k_lenW) (by k_lenW)
    unfold IntMulOk
    rw [decide_eq_false (by unfold shortFactorBits; k_lenW)]
    simp) q
theorem B_fdiv (hy : 0 < y) (h2 : y < 1073741824) (q : Q (.int (x / y)) σ) : BinP u A l (binaryOp .FloorDiv) (.int x) (.int y) Q X σ :=
  .gives (fun W v w h₁ h₂ QC EC s k => by
    obtain ⟨t, rfl⟩ := rp_intI h₁; obtain ⟨t', rfl⟩ := rp_intI h₂
    with_reducible refine floordiv_int (by lcg_off) ?_ ?_
    · rw [fdiv_pos x hy]; exact k _ _ rp_int
    · exact .inl (PyProof.noPylong_small (by lcg_off))) q
theorem B_pow (hy : 0 ≤ y) (hy' : y ≤ 1000000) (h1 : x.natAbs < 2 ^ 64) (q : Q (.int (x ^ y.toNat)) σ) : BinP u A l (binaryOp .Pow) (.int x) (.int y) Q X σ :=
  .gives (fun W v w h₁ h₂ QC EC s k => by obtain ⟨t, rfl⟩ := rp_intI h₁; obtain ⟨t', rfl⟩ := rp_intI h₂; with_reducible exact pow_int_small hy hy' h1 (k _ _ rp_int)) q
theorem B_shl (hy : 0 ≤ y) (hy' : y ≤ 1000000) (h1 : x.natAbs < 2 ^ 64) (q : Q (.int (x * 2 ^ y.toNat)) σ) : BinP u A l (binaryOp .LShift) (.int x) (.int y) Q X σ :=
  .gives (fun W v w h₁ h₂ QC EC s k => by obtain ⟨t, rfl⟩ := rp_intI h₁; obtain ⟨t', rfl⟩ := rp_intI h₂; with_reducible exact lshift_int_small hy hy' h1 (k _ _ rp_int)) q
theorem B_or (q : Q (.int (Builtin.bitOr x y)) σ) : BinP u A l (binaryOp .BitOr) (.int x) (.int y) Q X σ :=
  .gives (fun W v w h₁ h₂ QC EC s k => by obtain ⟨t, rfl⟩ := rp_intI h₁; obtain ⟨t', rfl⟩ := rp_intI h₂; with_reducible exact or_int (k _ _ rp_int)) q
theorem B_and (q : Q (.int (Builtin.bitAnd x y)) σ) : BinP u A l (binaryOp .BitAnd) (.int x) (.int y) Q X σ :=
  .gives (fun W v w h₁ h₂ QC EC s k => by obtain ⟨t, rfl⟩ := rp_intI h₁; obtain ⟨t', rfl⟩ := rp_intI h₂; with_reducible exact and_int (k _ _ rp_int)) q
theorem B_xor (q : Q (.int (Builtin.bitXor x y)) σ) : BinP u A l (binaryOp .BitXor) (.int x) (.int y) Q X σ :=
  .gives (fun W v w h₁ h₂ QC EC s k => by obtain ⟨t, rfl⟩ := rp_intI h₁; obtain ⟨t', rfl⟩ := rp_intI h₂; with_reducible exact xor_int (k _ _ rp_int)) q
theorem C_lt (q : Q (.bool (decide (x < y))) σ) : BinP u A l (compareOp .Lt) (.int x) (.int y) Q X σ :=
  .gives (fun W v w h₁ h₂ QC EC s k => by obtain ⟨t, rfl⟩ := rp_intI h₁; obtain ⟨t', rfl⟩ := rp_intI h₂; with_reducible exact lt_int (k _ s.toks rp_bool)) q
theorem C_le (q : Q (.bool (decide (x ≤ y))) σ) : BinP u A l (compareOp .LtE) (.int x) (.int y) Q X σ :=
  .gives (fun W v w h₁ h₂ QC EC s k => by obtain ⟨t, rfl⟩ := rp_intI h₁; obtain ⟨t', rfl⟩ := rp_intI h₂; with_reducible exact le_int (k _ s.toks rp_bool)) q
theorem C_gt (q : Q (.bool (decide (y < x))) σ) : BinP u A l (compareOp .Gt) (.int x) (.int y) Q X σ :=
  .gives (fun W v w h₁ h₂ QC EC s k => by obtain ⟨t, rfl⟩ := rp_intI h₁; obtain ⟨t', rfl⟩ := rp_intI h₂; with_reducible exact gt_int (k _ s.toks rp_bool)) q
theorem C_ge (q : Q (.bool (decide (y ≤ x))) σ) : BinP u A l (compareOp .GtE) (.int x) (.int y) Q X σ :=
  .gives (fun W v w h₁ h₂ QC EC s k => by obtain ⟨t, rfl⟩ := rp_intI h₁; obtain ⟨t', rfl⟩ := rp_intI h₂; with_reducible exact ge_int (k _ s.toks rp_bool)) q
theorem C_eq (q : Q (.bool (decide (x = y))) σ) : BinP u A l (compareOp .Eq) (.int x) (.int y) Q X σ :=
  .gives (fun W v w h₁ h₂ QC EC s k => by
    obtain ⟨t, rfl⟩ := rp_intI h₁; obtain ⟨t', rfl⟩ := rp_intI h₂
    with_reducible refine eq_int ?_
    rw [show (x == y) = decide (x = y) from rfl]; exact k _ s.toks rp_bool) q
theorem C_ne (q : Q (.bool (decide (x ≠ y))) σ) : BinP u A l (compareOp .NotEq) (.int x) (.int y) Q X σ :=
  .gives (fun W v w h₁ h₂ QC EC s k => by
    obtain ⟨t, rfl⟩ := rp_intI h₁; obtain ⟨t', rfl⟩ := rp_intI h₂
    with_reducible refine ne_int ?_
    rw [show (x != y) = decide (x ≠ y) from by rw [bne, decide_not]; rfl]; exact k _ s.toks rp_bool) q
theorem I_add (q : Q (.int (x + y)) σ) : BinP u A l (inplaceOp .Add) (.int x) (.int y) Q X σ :=
  .gives (fun W v w h₁ h₂ QC EC s k => by obtain ⟨t, rfl⟩ := rp_intI h₁; obtain ⟨t', rfl⟩ := rp_intI h₂; with_reducible exact iadd_int (k _ _ rp_int)) q
theorem I_sub (q : Q (.int (x - y)) σ) : BinP u A l (inplaceOp .Sub) (.int x) (.int y) Q X σ :=
  .gives (fun W v w h₁ h₂ QC EC s k => by obtain ⟨t, rfl⟩ := rp_intI h₁; obtain ⟨t', rfl⟩ := rp_intI h₂; with_reducible exact isub_int (k _ _ rp_int)) q
theorem I_or (q : Q (.int (Builtin.bitOr x y)) σ) : BinP u A l (inplaceOp .BitOr) (.int x) (.int y) Q X σ :=
  .gives (fun W v w h₁ h₂ QC EC s k => by obtain ⟨t, rfl⟩ := rp_intI h₁; obtain ⟨t', rfl⟩ := rp_intI h₂; with_reducible exact ior_int (k _ _ rp_int)) q
end

section
variable {x y : List UInt8} {Q : V → St → Prop}
theorem B_addB (hz : x.length + y.length ≤ 16777216) (q : Q (.bytes (x ++ y)) σ) : BinP u A l (binaryOp .Add) (.bytes x) (.bytes y) Q X σ :=
  .gives (fun W v w h₁ h₂ QC EC s k => by
    obtain ⟨t, rfl⟩ := rp_bytesI h₁; obtain ⟨t', rfl⟩ := rp_bytesI h₂
    with_reducible exact bytes_add_K (by simpa using hz) rfl fun t' k' => k _ _ rp_bytes) q
theorem C_eqB (q : Q (.bool (decide (x = y))) σ) : BinP u A l (compareOp .Eq) (.bytes x) (.bytes y) Q X σ :=
  .gives (fun W v w h₁ h₂ QC EC s k => by
    obtain ⟨t, rfl⟩ := rp_bytesI h₁; obtain ⟨t', rfl⟩ := rp_bytesI h₂
    with_reducible refine eq_bytes ?_
    have : (x.toArray.toList == y.toArray.toList) = decide (x = y) := by
      by_cases h : x = y
      · subst h; simp
      · simp [h]
    rw [this]; exact k _ s.toks rp_bool) q
end

/-! tests -/
theorem T_val {e : Expr} {Q : Bool → St → Prop} (h : EOk u A l env Rp (eval e env) ρ (kV Q) X σ)
    (hs : isTrue e env (eval e env) = (do let v ← eval e env; standAt e.pos; holding [v] (truthy v)) := by rfl) :
    EOk u A l env Bl (isTrue e env (eval e env)) ρ Q X σ := by
  intro W s H L QC EC hq he
  refine wpAny_isTrue_value (h W s H L _ EC (fun v x W₁ σ₁ h₁ tk₁ st₁ r₁ q₁ => ?_) he) hs
  obtain ⟨b, rfl, q⟩ := q₁
  obtain rfl := rp_boolI r₁
  exact wpAny_truthy_bool (hq b b W₁ σ₁ h₁ tk₁ st₁ rfl q)
theorem T_cmp {a b : Expr} {op : CmpOp} {pos : Pos} {whole : Sem Value} {Q : Bool → St → Prop}
    (h : EOk u A l env Rp (eval a env) ρ (kE u A l env b ρ (kB u A l (compareOp op) (kV Q) X) X) X σ)
    (hb : behindInMarks op b = false := by rfl) :
    EOk u A l env Bl (isTrue (.Compare a [op] [b] pos) env whole) ρ Q X σ := by
  intro W s H L QC EC hq he
  refine wpAny_isTrue_Compare1 (h W s H L _ EC (fun v x W₁ σ₁ h₁ tk₁ st₁ r₁ q₁ => ?_) he) hb
  refine q₁ W₁ _ st₁.hp (L.stepE st₁) _ EC (fun w y W₂ σ₂ h₂ tk₂ st₂ r₂ q₂ => ?_) (fun e c W'' σ'' h'' tk' st' x q' => he e c W'' σ'' h'' tk' (st₁.trans st') (x.older st₁.dm) q')
  refine q₂ W₂ v w _ st₂.hp (st₂.rp r₁) r₂ _ EC (fun v' b' W' σ' h' tk st r q => ?_)
    fun e c W'' σ'' h'' tk' st' x q' => he e c W'' σ'' h'' tk' ((st₁.trans st₂).trans st') (x.older (st₁.trans st₂).dm) q'
  obtain ⟨b, rfl, q⟩ := q
  obtain rfl := rp_boolI r
  exact wpAny_truthy_bool (hq b b W' σ' h' tk ((st₁.trans st₂).trans st) rfl q)
theorem T_not {x : Expr} {pos : Pos} {whole : Sem Value} {Q : Bool → St → Prop} (h : EOk u A l env Bl (isTrue x env (eval x env)) ρ (kNot Q) X σ) :
    EOk u A l env Bl (isTrue (.UnaryOp .Not x pos) env whole) ρ Q X σ := by
  intro W s H L QC EC hq he
  refine wpAny_isTrue_Not (h W s H L _ EC (fun v x W₁ σ₁ h₁ tk₁ st₁ r₁ q₁ => ?_) he)
  obtain rfl : v = x := r₁
  exact hq _ _ W₁ σ₁ h₁ tk₁ st₁ rfl q₁
theorem T_bop {op : BoolOp} {es : List Expr} {pos : Pos} {whole : Sem Value} {Q : Bool → St → Prop} (h : EOk u A l env Bl (allTrue op es env) ρ Q X σ) :
    EOk u A l env Bl (isTrue (.BoolOp op es pos) env whole) ρ Q X σ := fun W s H L QC EC hq he => wpAny_isTrue_BoolOp (h W s H L QC EC hq he)
theorem T_andN {Q : Bool → St → Prop} (q : Q true σ) : EOk u A l env Bl (allTrue .And [] env) ρ Q X σ := fun W s H _ _ _ hq _ => wpAny_allTrue_And_nil (hq _ true W σ s.heap s.toks (.refl H) rfl q)
theorem T_orN {Q : Bool → St → Prop} (q : Q false σ) : EOk u A l env Bl (allTrue .Or [] env) ρ Q X σ := fun W s H _ _ _ hq _ => wpAny_allTrue_Or_nil (hq _ false W σ s.heap s.toks (.refl H) rfl q)
theorem T_and {x : Expr} {r : List Expr} {Q : Bool → St → Prop}
    (h : EOk u A l env Bl (isTrue x env (eval x env)) ρ (kAnd u A l env r ρ Q X) X σ) :
    EOk u A l env Bl (allTrue .And (x :: r) env) ρ Q X σ := by
  intro W s H L QC EC hq he
  refine wpAny_allTrue_And_cons (h W s H L _ EC (fun v x W₁ σ₁ h₁ tk₁ st₁ r₁ q₁ => ?_) he)
  obtain rfl : v = x := r₁
  cases v with
  | true =>
    rw [if_pos rfl]
    exact q₁.1 rfl W₁ _ st₁.hp (L.stepE st₁) QC EC (fun v' b' W' σ' h' tk st r q => hq v' b' W' σ' h' tk (st₁.trans st) r q)
      fun e c W'' σ'' h'' tk' st' x q' => he e c W'' σ'' h'' tk' (st₁.trans st') (x.older st₁.dm) q'
  | false => rw [if_neg (by decide)]; exact hq _ _ W₁ σ₁ h₁ tk₁ st₁ rfl (q₁.2 rfl)
theorem T_or {x : Expr} {r : List Expr} {Q : Bool → St → Prop}
    (h : EOk u A l env Bl (isTrue x env (eval x env)) ρ (kOr u A l env r ρ Q X) X σ) :
    EOk u A l env Bl (allTrue .Or (x :: r) env) ρ Q X σ := by
  intro W s H L QC EC hq he
  refine wpAny_allTrue_Or_cons (h W s H L _ EC (fun v x W₁ σ₁ h₁ tk₁ st₁ r₁ q₁ => ?_) he)
  obtain rfl : v = x := r₁
  cases v with
  | false =>
    rw [if_neg (by decide)]
    exact q₁.2 rfl W₁ _ st₁.hp (L.stepE st₁) QC EC (fun v' b' W' σ' h' tk st r q => hq v' b' W' σ' h' tk (st₁.trans st) r q)
      fun e c W'' σ'' h'' tk' st' x q' => he e c W'' σ'' h'' tk' (st₁.trans st') (x.older st₁.dm) q'
  | true => rw [if_pos rfl]; exact hq _ _ W₁ σ₁ h₁ tk₁ st₁ rfl (q₁.1 rfl)
theorem E_if {t a b : Expr} {pos : Pos} {Q : V → St → Prop}
    (h : EOk u A l env Bl (isTrue t env (eval t env)) ρ (fun c σ₁ => (c = true → EOk u A l env Rp (eval a env) ρ Q X σ₁) ∧ (c = false → EOk u A l env Rp (eval b env) ρ Q X σ₁)) X σ) :
    EOk u A l env Rp (eval (.IfExp t a b pos) env) ρ Q X σ := by
  intro W s H L QC EC hq he
  refine wpAny_IfExp (h W s H L _ EC (fun v x W₁ σ₁ h₁ tk₁ st₁ r₁ q₁ => ?_) he)
  obtain rfl : v = x := r₁
  cases v with
  | true =>
    rw [if_pos rfl]
    exact q₁.1 rfl W₁ _ st₁.hp (L.stepE st₁) QC EC (fun v' b' W' σ' h' tk st r q => hq v' b' W' σ' h' tk (st₁.trans st) r q)
      fun e c W'' σ'' h'' tk' st' x q' => he e c W'' σ'' h'' tk' (st₁.trans st') (x.older st₁.dm) q'
  | false =>
    rw [if_neg (by decide)]
    exact q₁.2 rfl W₁ _ st₁.hp (L.stepE st₁) QC EC (fun v' b' W' σ' h' tk st r q => hq v' b' W' σ' h' tk (st₁.trans st) r q)
      fun e c W'' σ'' h'' tk' st' x q' => he e c W'' σ'' h'' tk' (st₁.trans st') (x.older st₁.dm) q'
/-- «a and b», «a or b» as values, where the parts are bools -/
theorem E_one {op : BoolOp} {e : Expr} {pos : Pos} {Q : V → St → Prop} (h : EOk u A l env Rp (eval e env) ρ Q X σ) : EOk u A l env Rp (eval (.BoolOp op [e] pos) env) ρ Q X σ :=
  fun W s H L QC EC hq he => BoolOp_one (h W s H L QC EC hq he)
theorem E_and {e₁ e₂ : Expr} {r : List Expr} {pos : Pos} {Q : V → St → Prop}
    (h : EOk u A l env Rp (eval e₁ env) ρ (fun x σ₁ => ∃ b, x = .bool b ∧ (b = true → EOk u A l env Rp (eval (.BoolOp .And (e₂ :: r) pos) env) ρ Q X σ₁) ∧ (b = false → Q (.bool false) σ₁)) X σ) :
    EOk u A l env Rp (eval (.BoolOp .And (e₁ :: e₂ :: r) pos) env) ρ Q X σ := by
  intro W s H L QC EC hq he
  refine BoolOp_and (h W s H L _ EC (fun v x W₁ σ₁ h₁ tk₁ st₁ r₁ q₁ => ?_) he)
  obtain ⟨b, rfl, q, q'⟩ := q₁
  obtain rfl := rp_boolI r₁
  refine wpAny_truthy_bool ?_
  cases b with
  | true =>
    rw [if_pos rfl]
    exact q rfl W₁ _ st₁.hp (L.stepE st₁) QC EC (fun v' b' W' σ' h' tk st r q => hq v' b' W' σ' h' tk (st₁.trans st) r q)
      fun e c W'' σ'' h'' tk' st' x q' => he e c W'' σ'' h'' tk' (st₁.trans st') (x.older st₁.dm) q'
  | false => rw [if_neg (by decide)]; exact hq _ (.bool false) W₁ σ₁ h₁ tk₁ st₁ rp_bool (q' rfl)
theorem E_neg {i : Expr} {pos : Pos} {Q : V → St → Prop} (h : EOk u A l env Rp (eval i env) ρ (kNeg Q) X σ) : EOk u A l env Rp (eval (.UnaryOp .USub i pos) env) ρ Q X σ := by
  intro W s H L QC EC hq he
  refine wpAny_UnaryOp (h W s H L _ EC (fun v x W₁ σ₁ h₁ tk₁ st₁ r₁ q₁ => ?_) he)
  obtain ⟨k, rfl, q⟩ := q₁
  obtain ⟨t, rfl⟩ := rp_intI r₁
  with_reducible exact neg_int (hq _ (.int (-k)) W₁ σ₁ h₁ _ st₁ rp_int q)
end
section
variable {u : Uni} {A : Around} {l : List Env} {env : Env} {ρ : Loc} {X : Exn → St → Prop} {σ : St} {n : Nat} {hn : Bool} {kd : Str → Option NameKind}

/-! lists of expressions -/
noncomputable def notStar : Expr → Bool
  | .Starred .. => false
  | _ => true
theorem starEach_cons {e : Expr} {r : List Expr} (h : notStar e = true) : starEach (e :: r) env = (false, eval e env) :: starEach r env := by
  cases e <;> first | rfl | cases h
theorem backTo_cons {pos : Pos} {t : Sem Value} {r : List (Bool × Sem Value)} : backTo pos ((false, t) :: r) = (false, t) :: backTo pos r := rfl
theorem plain_of : ∀ {es : List Expr}, es.all notStar = true → ((backTo pos (starEach es env)).any (·.1)) = false
  | [], _ => rfl
  | e :: r, h => by
    rw [List.all_cons, Bool.and_eq_true] at h
    rw [starEach_cons h.1, backTo_cons, List.any_cons, plain_of h.2]; rfl

noncomputable abbrev EsOk (u : Uni) (A : Around) (l : List Env) (env : Env) (pos : Pos) (es : List Expr) (ρ : Loc) (Q : List V → St → Prop) (X : Exn → St → Prop) (σ : St) : Prop :=
  EOk u A l env RpL (spliced (backTo pos (starEach es env))) ρ Q X σ
theorem Es_nil {pos : Pos} {Q : List V → St → Prop} (q : Q [] σ) : EsOk u A l env pos [] ρ Q X σ :=
  fun W s H _ QC _ hq _ => spliced_nil (hq [] [] W σ s.heap s.toks (.refl H) RepL.nil q)
@[reducible] noncomputable def kC (Q : List V → St → Prop) (x : V) : List V → St → Prop := fun xs σ₂ => Q (x :: xs) σ₂
@[reducible] noncomputable def kEs (u : Uni) (A : Around) (l : List Env) (env : Env) (pos : Pos) (r : List Expr) (ρ : Loc) (Q : List V → St → Prop) (X : Exn → St → Prop) : V → St → Prop := fun x σ₁ => EsOk u A l env pos r ρ (kC Q x) X σ₁
@[reducible] noncomputable def kT (f : List V → V) (Q : V → St → Prop) : List V → St → Prop := fun xs σ₁ => xs.length ≤ 16777216 ∧ Q (f xs) σ₁
theorem Es_cons {pos : Pos} {e : Expr} {r : List Expr} {Q : List V → St → Prop} (h : EOk u A l env Rp (eval e env) ρ (kEs u A l env pos r ρ Q X) X σ) (hs : notStar e = true := by rfl) :
    EsOk u A l env pos (e :: r) ρ Q X σ := by
  intro W s H L QC EC hq he
  rw [starEach_cons hs, backTo_cons]
  refine spliced_cons (h W s H L _ EC (fun v x W₁ σ₁ h₁ tk₁ st₁ r₁ q₁ => ?_) he)
  refine q₁ W₁ _ st₁.hp (L.stepE st₁) _ EC (fun vs xs W₂ σ₂ h₂ tk₂ st₂ r₂ q₂ => ?_) (fun e c W'' σ'' h'' tk' st' x q' => he e c W'' σ'' h'' tk' (st₁.trans st') (x.older st₁.dm) q')
  exact hq (v :: vs) (x :: xs) W₂ σ₂ h₂ tk₂ (st₁.trans st₂) (RepL.cons (st₂.rp r₁) r₂) q₂

/-! a new frozen object -/
noncomputable def Wd.add (W : Wd) (a : Addr) (o : Obj) : Wd := { W with F := fun b => if b = a then some o else W.F b }
theorem fz_none {W : Wd} {σ : St} {l h} (H : Hp u W σ l h) {a : Addr} (ha : h.get? a = none) : W.F a = none := by
  cases e : W.F a with
  | none => rfl
  | some o => rw [H.froz a o e] at ha; cases ha
theorem mut_none {W : Wd} {σ : St} {l h} (H : Hp u W σ l h) {a : Addr} (ha : h.get? a = none) (k : Hd) : ¬ MutK W σ k a := fun m => by
  obtain ⟨o, e⟩ := MutK.there H m
  rw [e] at ha; cases ha
theorem ent_mono {W W' : Wd} {σ σ' : St} (m : ∀ x v, Rp W σ x v → Rp W' σ' x v) : ∀ {fs : List (Str × V)} {es : List DictEntry}, EntL W σ fs es → EntL W' σ' fs es
  | [], _, h => h
  | (x, y) :: r, es, h => by
    obtain ⟨e, es', a, b, c, d⟩ := h
    exact ⟨e, es', a, b, m _ _ c, ent_mono m d⟩
theorem cell_mono {W W' : Wd} {σ σ' : St} {h h' : Heap} {k : Hd} {c : Cell} (m : ∀ x v, Rp W σ x v → Rp W' σ' x v) (mL : ∀ x v, RpL W σ x v → RpL W' σ' x v) (ha : W'.al k = W.al k) (hd : W'.dl k = W.dl k)
    (g1 : ∀ o, c.live → h.get? (W.al k) = some o → h'.get? (W.al k) = some o) (g2 : ∀ o c' fs, c = .inst c' fs → h.get? (W.dl k) = some o → h'.get? (W.dl k) = some o)
    (x : CellAt u W σ h k c) : CellAt u W' σ' h' k c := by
  cases c with
  | dead => trivial
  | lst p vs =>
    obtain ⟨o, arr, n, a1, a2, a3, a4, a5⟩ := x
    exact ⟨o, arr, n, by rw [ha]; exact g1 _ trivial a1, a2, a3, a4, mL _ _ a5⟩
  | inst c' fs =>
    obtain ⟨es, n, a1, a2, a3, a4⟩ := x
    exact ⟨es, n, by rw [ha, hd]; exact g1 _ trivial a1, by rw [hd]; exact g2 _ _ _ rfl a2, ent_mono m a3, a4⟩
theorem mutAdd {W : Wd} {σ : St} {a : Addr} {o : Obj} {k b} : MutK (W.add a o) σ k b ↔ MutK W σ k b := by
  unfold MutK Wd.add; exact Iff.rfl

/-- the heap grown by things that are not told of -/
theorem Step.grow {W : Wd} {σ : St} {h h' : Heap} (H : Hp u W σ l h) (L : Addr) (m : Str → Option Value) (hL : h.Ns L m) (hL' : h'.Ns L m) (fL : W.F L = none) (nL : ∀ k, ¬ MutK W σ k L)
    (keep : ∀ b o, b ≠ L → h.get? b = some o → h'.get? b = some o) : Step u l noOwn W σ h W σ h' := by
  have ff : ∀ a o, W.F a = some o → h'.get? a = some o := fun a o e => keep a o (fun q => by rw [q, fL] at e; cases e) (H.froz a o e)
  refine ⟨⟨H.base, ff, fun k => ?_, H.mutF, H.sep, H.sepi, fun e he => ?_⟩, fun _ _ e => e, fun _ e => ⟨rfl, rfl, e⟩, fun b o e nm _ => ?_, fun _ _ e => .inl e, fun _ _ e => .inl e, fun b o e => ?_⟩
  · refine cell_mono (fun _ _ r => r) (fun _ _ r => r) rfl rfl (fun o lv e => keep _ o (fun q => ?_) e) (fun o c' fs ec e => keep _ o (fun q => ?_) e) (H.cell k)
    · refine nL k ?_
      unfold MutK
      cases ec : σ.get k with
      | dead => rw [ec] at lv; exact lv.elim
      | lst p vs => exact q.symm
      | inst c' fs => exact .inl q.symm
    · refine nL k ?_
      unfold MutK
      rw [ec]; exact .inr q.symm
  · obtain ⟨a1, L', m', a2, a3, a4, a6, a5⟩ := H.frm e he
    refine ⟨a1, L', m', a2, ?_, a4, a6, a5⟩
    by_cases q : L' = L
    · subst q
      obtain ⟨o, ho, n⟩ := ns_iff.mp a3
      obtain ⟨o', ho', n'⟩ := ns_iff.mp hL
      rw [ho] at ho'; cases ho'
      rw [n.inj n']; exact hL'
    · obtain ⟨o, ho, n⟩ := ns_iff.mp a3
      exact ns_iff.mpr ⟨o, keep _ _ q ho, n⟩
  · by_cases q : b = L
    · subst q
      obtain ⟨o₁, ho, n⟩ := ns_iff.mp hL
      obtain ⟨o₂, ho₂, n₂⟩ := ns_iff.mp hL'
      rw [e] at ho; cases ho
      exact ⟨o₂, ho₂, .inr ⟨m, n, n₂⟩⟩
    · exact ⟨o, keep b o q e, .refl o⟩
  · by_cases q : b = L
    · subst q
      obtain ⟨o₂, ho₂, n₂⟩ := ns_iff.mp hL'
      exact ⟨o₂, ho₂⟩
    · exact ⟨o, keep b o q e⟩

theorem add_le {W : Wd} {a : Addr} {o : Obj} (fa : W.F a = none) : ∀ b o', W.F b = some o' → (W.add a o).F b = some o' := fun b o' e => by
  show (if b = a then some o else W.F b) = some o'
  rw [if_neg (fun q => by rw [q, fa] at e; cases e)]; exact e
theorem add_here {W : Wd} {a : Addr} {o : Obj} : (W.add a o).F a = some o := if_pos rfl
/-- an object that the heap has got since, now known as frozen -/
theorem Step.freeze {W : Wd} {σ : St} {h h' : Heap} (H : Hp u W σ l h) (S : Step u l noOwn W σ h W σ h') {a : Addr} {o : Obj} (ha : h.get? a = none) (ha' : h'.get? a = some o) : Step u l noOwn W σ h (W.add a o) σ h' := by
  have fa := fz_none H ha
  have na := fun k => mut_none H ha k
  have le := add_le (o := o) fa
  have m : ∀ x v, Rp W σ x v → Rp (W.add a o) σ x v := fun x v r => Rep.mono le (fun _ e => ⟨rfl, e⟩) x v r
  have mL : ∀ x v, RpL W σ x v → RpL (W.add a o) σ x v := fun x v r => RepL.mono le (fun _ e => ⟨rfl, e⟩) x v r
  have P := S.hp
  refine ⟨⟨fun b x e => le _ _ (P.base b x e), fun b x e => ?_, fun k => cell_mono m mL rfl rfl (fun _ _ e => e) (fun _ _ _ _ e => e) (P.cell k), fun k b e => ?_, fun k k' b e e' => P.sep k k' b (mutAdd.mp e) (mutAdd.mp e'), P.sepi, fun e he => ?_⟩,
    le, S.al, S.up, fun k b e => S.nm k b (mutAdd.mp e), fun b x e => ?_, S.dm⟩
  · by_cases q : b = a
    · subst q; rw [add_here] at e; cases e; exact ha'
    · have e' : W.F b = some x := by rw [← e]; show _ = if b = a then some o else W.F b; rw [if_neg q]
      exact P.froz b x e'
  · have e' := mutAdd.mp e
    have : b ≠ a := fun q => na k (q ▸ e')
    show (if b = a then some o else W.F b) = none
    rw [if_neg this]; exact P.mutF k b e'
  · obtain ⟨a1, L', m', a2, a3, a4, a6, a5⟩ := P.frm e he
    obtain ⟨_, L₂, m₂, b2, b3, _, _⟩ := H.frm e he
    rw [a2] at b2; cases b2
    refine ⟨a1, L', m', a2, a3, ?_, a6, fun k q => a5 k (mutAdd.mp q)⟩
    show (if L' = a then some o else W.F L') = none
    rw [if_neg ?_]
    · exact a4
    · intro q; subst q
      obtain ⟨o₁, ho, _⟩ := ns_iff.mp b3
      rw [ha] at ho; cases ho
  · by_cases q : b = a
    · subst q; exact .inr ha
    · have e' : W.F b = some x := by rw [← e]; show _ = if b = a then some o else W.F b; rw [if_neg q]
      exact S.nf b x e'

/-- any frame's table: what the library's rules hang on -/
theorem frame_at {W : Wd} {σ : St} {h : Heap} (H : Hp u W σ l h) (ne : l ≠ []) : ∃ L m, Fr u.g₀ L h m ∧ W.F L = none ∧ ∀ k, ¬ MutK W σ k L := by
  cases l with
  | nil => exact absurd rfl ne
  | cons e r => obtain ⟨_, L, m, _, a, b, d, c⟩ := H.frm e (.head _); exact ⟨L, m, ⟨a, fun b o e => H.froz _ _ (H.base _ _ e), d⟩, b, c⟩
/-- all the heap's objects but one and the first ones, as a ledger -/
noncomputable def allOf (g h : Heap) (L : Addr) : List (Addr × Obj) := (List.range h.objs.size).filterMap fun a => if a = L ∨ (g.get? a).isSome = true then none else (h.get? a).map fun o => (a, o)
theorem mem_allOf {g h : Heap} {L a : Addr} {o : Obj} : (a, o) ∈ allOf g h L ↔ a ≠ L ∧ g.get? a = none ∧ h.get? a = some o := by
  unfold allOf
  rw [List.mem_filterMap]
  constructor
  · rintro ⟨b, _, e⟩
    by_cases q : b = L ∨ (g.get? b).isSome = true
    · rw [if_pos q] at e; cases e
    · rw [if_neg q] at e
      obtain ⟨x, e1, e2⟩ := Option.map_eq_some_iff.mp e
      cases e2
      refine ⟨fun z => q (.inl z), ?_, e1⟩
      cases z : g.get? a with
      | none => rfl
      | some _ => exact absurd (.inr (by rw [z]; rfl)) q
  · rintro ⟨n, g', e⟩
    refine ⟨a, List.mem_range.mpr (Heap.lt_size e), ?_⟩
    rw [if_neg (by rw [g']; rintro (z | z); exact n z; cases z), e]; rfl
theorem newsA (g h : Heap) (L : Addr) : News g L h (allOf g h L) := fun p hp => by
  obtain ⟨a, o⟩ := p
  obtain ⟨n, g', e⟩ := mem_allOf.mp hp
  exact ⟨e, n, g'⟩
theorem news_keep {W : Wd} {σ : St} {h h' : Heap} {L : Addr} {m : Str → Option Value} {more : List (Addr × Obj)} (H : Hp u W σ l h) (F : Fr u.g₀ L h' m) (N : News u.g₀ L h' (more ++ allOf u.g₀ h L)) : ∀ b o, b ≠ L → h.get? b = some o → h'.get? b = some o := fun b o n e => by
  cases z : u.g₀.get? b with
  | none => exact (N (b, o) (List.mem_append_right _ (mem_allOf.mpr ⟨n, z, e⟩))).1
  | some o' =>
    have := H.froz _ _ (H.base _ _ z)
    rw [e] at this; cases this
    exact F.keep _ _ z
theorem Step.news {W : Wd} {σ : St} {h h' : Heap} (H : Hp u W σ l h) {L : Addr} {m : Str → Option Value} (F₀ : Fr u.g₀ L h m) (fL : W.F L = none) (nL : ∀ k, ¬ MutK W σ k L) {more : List (Addr × Obj)}
    (F : Fr u.g₀ L h' m) (N : News u.g₀ L h' (more ++ allOf u.g₀ h L)) : Step u l noOwn W σ h W σ h' := Step.grow H L m F₀.ns F.ns fL nL (news_keep H F N)
/-- a plain alloc -/
theorem Step.push {W : Wd} {σ : St} {h : Heap} (H : Hp u W σ l h) (ne : l ≠ []) (o : Obj) : Step u l noOwn W σ h W σ (h.push o) := by
  obtain ⟨L, m, n, f, k⟩ := frame_at H ne
  exact Step.grow H L m n.ns (n.ns.push o) f k fun b o' _ e => Heap.get?_push_of_some _ e
theorem Step.pushF {W : Wd} {σ : St} {h : Heap} (H : Hp u W σ l h) (ne : l ≠ []) (o : Obj) (hf : o.isFreed = false) : Step u l noOwn W σ h (W.add h.objs.size o) σ (h.push o) :=
  (Step.push H ne o).freeze H (by
    cases e : h.get? h.objs.size with
    | none => rfl
    | some o' => exact absurd (Heap.lt_size e) (Nat.lt_irrefl _)) (Heap.get?_push_size _ hf)

theorem line_le {k : Nat} (h : k ≤ 16777216) : k ≤ sizeLine := by rw [sizeLine_eq]; exact h
theorem E_tuple {es : List Expr} {k : Nat} {pos : Pos} {Q : V → St → Prop} (C : ECx u A l env n hn kd) (h : EsOk u A l env pos es ρ (kT V.tup Q) X σ) :
    EOk u A l env Rp (eval (.Tuple es k pos) env) ρ Q X σ := by
  intro W s H L QC EC hq he
  refine Tuple_ (h W s H L _ EC (fun vs xs W₁ σ₁ h₁ tk₁ st₁ r₁ q₁ => ?_) he)
  refine wpAny_newTuple ?_ (line_le (by rw [RepL.length r₁]; exact q₁.1))
  have st := Step.pushF st₁.hp C.ne { cls := .type "tuple", data := .seq vs.toArray } rfl
  exact hq _ (.tup xs) _ σ₁ _ tk₁ (st₁.trans st) (rp_tup add_here rfl rfl (by exact st.rpL r₁)) q₁.2
theorem E_list {es : List Expr} {pos : Pos} {Q : V → St → Prop} (C : ECx u A l env n hn kd) (h : EsOk u A l env pos es ρ (kT V.lst Q) X σ) :
    EOk u A l env Rp (eval (.List es pos) env) ρ Q X σ := by
  intro W s H L QC EC hq he
  refine List_ (h W s H L _ EC (fun vs xs W₁ σ₁ h₁ tk₁ st₁ r₁ q₁ => ?_) he)
  refine wpAny_newList ?_ (line_le (by rw [RepL.length r₁]; exact q₁.1))
  have st := Step.pushF st₁.hp C.ne { cls := .type "list", data := .seq vs.toArray } rfl
  exact hq _ (.lst xs) _ σ₁ _ tk₁ (st₁.trans st) (rp_lst add_here rfl rfl rfl (by exact st.rpL r₁)) q₁.2

/-! an item -/
theorem E_sub {v i : Expr} {pos : Pos} {Q : V → St → Prop}
    (h : EOk u A l env Rp (eval v env) ρ (kE u A l env i ρ (kB u A l (subscriptTail v i) Q X) X) X σ) :
    EOk u A l env Rp (eval (.Subscript v i pos) env) ρ Q X σ := by
  intro W s H L QC EC hq he
  refine Subscript_ (h W s H L _ EC (fun v x W₁ σ₁ h₁ tk₁ st₁ r₁ q₁ => ?_) he)
  refine q₁ W₁ _ st₁.hp (L.stepE st₁) _ EC (fun w y W₂ σ₂ h₂ tk₂ st₂ r₂ q₂ => ?_) (fun e c W'' σ'' h'' tk' st' x q' => he e c W'' σ'' h'' tk' (st₁.trans st') (x.older st₁.dm) q')
  exact q₂ W₂ v w _ st₂.hp (st₂.rp r₁) r₂ QC EC (fun v' b' W' σ' h' tk st r q => hq v' b' W' σ' h' tk ((st₁.trans st₂).trans st) r q)
    fun e c W'' σ'' h'' tk' st' x q' => he e c W'' σ'' h'' tk' ((st₁.trans st₂).trans st') (x.older (st₁.trans st₂).dm) q'
noncomputable def noSlice : Expr → Bool
  | .Slice .. => false
  | _ => true
theorem subd {i : Expr} (h : noSlice i = true) (o w : Value) : subscripted i false o w = operate [o, w] (getItem o w) := by
  cases i <;> first | rfl | cases h
theorem Sub_list {v i : Expr} {xs : List V} {k : Int} {y : V} {Q : V → St → Prop} (hk : 0 ≤ k) (hz : xs.length ≤ 16777216) (e : xs[k.toNat]? = some y) (q : Q y σ) (hi : noSlice i = true := by rfl) :
    BinP u A l (subscriptTail v i) (.lst xs) (.int k) Q X σ := by
  intro W a b s H r₁ r₂ QC EC hq he
  obtain ⟨ad, o, arr, n, rfl, hF, hc, hd, hdi, rl⟩ := rp_lstI r₁
  obtain ⟨t, rfl⟩ := rp_intI r₂
  obtain ⟨w, ew, rw'⟩ := RepL.get rl e
  have il : s.heap.IsList ad arr := ⟨o, H.froz _ _ hF, hc, n, hd⟩
  have hlt : k.toNat < xs.length := (List.getElem?_eq_some_iff.mp e).1
  refine tail_any il.typeIs slot_list_getitem.lookup (wpAny_getItem_list il hk (by lcg_off) (by rw [← Array.getElem?_toList]; exact ew) ?_) (subd hi _ _)
  exact hq w y W σ s.heap s.toks (.refl H) rw' q
theorem Sub_tup {v i : Expr} {xs : List V} {k : Int} {y : V} {Q : V → St → Prop} (hk : 0 ≤ k) (hz : xs.length ≤ 16777216) (e : xs[k.toNat]? = some y) (q : Q y σ) (hi : noSlice i = true := by rfl) :
    BinP u A l (subscriptTail v i) (.tup xs) (.int k) Q X σ := by
  intro W a b s H r₁ r₂ QC EC hq he
  obtain ⟨ad, o, arr, n, rfl, hF, hc, hd, rl⟩ := rp_tupI r₁
  obtain ⟨t, rfl⟩ := rp_intI r₂
  obtain ⟨w, ew, rw'⟩ := RepL.get rl e
  have il : IsTup s.heap ad arr := ⟨o, H.froz _ _ hF, hc, n, hd⟩
  have hlt : k.toNat < xs.length := (List.getElem?_eq_some_iff.mp e).1
  have hl := RepL.length rl
  refine item_tupleT (l := arr.toList) (j := k.toNat) (by simpa using il) (by lcg_off) (by lcg_off) ?_ ew (hq w y W σ s.heap s.toks (.refl H) rw' q) (subd hi _ _)
  have e1 : ¬ k < 0 := by lcg_off
  have e2 : k < (arr.toList.length : Int) := by lcg_off
  simp only [seqIndex?, if_neg e1, hk, e2, decide_true, Bool.and_self, if_true]
theorem Sub_bytes {v i : Expr} {d : List UInt8} {k : Int} {Q : V → St → Prop} (hk : 0 ≤ k) (hk' : k < d.length) (hz : d.length ≤ 16777216) (q : Q (.int ((d.getD k.toNat 0).toNat : Nat)) σ) (hi : noSlice i = true := by rfl) :
    BinP u A l (subscriptTail v i) (.bytes d) (.int k) Q X σ := by
  intro W a b s H r₁ r₂ QC EC hq he
  obtain ⟨t, rfl⟩ := rp_bytesI r₁
  obtain ⟨t', rfl⟩ := rp_intI r₂
  refine tail_any (typeIs_bytes _ _ _) FB.slot_bytes_getitem.lookup (getItem_bytes (by lcg_off) hk hk' ?_) (subd hi _ _)
  exact hq _ (.int _) W σ s.heap _ (.refl H) rp_int q
theorem Sub_cell {v i : Expr} {k : Hd} {xs : List V} {j : Int} {y : V} {Q : V → St → Prop} {p : Bool} (hc : σ.get k = .lst p xs) (hj : 0 ≤ j) (hz : xs.length ≤ 16777216) (e : xs[j.toNat]? = some y) (q : Q y σ) (hi : noSlice i = true := by rfl) :
    BinP u A l (subscriptTail v i) (.ref k) (.int j) Q X σ := by
  intro W a b s H r₁ r₂ QC EC hq he
  obtain ⟨rfl, lv⟩ := rp_refI r₁
  obtain ⟨t, rfl⟩ := rp_intI r₂
  have c := H.cell k
  rw [hc] at c
  obtain ⟨o, arr, n, c1, c2, c3, c4, rl⟩ := c
  obtain ⟨w, ew, rw'⟩ := RepL.get rl e
  have il : s.heap.IsList (W.al k) arr := ⟨o, c1, c2, n, c3⟩
  have hlt : j.toNat < xs.length := (List.getElem?_eq_some_iff.mp e).1
  refine tail_any il.typeIs slot_list_getitem.lookup (wpAny_getItem_list il hj (by lcg_off) (by rw [← Array.getElem?_toList]; exact ew) ?_) (subd hi _ _)
  exact hq w y W σ s.heap s.toks (.refl H) rw' q
end
section
variable {u : Uni} {A : Around} {l : List Env} {env : Env} {ρ : Loc} {X : Exn → St → Prop} {σ : St} {n : Nat} {hn : Bool} {kd : Str → Option NameKind}

theorem handed {W : Wd} {x : V} {v : Value} (r : Rp W σ x v) : handedIn v = true := by
  cases x with
  | none => rw [rp_noneI r]; rfl
  | bool b => rw [rp_boolI r]; rfl
  | int i => obtain ⟨t, rfl⟩ := rp_intI r; rfl
  | bytes b => obtain ⟨t, rfl⟩ := rp_bytesI r; rfl
  | str => obtain ⟨x, t, rfl⟩ := rp_strI r; rfl
  | tup xs => obtain ⟨a, _, _, _, rfl, _⟩ := rp_tupI r; rfl
  | lst xs => obtain ⟨a, _, _, _, rfl, _⟩ := rp_lstI r; rfl
  | rng a b => obtain ⟨a, _, _, _, _, rfl, _⟩ := rp_rngI r; rfl
  | ref k => rw [(rp_refI r).1]; rfl

theorem ent_get {W : Wd} {x : Str} : ∀ {fs : List (Str × V)} {es : List DictEntry}, EntL W σ fs es →
    (∀ y, lk fs x = some y → ∃ v, getL x es = some (some v) ∧ Rp W σ y v) ∧ (lk fs x = none → getL x es = some none)
  | [], es, h => by obtain rfl := h; exact ⟨fun y e => (by cases e), fun _ => rfl⟩
  | (z, y) :: r, es, h => by
    obtain ⟨e, es', rfl, ⟨t, hk⟩, hv, hr⟩ := h
    obtain ⟨i1, i2⟩ := ent_get (x := x) hr
    have hs : e.key.isStr x = (z == x) := by rw [hk]; rfl
    have hr' : e.refKey = false := by unfold DictEntry.refKey; rw [hk]
    unfold getL lk
    rw [List.find?_cons, hs, List.any_cons, hr', Bool.false_or]
    by_cases q : z = x
    · subst q
      simp only [beq_self_eq_true, if_true]
      exact ⟨fun y' e' => (by cases e'; exact ⟨_, rfl, hv⟩), fun e' => (by cases e')⟩
    · rw [show (z == x) = false from beq_false_of_ne q, if_neg q]
      exact ⟨i1, i2⟩

theorem inst_at {W : Wd} {h : Heap} {k : Hd} {c : Cls} {fs : List (Str × V)} (x : CellAt u W σ h k (.inst c fs)) :
    ∃ es n, PySem.W.InstAt h (W.al k) (instObj (u.cls c) (W.dl k)) (u.cls c) (some (dictOf es n)) ∧ EntL W σ fs es ∧ fs.length ≤ 100 := by
  obtain ⟨es, n, a1, a2, a3, a4⟩ := x
  exact ⟨es, n, ⟨a1, rfl, rfl, a2⟩, a3, a4⟩

/-! a field read -/
noncomputable def AttrP (u : Uni) (A : Around) (l : List Env) (name : Str) (x : V) (Q : V → St → Prop) (X : Exn → St → Prop) (σ : St) : Prop :=
  ∀ W v (s : Shared), Hp u W σ l s.heap → Rp W σ x v → OpOk u A l Rp (getAttr v name true) Q X W σ s
theorem Attr_get {k : Hd} {c : Cls} {fs : List (Str × V)} {name : Str} {y : V} {Q : V → St → Prop} (C : ECx u A l env n hn kd) (hc : σ.get k = .inst c fs) (hf : name ∈ fldNames) (hl : lk fs name = some y) (q : Q y σ) :
    AttrP u A l name (.ref k) Q X σ := by
  intro W v s H r QC EC hq he
  obtain ⟨rfl, lv⟩ := rp_refI r
  have cc := H.cell k
  rw [hc] at cc
  obtain ⟨es, n', I, hE, _⟩ := inst_at cc
  obtain ⟨w, hg, rw'⟩ := (ent_get (x := name) hE).1 y hl
  obtain ⟨L, m, F, _, _⟩ := frame_at H C.ne
  exact get_own F u.X I (u.getA c name) (u.hasD c) (u.fld c name hf) rfl hg (handed rw') (hq w y W σ s.heap _ (.refl H) rw' q)

@[reducible] noncomputable def kA (u : Uni) (A : Around) (l : List Env) (name : Str) (Q : V → St → Prop) (X : Exn → St → Prop) : V → St → Prop := fun x σ₁ => AttrP u A l name x Q X σ₁
theorem E_attr {o : Expr} {name : Str} {pos : Pos} {Q : V → St → Prop}
    (h : EOk u A l env Rp (eval o env) ρ (kA u A l name Q X) X σ)
    (hs : eval (.Attribute o name pos) env = (do
      let o' ← eval o env
      standAt pos.atName
      let r ← holding [o'] (getAttr o' name true)
      letTemporaryGo o o' r
      pure r) := by with_unfolding_all rfl) :
    EOk u A l env Rp (eval (.Attribute o name pos) env) ρ Q X σ := by
  intro W s H L QC EC hq he
  refine Attribute_any_ (h W s H L _ EC (fun v x W₁ σ₁ h₁ tk₁ st₁ r₁ q₁ => ?_) he) hs
  exact q₁ W₁ v _ st₁.hp r₁ QC EC (fun v' b' W' σ' h' tk st r q => hq v' b' W' σ' h' tk (st₁.trans st) r q)
    fun e c W'' σ'' h'' tk' st' x q' => he e c W'' σ'' h'' tk' (st₁.trans st') (x.older st₁.dm) q'

/-! a cell turned -/
noncomputable def Cell.kin : Cell → Nat
  | .dead => 0
  | .lst .. => 1
  | .inst .. => 2
theorem mut_kd {W : Wd} {σ σ' : St} {k : Hd} {a : Addr} (h : (σ'.get k).kin = (σ.get k).kin) : MutK W σ' k a ↔ MutK W σ k a := by
  unfold MutK
  cases e : σ.get k <;> cases e' : σ'.get k <;> rw [e, e'] at h <;> first | exact Iff.rfl | cases h
theorem live_kd {σ σ' : St} {k : Hd} (h : (σ'.get k).kin = (σ.get k).kin) : live σ' k ↔ live σ k := by
  unfold live
  cases e : σ.get k <;> cases e' : σ'.get k <;> rw [e, e'] at h <;> first | exact Iff.rfl | cases h
theorem set_kd {k : Hd} {c : Cell} (h : c.kin = (σ.get k).kin) (k' : Hd) : ((σ.set k c).get k').kin = (σ.get k').kin := by
  rcases Hd.em k' k with q | q
  · subst q; rw [St.get_set_same]; exact h
  · rw [St.get_set_ne σ c q]
theorem rp_set {W : Wd} {k : Hd} {c : Cell} (h : c.kin = (σ.get k).kin) {x : V} {v : Value} (r : Rp W σ x v) : Rp W (σ.set k c) x v :=
  Rep.mono (fun _ _ e => e) (fun k' e => ⟨rfl, (live_kd (set_kd h k')).mpr e⟩) x v r
theorem rpL_set {W : Wd} {k : Hd} {c : Cell} (h : c.kin = (σ.get k).kin) {x : List V} {v : List Value} (r : RpL W σ x v) : RpL W (σ.set k c) x v :=
  RepL.mono (fun _ _ e => e) (fun k' e => ⟨rfl, (live_kd (set_kd h k')).mpr e⟩) x v r

theorem Step.turn {W : Wd} {h h' : Heap} (H : Hp u W σ l h) {k : Hd} {c : Cell} (hk : c.kin = (σ.get k).kin) {L d : Addr} {m : Str → Option Value} (hL : h.Ns L m) (hL' : h'.Ns L m) (fL : W.F L = none) (nL : ∀ k, ¬ MutK W σ k L)
    (hd : MutK W σ k d) (keep : ∀ b o, b ≠ L → b ≠ d → h.get? b = some o → h'.get? b = some o) (dd : ∃ o, h'.get? d = some o) (hc : CellAt u W (σ.set k c) h' k c) : Step u l noOwn W σ h W (σ.set k c) h' := by
  have ff : ∀ a o, W.F a = some o → h'.get? a = some o := fun a o e =>
    keep a o (fun q => by rw [q, fL] at e; cases e) (fun q => by rw [q, H.mutF k d hd] at e; cases e) (H.froz a o e)
  have mk := fun k' a => mut_kd (W := W) (a := a) (set_kd hk k')
  refine ⟨⟨H.base, ff, fun k' => ?_, fun k' a e => H.mutF k' a ((mk k' a).mp e), fun k₁ k₂ a e e' => H.sep k₁ k₂ a ((mk _ _).mp e) ((mk _ _).mp e'), fun k' c' fs e => ?_, fun e he => ?_⟩, fun _ _ e => e,
    fun k' e => ⟨rfl, rfl, (live_kd (set_kd hk k')).mpr e⟩, fun b o e nm _ => ?_, fun k' b e => .inl ((mk k' b).mp e), fun _ _ e => .inl e, fun b o e => ?_⟩
  · rcases Hd.em k' k with q | q
    · subst q; rw [St.get_set_same]; exact hc
    · rw [St.get_set_ne σ c q]
      have nd : ∀ a, MutK W σ k' a → a ≠ d := fun a e z => q (H.sep k' k a e (z ▸ hd))
      have nl : ∀ a, MutK W σ k' a → a ≠ L := fun a e z => nL k' (z ▸ e)
      refine cell_mono (fun _ _ r => rp_set hk r) (fun _ _ r => rpL_set hk r) rfl rfl (fun o lv e => ?_) (fun o c' fs ec e => ?_) (H.cell k')
      · have mm : MutK W σ k' (W.al k') := by
          unfold MutK
          cases ec : σ.get k' with
          | dead => rw [ec] at lv; exact lv.elim
          | lst p vs => rfl
          | inst c' fs => exact .inl rfl
        exact keep _ o (nl _ mm) (nd _ mm) e
      · have mm : MutK W σ k' (W.dl k') := by unfold MutK; rw [ec]; exact .inr rfl
        exact keep _ o (nl _ mm) (nd _ mm) e
  · rcases Hd.em k' k with q | q
    · subst q
      rw [St.get_set_same] at e
      subst e
      cases ec : σ.get k' with
      | dead => rw [ec] at hk; cases hk
      | lst p vs => rw [ec] at hk; cases hk
      | inst c₁ fs₁ => exact H.sepi k' c₁ fs₁ ec
    · rw [St.get_set_ne σ c q] at e; exact H.sepi k' c' fs e
  · obtain ⟨a1, L', m', a2, a3, a4, a6, a5⟩ := H.frm e he
    refine ⟨a1, L', m', a2, ?_, a4, a6, fun k' e => a5 k' ((mk _ _).mp e)⟩
    by_cases q : L' = L
    · subst q
      obtain ⟨o, ho, n⟩ := ns_iff.mp a3
      obtain ⟨o', ho', n'⟩ := ns_iff.mp hL
      rw [ho] at ho'; cases ho'
      rw [n.inj n']; exact hL'
    · obtain ⟨o, ho, n⟩ := ns_iff.mp a3
      exact ns_iff.mpr ⟨o, keep _ _ q (fun z => a5 k (z ▸ hd)) ho, n⟩
  · by_cases q : b = L
    · subst q
      obtain ⟨o₁, ho, n⟩ := ns_iff.mp hL
      obtain ⟨o₂, ho₂, n₂⟩ := ns_iff.mp hL'
      rw [e] at ho; cases ho
      exact ⟨o₂, ho₂, .inr ⟨m, n, n₂⟩⟩
    · exact ⟨o, keep b o q (fun z => nm k (z ▸ hd)) e, .refl o⟩
  · by_cases q : b = L
    · subst q
      obtain ⟨o₂, ho₂, n₂⟩ := ns_iff.mp hL'
      exact ⟨o₂, ho₂⟩
    · by_cases q' : b = d
      · subst q'; exact dd
      · exact ⟨o, keep b o q q' e⟩

theorem upd_of {d : Addr} {o o' : Obj} : ∀ {ls : List (Addr × Obj)}, (ls.map (·.1)).Nodup → (d, o) ∈ ls → ∃ ls', Upd d o o' ls ls' ∧ (∀ b x, b ≠ d → (b, x) ∈ ls → (b, x) ∈ ls') ∧ (d, o') ∈ ls'
  | [], _, h => nomatch h
  | (b, x) :: r, nd, h => by
    rw [List.map_cons, List.nodup_cons] at nd
    by_cases q : b = d
    · subst q
      have hx : x = o := by
        rcases List.mem_cons.mp h with e | e
        · cases e; rfl
        · exact absurd (List.mem_map_of_mem e) nd.1
      subst hx
      refine ⟨(b, o') :: r, .head fun p hp z => nd.1 (List.mem_map.mpr ⟨p, hp, z⟩), fun b' x' ne hm => ?_, .head _⟩
      rcases List.mem_cons.mp hm with e | e
      · cases e; exact absurd rfl ne
      · exact .tail _ e
    · have h' : (d, o) ∈ r := by
        rcases List.mem_cons.mp h with e | e
        · cases e; exact absurd rfl q
        · exact e
      obtain ⟨ls', U, k1, k2⟩ := upd_of (o' := o') nd.2 h'
      refine ⟨(b, x) :: ls', .tail q U, fun b' x' ne hm => ?_, .tail _ k2⟩
      rcases List.mem_cons.mp hm with e | e
      · cases e; exact .head _
      · exact .tail _ (k1 b' x' ne e)
theorem sub_keys {f : Nat → Option (Addr × Obj)} (hf : ∀ a p, f a = some p → p.1 = a) : ∀ ls : List Nat, ((ls.filterMap f).map (·.1)).Sublist ls
  | [] => .slnil
  | a :: r => by
    cases e : f a with
    | none => rw [List.filterMap_cons_none e]; exact .cons _ (sub_keys hf r)
    | some p => rw [List.filterMap_cons_some e, List.map_cons, hf a p e]; exact .cons_cons _ (sub_keys hf r)
theorem allOf_nodup (g h : Heap) (L : Addr) : ((allOf g h L).map (·.1)).Nodup := by
  refine List.Sublist.nodup (sub_keys (fun a p e => ?_) _) List.nodup_range
  split at e
  · cases e
  · obtain ⟨o, _, e2⟩ := Option.map_eq_some_iff.mp e
    cases e2; rfl

theorem ent_put {W : Wd} {x : Str} {y : V} {v : Value} {hsh : Int} {tk : Tok} (r : Rp W σ y v) : ∀ {fs : List (Str × V)} {es : List DictEntry}, EntL W σ fs es → EntL W σ (stl fs x y) (putL x hsh (.str x tk) v es)
  | [], es, h => by obtain rfl := h; exact ⟨_, [], rfl, ⟨tk, rfl⟩, r, rfl⟩
  | (z, w) :: fs, es, h => by
    obtain ⟨e, es', rfl, ⟨t, hk⟩, hv, hr⟩ := h
    unfold stl putL
    have hs : e.key.isStr x = (z == x) := by rw [hk]; rfl
    rw [hs]
    by_cases q : z = x
    · subst q
      simp only [beq_self_eq_true, if_true]
      exact ⟨_, es', rfl, ⟨t, hk⟩, r, hr⟩
    · rw [show (z == x) = false from beq_false_of_ne q, if_neg q]
      simp only [Bool.false_eq_true, if_false]
      exact ⟨e, _, rfl, ⟨t, hk⟩, hv, ent_put r hr⟩
theorem ent_len {W : Wd} : ∀ {fs : List (Str × V)} {es : List DictEntry}, EntL W σ fs es → es.length = fs.length
  | [], es, h => by obtain rfl := h; rfl
  | (z, w) :: fs, es, h => by
    obtain ⟨e, es', rfl, _, _, hr⟩ := h
    rw [List.length_cons, List.length_cons, ent_len hr]

theorem Attr_set {k : Hd} {c : Cls} {fs : List (Str × V)} {name : Str} {y : V} {v : Value} {W : Wd} {s : Shared} (ne : l ≠ []) (H : Hp u W σ l s.heap) (hc : σ.get k = .inst c fs) (hf : name ∈ fldNames)
    (hz : (stl fs name y).length ≤ 100) (r : Rp W σ y v) {Q : Unit → Shared → Prop} {E : Value → Shared → Prop}
    (h : ∀ h', Step u l noOwn W σ s.heap W (σ.set k (.inst c (stl fs name y))) h' → Q () { s with heap := h', toks := s.toks + 2 }) :
    wpAny u.M A (setAttr (.ref (W.al k)) name v) Q E s := by
  have cc := H.cell k
  rw [hc] at cc
  obtain ⟨es, n', a1, a2, a3, a4⟩ := cc
  obtain ⟨L, m, F, fL, nL⟩ := frame_at H ne
  have md : MutK W σ k (W.dl k) := by unfold MutK; rw [hc]; exact .inr rfl
  have ma : MutK W σ k (W.al k) := by unfold MutK; rw [hc]; exact .inl rfl
  have kk : Cell.kin (.inst c (stl fs name y)) = (σ.get k).kin := by rw [hc]; rfl
  have hin : (W.dl k, dictOf es n') ∈ allOf u.g₀ s.heap L := by
    refine mem_allOf.mpr ⟨fun q => nL k (q ▸ md), ?_, a2⟩
    cases z : u.g₀.get? (W.dl k) with
    | none => rfl
    | some o => have := H.base _ _ z; rw [H.mutF k _ md] at this; cases this
  have pl := ent_len (ent_put (x := name) (hsh := PyData.keyHash u.w.params name) (tk := s.toks + 1) r a3)
  obtain ⟨ls', U, k1, k2⟩ := upd_of (o' := dictOf (putL name (PyData.keyHash u.w.params name) (.str name (s.toks + 1)) v es) (putN name es n')) (allOf_nodup u.g₀ s.heap L) hin
  refine set_dict F u.X (newsA u.g₀ s.heap L) ⟨a1, rfl, rfl, a2⟩ rfl (u.setA c).1 (u.setA c).2 ?_ (u.hasD c) ?_ rfl U (by rw [pl]; lcg_off) fun h' F' N' => h h' ?_
  · unfold takerIn; rw [u.fld c name hf]; rfl
  · cases e : lk fs name with
    | none => rw [(ent_get (x := name) a3).2 e]; rfl
    | some y' => obtain ⟨w', e', _⟩ := (ent_get (x := name) a3).1 y' e; rw [e']; rfl
  · have keep : ∀ b o, b ≠ L → b ≠ W.dl k → s.heap.get? b = some o → h'.get? b = some o := fun b o n1 n2 e => by
      cases z : u.g₀.get? b with
      | none => exact (N' (b, o) (k1 b o n2 (mem_allOf.mpr ⟨n1, z, e⟩))).1
      | some o' =>
        have := H.froz _ _ (H.base _ _ z)
        rw [e] at this; cases this
        exact F'.keep _ _ z
    refine Step.turn H kk F.ns F'.ns fL nL md keep ⟨_, (N' _ k2).1⟩ ⟨_, _, keep _ _ (fun q => nL k (q ▸ ma)) (H.sepi k c fs hc) a1, (N' _ k2).1, ?_, hz⟩
    exact ent_mono (fun _ _ r => rp_set kk r) (ent_put r a3)
end
/-- where a call is made from -/
structure CCx (u : Uni) (A : Around) (l : List Env) (n : Nat) (hn : Bool) : Prop where
  frames : A.frames = some l
  ne : l ≠ []
  room : A.depth + 4 * n + 8 < recursionLimit
  units : A.units + 24 * n + 40 < cLine
  hand : hn = true → A.handled = none
/-- a call of the value f, said of the plain values -/
noncomputable def SemV (u : Uni) (n : Nat) (hn : Bool) (f : Value) (args : List V) (Q : V → St → Prop) (X : Exn → St → Prop) (σ : St) : Prop :=
  ∀ (A : Around) (l : List Env), CCx u A l n hn → ∀ (W : Wd) (s : Shared), Hp u W σ l s.heap → ∀ vals, RpL W σ args vals → ∀ (R : Result → Shared → Prop),
    (∀ v x W' σ' h' tk, Step u l noOwn W σ s.heap W' σ' h' → Rp W' σ' x v → Q x σ' → R (.ok (.ret v)) ⟨h', s.gens, s.drawn, tk, s.os⟩) →
    (∀ e c W' σ' h' tk, Step u l noOwn W σ s.heap W' σ' h' → Ex u W' σ' l e c s.heap h' → X c σ' → R (.error (.ref e)) ⟨h', s.gens, s.drawn, tk, s.os⟩) →
    codeAny u.M A (.call f ⟨vals, []⟩) R s
noncomputable def Gl (u : Uni) (x : Str) : Prop := ∃ v, u.mg x = some v ∧ keepIn u.K v = true
noncomputable def SemG (u : Uni) (n : Nat) (hn : Bool) (x : Str) (args : List V) (Q : V → St → Prop) (X : Exn → St → Prop) (σ : St) : Prop := ∀ v, u.mg x = some v → SemV u n hn v args Q X σ
noncomputable def Mt (u : Uni) (c : Cls) (x : Str) (f : Addr) : Prop := findIn u.K (.ref (u.cls c)) x = some (some (.ref f)) ∧ isFn u.K (.ref f) = true ∧ keepIn u.K (.ref f) = true
noncomputable def SemM (u : Uni) (n : Nat) (hn : Bool) (c : Cls) (x : Str) (args : List V) (Q : V → St → Prop) (X : Exn → St → Prop) (σ : St) : Prop := ∀ f, Mt u c x f → SemV u n hn (.ref f) args Q X σ

section
variable {u : Uni} {A : Around} {l : List Env} {env : Env} {ρ : Loc} {X : Exn → St → Prop} {σ : St} {n : Nat} {hn : Bool} {kd : Str → Option NameKind}
theorem ECx.call (C : ECx u A l env n hn kd) : CCx u A l n hn := ⟨C.frames, C.ne, C.room, C.units, C.hand⟩

/-! slices -/
noncomputable abbrev PartOk (u : Uni) (A : Around) (l : List Env) (env : Env) (o : Option Expr) (ρ : Loc) (Q : V → St → Prop) (X : Exn → St → Prop) (σ : St) : Prop := EOk u A l env Rp (evalPart o env) ρ Q X σ
theorem Part_none {Q : V → St → Prop} (q : Q .none σ) : PartOk u A l env none ρ Q X σ :=
  fun W s H _ _ _ hq _ => wpAny_evalPart_none (hq _ .none W σ s.heap s.toks (.refl H) rp_none q)
theorem Part_some {e : Expr} {Q : V → St → Prop} (h : EOk u A l env Rp (eval e env) ρ Q X σ) : PartOk u A l env (some e) ρ Q X σ :=
  fun W s H L QC EC hq he => wpAny_evalPart_some (h W s H L QC EC hq he)
noncomputable def endOf : V → Option (Option Nat)
  | .none => some none
  | .int i => if 0 ≤ i then some (some i.toNat) else none
  | _ => none
noncomputable def oi : Option Nat → Option Int
  | none => none
  | some i => some (Int.ofNat i)
noncomputable def cut {α : Type} (xs : List α) (lo hi : Option Nat) : List α := ((hi.elim xs fun j => xs.take j)).drop (lo.getD 0)
theorem part_of {W : Wd} {x : V} {v : Value} {o : Option Nat} (h : endOf x = some o) (r : Rp W σ x v) : IsPart v (oi o) := by
  cases x with
  | none => rw [rp_noneI r]; cases h; exact .none
  | int i =>
    obtain ⟨t, rfl⟩ := rp_intI r
    by_cases q : 0 ≤ i
    · have h : (if 0 ≤ i then some (some i.toNat) else none) = some o := h
      rw [if_pos q] at h
      cases h
      have : Int.ofNat i.toNat = i := Int.toNat_of_nonneg q
      show IsPart (.int i t) (some (Int.ofNat i.toNat))
      rw [this]; exact .int i t
    · have h : (if 0 ≤ i then some (some i.toNat) else none) = some o := h
      rw [if_neg q] at h; cases h
  | _ => cases h
theorem cut_clip {α : Type} (xs : List α) (lo hi : Option Nat) :
    ((xs.drop ((oi lo).elim 0 (clipAt xs.length))).take ((oi hi).elim xs.length (clipAt xs.length) - (oi lo).elim 0 (clipAt xs.length))) = cut xs lo hi := by
  unfold cut
  have ck : ∀ a : Nat, clipAt xs.length (Int.ofNat a) = min a xs.length := fun a => clipAt_nat _ a
  have dt : ∀ a b : Nat, (xs.drop (min a xs.length)).take (min b xs.length - min a xs.length) = (xs.take b).drop a := by
    intro a b
    rw [List.drop_take]
    by_cases h : xs.length ≤ a
    · rw [Nat.min_eq_right h, List.drop_of_length_le (Nat.le_refl _), List.drop_of_length_le h]; simp
    · rw [Nat.min_eq_left (show a ≤ xs.length by lcg_off)]
      by_cases h' : xs.length ≤ b
      · rw [Nat.min_eq_right h', List.take_of_length_le (by simp), List.take_of_length_le (by simp; lcg_off)]
      · rw [Nat.min_eq_left (show b ≤ xs.length by lcg_off)]
  cases lo with
  | none =>
    cases hi with
    | none => simp [oi]
    | some j =>
      have := dt 0 j
      simp only [oi, Option.elim_none, Option.elim_some, ck, Option.getD_none]
      rw [Nat.zero_min] at this
      exact this
  | some i =>
    cases hi with
    | none =>
      have := dt i xs.length
      simp only [oi, Option.elim_none, Option.elim_some, ck, Option.getD_some]
      rw [Nat.min_self, List.take_of_length_le (Nat.le_refl xs.length)] at this
      exact this
    | some j =>
      simp only [oi, Option.elim_some, ck, Option.getD_some]
      exact dt i j
noncomputable def SliceP (u : Uni) (A : Around) (l : List Env) (v i : Expr) (x a b : V) (Q : V → St → Prop) (X : Exn → St → Prop) (σ : St) : Prop :=
  ∀ W v' va vb (s : Shared), Hp u W σ l s.heap → Rp W σ x v' → Rp W σ a va → Rp W σ b vb →
    OpOk u A l Rp (subscriptTail v i v' (.ref s.heap.objs.size)) Q X W σ { s with heap := s.heap.push { cls := .type "slice", data := .fields #[va, vb, .none] } }
@[reducible] noncomputable def kP0 (u : Uni) (A : Around) (l : List Env) (v i : Expr) (Q : V → St → Prop) (X : Exn → St → Prop) (x a : V) : V → St → Prop := fun b σ₃ => SliceP u A l v i x a b Q X σ₃
@[reducible] noncomputable def kP1 (u : Uni) (A : Around) (l : List Env) (env : Env) (hi : Option Expr) (ρ : Loc) (F : V → V → V → St → Prop) (X : Exn → St → Prop) (x : V) : V → St → Prop := fun a σ₂ => PartOk u A l env hi ρ (F x a) X σ₂
@[reducible] noncomputable def kP2 (u : Uni) (A : Around) (l : List Env) (env : Env) (lo : Option Expr) (ρ : Loc) (F : V → V → St → Prop) (X : Exn → St → Prop) : V → St → Prop := fun x σ₁ => PartOk u A l env lo ρ (F x) X σ₁
theorem E_slice {v : Expr} {lo hi : Option Expr} {p pos : Pos} {Q : V → St → Prop} (C : ECx u A l env n hn kd)
    (h : EOk u A l env Rp (eval v env) ρ (kP2 u A l env lo ρ (kP1 u A l env hi ρ (kP0 u A l v (.Slice lo hi none p) Q X) X) X) X σ) :
    EOk u A l env Rp (eval (.Subscript v (.Slice lo hi none p) pos) env) ρ Q X σ := by
  intro W s H L QC EC hq he
  refine Subscript_ (h W s H L _ EC (fun v' x W₁ σ₁ h₁ tk₁ st₁ r₁ q₁ => ?_) he)
  refine wpAny_Slice (q₁ W₁ _ st₁.hp (L.stepE st₁) _ EC (fun va a W₂ σ₂ h₂ tk₂ st₂ r₂ q₂ => ?_) (fun e c W'' σ'' h'' tk' st' x q' => he e c W'' σ'' h'' tk' (st₁.trans st') (x.older st₁.dm) q'))
  have s12 := st₁.trans st₂
  refine q₂ W₂ _ st₂.hp (L.stepE s12) _ EC (fun vb b W₃ σ₃ h₃ tk₃ st₃ r₃ q₃ => ?_) (fun e c W'' σ'' h'' tk' st' x q' => he e c W'' σ'' h'' tk' (s12.trans st') (x.older s12.dm) q')
  have s13 := s12.trans st₃
  refine wpAny_evalPart_none ?_
  have sp := Step.push st₃.hp C.ne { cls := .type "slice", data := .fields #[va, vb, .none] }
  have s14 := s13.trans sp
  exact q₃ W₃ v' va vb ⟨h₃, s.gens, s.drawn, tk₃, s.os⟩ st₃.hp ((st₂.trans st₃).rp r₁) (st₃.rp r₂) r₃ QC EC (fun v' b' W' σ' h' tk st r q => hq v' b' W' σ' h' tk (s14.trans st) r q)
    fun e c W'' σ'' h'' tk' st' x q' => he e c W'' σ'' h'' tk' (s14.trans st') (x.older s14.dm) q'
theorem letgo_bytes {v : Expr} {b : Array UInt8} {t : Tok} (r : Value) : letTemporaryGo v (.bytes b t) r = pure () := by
  cases v <;> rfl
theorem Sl_bytes {v : Expr} {lo hi : Option Expr} {p : Pos} {d : List UInt8} {a b : V} {i j : Option Nat} {Q : V → St → Prop} (C : ECx u A l env n hn kd) (ha : endOf a = some i) (hb : endOf b = some j) (hz : d.length ≤ 16777216)
    (q : Q (.bytes (cut d i j)) σ) : SliceP u A l v (.Slice lo hi none p) (.bytes d) a b Q X σ := by
  intro W v' va vb s H r₁ r₂ r₃ QC EC hq he
  obtain ⟨t, rfl⟩ := rp_bytesI r₁
  obtain ⟨L, m, F, fL, nL⟩ := frame_at H C.ne
  have sp := Step.push H C.ne { cls := .type "slice", data := .fields #[va, vb, .none] }
  have pl := part_of ha r₂
  have pu := part_of hb r₃
  refine tail_of_ItemOn ⟨"bytes", _, FB.slot_bytes_getitem.lookup, typeIs_bytes _ _ _, getItem_meets (typeIs_bytes _ _ _) (by decide) FB.slot_bytes_getitem FB.entry_bytes_getitem (FB.args_bytes_getitem_2 _ _) (KBc.meets_slice2 d.toArray t _ pl pu)
    ⟨Heap.IsSliceOf.new _ _ _ _, Nat.le_trans (KBc.size_picked_le d.toArray _ _) (by rw [sizeLine_eq, List.size_toArray]; exact hz), fun t' k => ?_⟩⟩ rfl letgo_bytes
  have e : KBy.picked d.toArray (oi i) (oi j) = (cut d i j).toArray := by
    rw [KBc.picked_eq, List.size_toArray, ← cut_clip d i j]
  rw [e]
  exact hq _ (.bytes (cut d i j)) W σ _ k (.refl sp.hp) rp_bytes q
theorem slicePick_cut (xs : Array Value) (i j : Option Nat) : (slicePick xs (oi i) (oi j) none).toList = cut xs.toList i j := by
  unfold slicePick
  rw [sliceBounds_plain]
  simp only [sliceRange_one, pick_run]
  rw [← cut_clip xs.toList i j, Array.length_toList]
theorem cutL {W : Wd} {xs : List V} {vs : List Value} (r : RpL W σ xs vs) (i j : Option Nat) : RpL W σ (cut xs i j) (cut vs i j) := by
  have tk : ∀ (n : Nat) {xs : List V} {vs : List Value}, RpL W σ xs vs → RpL W σ (xs.take n) (vs.take n) := by
    intro n
    induction n with
    | zero => intro xs vs _; simp only [List.take_zero]; exact RepL.nil
    | succ n ih =>
      intro xs vs r
      cases xs with
      | nil => simp only [RpL, RepL] at r; subst r; exact RepL.nil
      | cons x xs =>
        simp only [RpL, RepL] at r
        obtain ⟨v, r', rfl, h1, h2⟩ := r
        simp only [List.take_succ_cons]
        exact RepL.cons h1 (ih h2)
  have dr : ∀ (n : Nat) {xs : List V} {vs : List Value}, RpL W σ xs vs → RpL W σ (xs.drop n) (vs.drop n) := by
    intro n
    induction n with
    | zero => intro xs vs r; exact r
    | succ n ih =>
      intro xs vs r
      cases xs with
      | nil => simp only [RpL, RepL] at r; subst r; exact RepL.nil
      | cons x xs =>
        simp only [RpL, RepL] at r
        obtain ⟨v, r', rfl, h1, h2⟩ := r
        simp only [List.drop_succ_cons]
        exact ih h2
  unfold cut
  cases j with
  | none => exact dr _ r
  | some j => exact dr _ (tk j r)
theorem Sl_list {v : Expr} {lo hi : Option Expr} {p : Pos} {d : List V} {a b : V} {i j : Option Nat} {Q : V → St → Prop} (C : ECx u A l env n hn kd) (ha : endOf a = some i) (hb : endOf b = some j) (hz : d.length ≤ 16777216)
    (q : Q (.lst (cut d i j)) σ) : SliceP u A l v (.Slice lo hi none p) (.lst d) a b Q X σ := by
  intro W v' va vb s H r₁ r₂ r₃ QC EC hq he
  obtain ⟨ad, o, arr, n', rfl, hF, hc, hd, hdi, rl⟩ := rp_lstI r₁
  have sp := Step.push H C.ne { cls := .type "slice", data := .fields #[va, vb, .none] }
  have il : (s.heap.push { cls := .type "slice", data := .fields #[va, vb, .none] }).IsList ad arr := ⟨o, sp.hp.froz _ _ hF, hc, n', hd⟩
  have ln := RepL.length rl
  refine tail_any il.typeIs slot_list_getitem.lookup (wpAny_getItem_list_slice il (Heap.IsSliceOf.new _ _ _ _) (part_of ha r₂) (part_of hb r₃) .none (by intro q; cases q) ?_ (line_le (by rw [← Array.length_toList, ln]; exact hz))) rfl
  have sp2 := Step.pushF sp.hp C.ne { cls := .type "list", data := .seq (slicePick arr (oi i) (oi j) none) } rfl
  refine hq _ (.lst (cut d i j)) _ σ _ _ sp2 (rp_lst add_here rfl rfl rfl ?_) q
  refine sp2.rpL ?_
  rw [slicePick_cut]
  exact cutL rl i j
end
section
variable {u : Uni} {A : Around} {l : List Env} {env : Env} {ρ : Loc} {X : Exn → St → Prop} {σ : St} {n : Nat} {hn : Bool} {kd : Str → Option NameKind}

theorem Hp.K {W : Wd} {h : Heap} (H : Hp u W σ l h) : u.K.In h := fun a o e => H.froz _ _ (H.base _ _ (u.X a o e))
theorem Hp.T {W : Wd} {h : Heap} (H : Hp u W σ l h) : Top u.p u.loose u.mean u.mg u.mb h := u.T.keeps fun a o e => H.froz _ _ (H.base _ _ e)

theorem evalArgs_nilS {M : Model} {E : Value → Shared → Prop} {s : Shared} {f : Value} {Q : Args → Shared → Prop} (h : wpAny M A (spliced []) (fun vs s' => Q ⟨vs, []⟩ s') E s) : wpAny M A (evalArgs f true [] []) Q E s := by
  unfold evalArgs
  show wpAny M A (spliced [] >>= _) Q E s
  refine wpAny_bind (wpAny_mono h (fun vs s' h' => ?_) fun _ _ x => x)
  refine wpAny_bind (wpAny_pure (wpAny_holding ?_))
  exact wpAny_bind (wpAny_pure (wpAny_bind (wpAny_pure (wpAny_pure h'))))
/-- the arguments, behind the callee, then the call -/
theorem callWith_go {P : Heap → Prop} {f : Value} {first : List Value} {pos : Pos} {args : List Expr} {Q : List V → St → Prop} {W : Wd} {s : Shared} {QC EC : Value → Shared → Prop}
    (hk : ∀ h, P h → ∃ k, (k = Keeper.frame ∨ k = Keeper.machine ∨ k = Keeper.boundFrame) ∧ Looks u.M h (keeperOf f) k)
    (hs : args.all notStar = true) (hP : ∀ {W σ h}, Hp u W σ l h → P h)
    (h : EsOk u A l env pos args ρ Q X σ) (H : Hp u W σ l s.heap) (L : Lo W σ env s.heap ρ)
    (hq : ∀ vs xs W₁ σ₁ h₁ tk₁, Step u l noOwn W σ s.heap W₁ σ₁ h₁ → RpL W₁ σ₁ xs vs → Q xs σ₁ → wpAny u.M A (call f (first ++ vs)) QC EC ⟨h₁, s.gens, s.drawn, tk₁, s.os⟩)
    (he : ∀ e c W' σ' h' tk, Step u l noOwn W σ s.heap W' σ' h' → Ex u W' σ' l e c s.heap h' → X c σ' → EC (.ref e) ⟨h', s.gens, s.drawn, tk, s.os⟩) :
    wpAny u.M A (callWith pos f first (backTo pos (starEach args env)) []) QC EC s := by
  refine callWith_of (P := P) (by rw [plain_of hs]; rfl) hk ?_
  have fin := h W s H L (fun vs s₂ => P s₂.heap ∧ wpAny u.M A (call f (first ++ vs)) QC EC s₂) EC (fun vs xs W₁ σ₁ h₁ tk₁ st₁ r₁ q₁ => ⟨hP st₁.hp, hq vs xs W₁ σ₁ h₁ tk₁ st₁ r₁ q₁⟩) he
  cases args with
  | nil => exact evalArgs_nilS fin
  | cons e r =>
    have hs1 : notStar e = true := by rw [List.all_cons, Bool.and_eq_true] at hs; exact hs.1
    rw [starEach_cons hs1, backTo_cons] at fin ⊢
    exact evalArgs_plain fin

@[reducible] noncomputable def kG (u : Uni) (n : Nat) (hn : Bool) (x : Str) (Q : V → St → Prop) (X : Exn → St → Prop) : List V → St → Prop := fun xs σ₁ => SemG u n hn x xs Q X σ₁
theorem E_callG {x : Str} {p pos : Pos} {args : List Expr} {Q : V → St → Prop} (C : ECx u A l env n hn kd) (hk : kd x = some .globalImplicit) (g : Gl u x)
    (h : EsOk u A l env pos args ρ (kG u n hn x Q X) X σ) (hs : args.all notStar = true := by rfl) :
    EOk u A l env Rp (eval (.Call (.Name x p) args [] pos) env) ρ Q X σ := by
  intro W s H L QC EC hq he
  obtain ⟨v, hv, hp⟩ := g
  have kk : env.kindOf x = some .globalImplicit := (C.kinds x _ hk).elim id fun z => nomatch z.1
  have hd := (Bool.or_eq_false_iff.mp (C.nodbg _ _ kk)).1
  refine wpAny_Call_NameR (Calls.Name_function_global C.kind kk (Calls.loadGlobal_global (mg := u.mg) (by rw [C.glob]; exact H.T.g) hv ?_) hd)
  refine callWith_go (P := u.K.In) (keeps_K hp) hs (fun H => H.K) h H L (fun vs xs W₁ σ₁ h₁ tk₁ st₁ r₁ q₁ => ?_) he
  refine wpAny_call ?_
  exact q₁ v hv A l C.call W₁ _ st₁.hp vs r₁ _ (fun v' b' W' σ' h' tk st r q => hq v' b' W' σ' h' tk (st₁.trans st) r q)
    fun e c W'' σ'' h'' tk' st' x q' => he e c W'' σ'' h'' tk' (st₁.trans st') (x.older st₁.dm) q'

/-! built-ins -/
noncomputable def BuiltP (u : Uni) (A : Around) (l : List Env) (f : Value) (xs : List V) (Q : V → St → Prop) (X : Exn → St → Prop) (σ : St) : Prop :=
  ∀ W vs (s : Shared), Hp u W σ l s.heap → RpL W σ xs vs → OpOk u A l Rp (call f vs) Q X W σ s
noncomputable def isB : Value → Bool
  | .builtin _ => true
  | .type _ => true
  | _ => false
@[reducible] noncomputable def kU (u : Uni) (A : Around) (l : List Env) (f : Value) (Q : V → St → Prop) (X : Exn → St → Prop) : List V → St → Prop := fun xs σ₁ => BuiltP u A l f xs Q X σ₁
theorem E_callB {x : Str} {p pos : Pos} {args : List Expr} {f : Value} {Q : V → St → Prop} (C : ECx u A l env n hn kd) (hk : kd x = some .globalImplicit) (g : u.mg x = none ∧ u.mb x = some f) (hf : isB f = true)
    (h : EsOk u A l env pos args ρ (kU u A l f Q X) X σ) (hs : args.all notStar = true := by rfl) :
    EOk u A l env Rp (eval (.Call (.Name x p) args [] pos) env) ρ Q X σ := by
  intro W s H L QC EC hq he
  have kk : env.kindOf x = some .globalImplicit := (C.kinds x _ hk).elim id fun z => nomatch z.1
  have hd := (Bool.or_eq_false_iff.mp (C.nodbg _ _ kk)).1
  refine wpAny_Call_NameR (Calls.Name_function_global C.kind kk (Calls.loadGlobal_builtin (mg := u.mg) (mb := u.mb) (by rw [C.glob]; exact H.T.g) g.1 (by rw [C.bns]; exact H.T.b) g.2 ?_) hd)
  refine callWith_go (P := fun _ => True) (fun h' _ => ⟨.machine, .inr (.inl rfl), ?_⟩) hs (fun _ => trivial) h H L (fun vs xs W₁ σ₁ h₁ tk₁ st₁ r₁ q₁ => ?_) he
  · cases f <;> first | exact Looks.of_pure rfl | cases hf
  · exact q₁ W₁ vs ⟨h₁, s.gens, s.drawn, tk₁, s.os⟩ st₁.hp r₁ QC EC (fun v' b' W' σ' h' tk st r q => hq v' b' W' σ' h' tk (st₁.trans st) r q)
      fun e c W'' σ'' h'' tk' st' x q' => he e c W'' σ'' h'' tk' (st₁.trans st') (x.older st₁.dm) q'
theorem rpL1 {W : Wd} {x : V} {vs : List Value} (h : RpL W σ [x] vs) : ∃ v, vs = [v] ∧ Rp W σ x v := by
  simp only [RpL, RepL] at h
  obtain ⟨v, r, rfl, h1, rfl⟩ := h
  exact ⟨v, rfl, h1⟩
theorem rpL2 {W : Wd} {x y : V} {vs : List Value} (h : RpL W σ [x, y] vs) : ∃ v w, vs = [v, w] ∧ Rp W σ x v ∧ Rp W σ y w := by
  simp only [RpL, RepL] at h
  obtain ⟨v, r, rfl, h1, w, r', rfl, h2, rfl⟩ := h
  exact ⟨v, w, rfl, h1, h2⟩
theorem isList_of {W : Wd} {h : Heap} (H : Hp u W σ l h) {xs : List V} {v : Value} (r : Rp W σ (.lst xs) v) : ∃ a arr, v = .ref a ∧ h.IsList a arr ∧ arr.size = xs.length ∧ RpL W σ xs arr.toList := by
  obtain ⟨ad, o, arr, n', rfl, hF, hc, hd, hdi, rl⟩ := rp_lstI r
  exact ⟨ad, arr, rfl, ⟨o, H.froz _ _ hF, hc, n', hd⟩, by rw [← Array.length_toList, RepL.length rl], rl⟩
theorem Len_list {xs : List V} {Q : V → St → Prop} (hz : xs.length ≤ 16384) (q : Q (.int xs.length) σ) : BuiltP u A l (.builtin "len") [.lst xs] Q X σ := by
  intro W vs s H rr QC EC hq he
  obtain ⟨v, rfl, r⟩ := rpL1 rr
  obtain ⟨a, arr, rfl, il, hl, _⟩ := isList_of H r
  exact kun_lenL il (by rw [hl]) (by lcg_off) (hq _ (.int _) W σ s.heap _ (.refl H) rp_int q)
theorem Len_cell {k : Hd} {xs : List V} {Q : V → St → Prop} {p : Bool} (hc : σ.get k = .lst p xs) (hz : xs.length ≤ 16384) (q : Q (.int xs.length) σ) : BuiltP u A l (.builtin "len") [.ref k] Q X σ := by
  intro W vs s H rr QC EC hq he
  obtain ⟨v, rfl, r⟩ := rpL1 rr
  obtain ⟨rfl, lv⟩ := rp_refI r
  have c := H.cell k
  rw [hc] at c
  obtain ⟨o, arr, n, c1, c2, c3, c4, rl⟩ := c
  have il : s.heap.IsList (W.al k) arr := ⟨o, c1, c2, n, c3⟩
  exact kun_lenL il (by rw [← Array.length_toList, RepL.length rl]) (by lcg_off) (hq _ (.int _) W σ s.heap _ (.refl H) rp_int q)
theorem Len_bytes {d : List UInt8} {Q : V → St → Prop} (hz : d.length ≤ 16777216) (q : Q (.int d.length) σ) : BuiltP u A l (.builtin "len") [.bytes d] Q X σ := by
  intro W vs s H rr QC EC hq he
  obtain ⟨v, rfl, r⟩ := rpL1 rr
  obtain ⟨t, rfl⟩ := rp_bytesI r
  refine len_bytes (by rw [List.size_toArray]; lcg_off) ?_
  rw [List.size_toArray]
  exact hq _ (.int _) W σ s.heap _ (.refl H) rp_int q
theorem Range_1 {hi : Int} {Q : V → St → Prop} (ne : l ≠ []) (q : Q (.rng 0 hi) σ) : BuiltP u A l (.type "range") [.int hi] Q X σ := by
  intro W vs s H rr QC EC hq he
  obtain ⟨v, rfl, r⟩ := rpL1 rr
  obtain ⟨t, rfl⟩ := rp_intI r
  have st := Step.pushF H ne { cls := .type "range", data := .fields #[.int 0 s.toks, .int hi t, .int 1 (s.toks + 1)] } rfl
  exact call_range_1 (hq _ (.rng 0 hi) _ σ _ _ st (rp_rng add_here) q)
theorem Range_2 {lo hi : Int} {Q : V → St → Prop} (ne : l ≠ []) (q : Q (.rng lo hi) σ) : BuiltP u A l (.type "range") [.int lo, .int hi] Q X σ := by
  intro W vs s H rr QC EC hq he
  obtain ⟨v, w, rfl, r, r'⟩ := rpL2 rr
  obtain ⟨t, rfl⟩ := rp_intI r
  obtain ⟨t', rfl⟩ := rp_intI r'
  have st := Step.pushF H ne { cls := .type "range", data := .fields #[.int lo t, .int hi t', .int 1 s.toks] } rfl
  exact call_range_2 (hq _ (.rng lo hi) _ σ _ _ st (rp_rng add_here) q)
theorem ints_of {W : Wd} : ∀ {is : List Int} {vs : List Value}, RpL W σ (is.map V.int) vs → IntsAre vs is
  | [], vs, h => by simp only [RpL, RepL, List.map_nil] at h; subst h; exact .nil
  | i :: r, vs, h => by
    simp only [RpL, RepL, List.map_cons] at h
    obtain ⟨v, vs', rfl, h1, h2⟩ := h
    obtain ⟨t, rfl⟩ := rp_intI (W := W) (σ := σ) h1
    exact .cons _ _ (ints_of h2)
theorem Sum_ints {is : List Int} {Q : V → St → Prop} (C : ECx u A l env n hn kd) (hh : hn = true) (q : Q (.int is.sum) σ) : BuiltP u A l (.builtin "sum") [.lst (is.map V.int)] Q X σ := by
  intro W vs s H rr QC EC hq he
  obtain ⟨v, rfl, r⟩ := rpL1 rr
  obtain ⟨a, arr, rfl, il, hl, rl⟩ := isList_of H r
  obtain ⟨L, m, F, fL, nL⟩ := frame_at H C.ne
  exact sumK (C.hand hh) F (newsA u.g₀ s.heap L) (vs := arr.toList) (by simpa using il) (ints_of rl) fun h' tk t' F' N' =>
    hq _ (.int _) W σ h' tk (Step.news (more := []) H F fL nL F' N') rp_int q
noncomputable def octs (is : List Int) : List UInt8 := is.map fun n => n.toNat.toUInt8
theorem Bytes_ints {is : List Int} {Q : V → St → Prop} (C : ECx u A l env n hn kd) (hh : hn = true) (hz : is.length ≤ 16777216) (hi : ∀ n ∈ is, 0 ≤ n ∧ n < 256) (q : Q (.bytes (octs is)) σ) :
    BuiltP u A l (.type "bytes") [.lst (is.map V.int)] Q X σ := by
  intro W vs s H rr QC EC hq he
  obtain ⟨v, rfl, r⟩ := rpL1 rr
  obtain ⟨a, arr, rfl, il, hl, rl⟩ := isList_of H r
  obtain ⟨L, m, F, fL, nL⟩ := frame_at H C.ne
  exact bytes_K F (newsA u.g₀ s.heap L) (vs := arr.toList) (by simpa using il) (ints_of rl) hi (line_le (by rw [RepL.length rl, List.length_map]; exact hz)) (C.hand hh) fun h' t k F' N' _ =>
    hq _ (.bytes _) W σ h' k (Step.news (more := []) H F fL nL F' N') rp_bytes q
end
section
variable {u : Uni} {A : Around} {l : List Env} {env : Env} {ρ : Loc} {σ : St} {n : Nat} {hn : Bool} {kd : Str → Option NameKind}

theorem Lo.upto {W : Wd} {h h' : Heap} (x : Lo W σ env h ρ) (up : h.UpToSlots h') : Lo W σ env h' ρ := by
  have ns : ∀ {m}, h.Ns env.locals m → h'.Ns env.locals m := fun n => up.ns n
  have ic : ∀ {c w}, h.IsCell c w → h'.IsCell c w := fun ⟨o, ho, hd⟩ => by
    obtain ⟨sl, e⟩ := up _ o ho (by rw [hd]; intro _ q; cases q)
    exact ⟨_, e, hd⟩
  refine ⟨fun y z e => ?_, ?_, x.lfree, fun y c e => ?_, x.cinj, x.cdef⟩
  · have v := x.var y z e
    unfold VarAt at v ⊢
    split at v
    · obtain ⟨m, w, a, b, c⟩ := v; exact ⟨m, w, ns a, b, c⟩
    · obtain ⟨c, w, a, b, d⟩ := v; exact ⟨c, w, a, ic b, d⟩
    · obtain ⟨c, w, a, b, d⟩ := v; exact ⟨c, w, a, ic b, d⟩
    · exact v
  · obtain ⟨m, a⟩ := x.ns; exact ⟨m, ns a⟩
  · obtain ⟨a, b, w, c⟩ := x.cfree y c e; exact ⟨a, b, w, ic c⟩

/-- what the exception's own steps leave alone -/
theorem Ex.carry {own : Addr → Prop} {W₀ W : Wd} {σ₀ : St} {hs h h' B : Heap} (S : Step u l own W₀ σ₀ hs W σ h)
    (b : (∀ a o, W.F a = some o → B.get? a = some o) ∧ (∀ k a o, MutK W σ k a → h.get? a = some o → B.get? a = some o) ∧ (∀ a o₀ o, hs.get? a = some o₀ → h.get? a = some o → (∀ env ∈ l, env.frame ≠ some a) → B.get? a = some o))
    (st : B.StaysIn h') (up : h.UpToSlots h') : Step u l own W₀ σ₀ hs W σ h' ∧
    ((∀ a o, W.F a = some o → B.get? a = some o) ∧ (∀ k a o, MutK W σ k a → h'.get? a = some o → B.get? a = some o) ∧ (∀ a o₀ o, hs.get? a = some o₀ → h'.get? a = some o → (∀ env ∈ l, env.frame ≠ some a) → B.get? a = some o)) := by
  obtain ⟨b1, b2, b3⟩ := b
  have H := S.hp
  have gm : ∀ k a o, MutK W σ k a → h.get? a = some o → h'.get? a = some o := fun k a o m e => st _ _ (b2 k a o m e)
  have fr : ∀ e ∈ l, ∀ a o, e.frame = some a → h.get? a = some o → ∃ o', h'.get? a = some o' ∧ Same o o' := fun e he a o hf ho => by
    obtain ⟨_, L, m, hf', hn, _⟩ := H.frm e he
    rw [hf] at hf'; cases hf'
    obtain ⟨o', ho', nn⟩ := ns_iff.mp hn
    rw [ho] at ho'; cases ho'
    obtain ⟨sl, z⟩ := up _ _ ho (by obtain ⟨es, ep, hd, _⟩ := nn; rw [hd]; intro _ q; cases q)
    exact ⟨_, z, .inr ⟨m, nn, nn.slots sl⟩⟩
  refine ⟨⟨⟨H.base, fun a o e => st _ _ (b1 a o e), fun k => ?_, H.mutF, H.sep, H.sepi, fun e he => ?_⟩, S.le, S.al, fun b o e nm no => ?_, S.nm, S.nf, fun b o e => ?_⟩, b1, fun k a o m e => ?_, fun a o₀ o e0 e nf => ?_⟩
  · refine cell_mono (fun _ _ r => r) (fun _ _ r => r) rfl rfl (fun o lv e => ?_) (fun o c' fs ec e => ?_) (H.cell k)
    · refine gm k _ o ?_ e
      unfold MutK
      cases ec : σ.get k with
      | dead => rw [ec] at lv; exact lv.elim
      | lst p vs => rfl
      | inst c' fs => exact .inl rfl
    · refine gm k _ o ?_ e
      unfold MutK; rw [ec]; exact .inr rfl
  · obtain ⟨a1, L', m', a2, a3, a4⟩ := H.frm e he
    exact ⟨a1, L', m', a2, up.ns a3, a4⟩
  · obtain ⟨o', e', s'⟩ := S.up b o e nm no
    by_cases q : ∀ env ∈ l, env.frame ≠ some b
    · exact ⟨o', st _ _ (b3 b o o' e e' q), s'⟩
    · obtain ⟨en, q⟩ := Classical.not_forall.mp q
      obtain ⟨he, q⟩ := Classical.not_imp.mp q
      obtain ⟨o'', z, s''⟩ := fr en he b o' (Classical.not_not.mp q) e'
      exact ⟨_, z, s'.trans s''⟩
  · obtain ⟨o', e'⟩ := S.dm b o e
    by_cases q : ∀ env ∈ l, env.frame ≠ some b
    · exact ⟨o', st _ _ (b3 b o o' e e' q)⟩
    · obtain ⟨en, q⟩ := Classical.not_forall.mp q
      obtain ⟨he, q⟩ := Classical.not_imp.mp q
      obtain ⟨o'', z, _⟩ := fr en he b o' (Classical.not_not.mp q) e'
      exact ⟨_, z⟩
  · obtain ⟨o', e'⟩ := MutK.there H m
    have := gm k a o' m e'
    rw [e] at this; cases this
    exact b2 k a _ m e'
  · obtain ⟨o', e'⟩ := S.dm a o₀ e0
    have z := b3 a o₀ o' e0 e' nf
    have := st _ _ z
    rw [e] at this; cases this
    exact z

theorem Ex.note {own : Addr → Prop} {W₀ W : Wd} {σ₀ : St} {hs : Heap} {s : Shared} {r : List Env} {L e : Addr} {c : Exn} {Q : Unit → Shared → Prop} {E : Value → Shared → Prop}
    (hl : l = env :: r) (hfr : A.frames = some l) (hf : env.frame = some L) (S : Step u l own W₀ σ₀ hs W σ s.heap) (x : Ex u W σ l e c hs s.heap)
    (k : ∀ h', Step u l own W₀ σ₀ hs W σ h' → s.heap.UpToSlots h' → Ex u W σ l e c hs h' → (∃ B a0, h'.TracedAtW B e (.ref (u.exc c)) a0 (rawInt L)) → Q () { s with heap := h' }) :
    wpAny u.M A (noteFrame (.ref e) env) Q E s := by
  subst hl
  obtain ⟨B, a0, b, x1, x2, x3, x4⟩ := x
  have go : ∀ h', B.NotedW (env :: r) e (.ref (u.exc c)) a0 (rawInt L) s.heap h' → Q () { s with heap := h' } := fun h' ⟨n1, n2, n3, n4⟩ => by
    obtain ⟨S', b'⟩ := Ex.carry S b n1 n4
    exact k h' S' n4 ⟨B, a0, b', n1, x2, n2, .inr (.inr ⟨env, r, L, rfl, hf, n3⟩)⟩ ⟨B, a0, n3⟩
  rcases x4 with ⟨oe, vs, he, hc, hd, h0, h1⟩ | ht | ⟨env', r', L', hl', hf', ht⟩
  · unfold noteFrame
    simp only [hf]
    refine wpAny_bind (wpAny_field he hd h1 ?_)
    rw [if_neg (by decide)]
    refine wpAny_entryW hfr x3 hf he x1 x2 hd (Array.getElem?_eq_some_iff.mp h1).1 h0 fun h' hN => ?_
    rw [hc] at hN
    exact go h' hN
  · exact wpAny_noteFrame_onW hfr x3 hf ht x1 x2 go
  · cases hl'
    rw [hf] at hf'; cases hf'
    refine wpAny_noteFrame_againW hf ht ?_
    exact k s.heap S (.refl _) ⟨B, a0, b, x1, x2, x3, .inr (.inr ⟨env, r, L, rfl, hf, ht⟩)⟩ ⟨B, a0, ht⟩

/-- the flight is set, to none or to the frame: a noted exception -/
theorem Ex.flight {own : Addr → Prop} {W₀ W : Wd} {σ₀ : St} {hs : Heap} {s : Shared} {r : List Env} {L e : Addr} {c : Exn} {Q : Unit → Shared → Prop} {E : Value → Shared → Prop} {fr : Option Addr}
    (hl : l = env :: r) (hf : env.frame = some L) (hfr : fr = none ∨ fr = some L) (S : Step u l own W₀ σ₀ hs W σ s.heap) (x : Ex u W σ l e c hs s.heap) (nf : ¬ ∃ a0, Fresh s.heap e (.ref (u.exc c)) a0)
    (k : ∀ h', Step u l own W₀ σ₀ hs W σ h' → s.heap.UpToSlots h' → Ex u W σ l e c hs h' → (¬ ∃ a0, Fresh h' e (.ref (u.exc c)) a0) → (fr = none → ∃ (B : Heap) (a0 : Value), h'.TracedAtW B e (.ref (u.exc c)) a0 .none) → Q () { s with heap := h' }) :
    wpAny u.M A (setFlight (.ref e) fr) Q E s := by
  obtain ⟨B, a0, b, x1, x2, x3, x4⟩ := x
  have tr : ∃ fl, s.heap.TracedAtW B e (.ref (u.exc c)) a0 fl := by
    rcases x4 with q | q | ⟨_, _, _, _, _, q⟩
    · exact absurd ⟨a0, q⟩ nf
    · exact ⟨_, q⟩
    · exact ⟨_, q⟩
  obtain ⟨fl, oe, vs, T, oT, ts, he, hcls, hd, h1, hnT, hTe, hT, hdT, h3⟩ := tr
  have hsz3 : 3 < ts.size := (Array.getElem?_eq_some_iff.mp h3).1
  have other : ∀ b, b ≠ T → (s.heap.update T (Obj.mapFields (·.setIfInBounds 3 (fr.elim Value.none fun f => rawInt f)))).get? b = s.heap.get? b :=
    fun b hb => Heap.get?_update_other _ _ (Ne.symm hb)
  have noRecord : ∀ b o, s.heap.get? b = some o → (∀ vs, o.data ≠ .fields vs) → b ≠ T := fun b o hb hnf q => by
    rw [q, hT] at hb; injection hb with hb; subst hb; exact hnf ts hdT
  unfold setFlight
  refine wpAny_bind (wpAny_field he hd h1 ?_)
  rw [if_pos (show (Value.ref T != Value.none) = true from by simp)]
  have up : s.heap.UpToSlots (s.heap.update T (Obj.mapFields (·.setIfInBounds 3 (fr.elim Value.none fun f => rawInt f)))) := fun b o hb hnf => ⟨o.slots, (other b (noRecord b o hb hnf)).trans hb⟩
  have st : B.StaysIn (s.heap.update T (Obj.mapFields (·.setIfInBounds 3 (fr.elim Value.none fun f => rawInt f)))) := fun b o hbo => (other b fun q => by rw [q, hnT] at hbo; cases hbo).trans (x1 b o hbo)
  have ff : (s.heap.update T (Obj.mapFields (·.setIfInBounds 3 (fr.elim Value.none fun f => rawInt f)))).FunFrames B l := x3.of_keeps fun b o hb hnf => ⟨o, (other b (noRecord b o hb hnf)).trans hb, rfl⟩
  have tt : (s.heap.update T (Obj.mapFields (·.setIfInBounds 3 (fr.elim Value.none fun f => rawInt f)))).TracedAtW B e (.ref (u.exc c)) a0 (fr.elim Value.none fun f => rawInt f) :=
    ⟨oe, vs, T, _, _, (other e (Ne.symm hTe)).trans he, hcls, hd, h1, hnT, hTe, Heap.get?_update_self _ hT (Obj.isFreed_of_fields (Obj.data_mapFields hdT _)), Obj.data_mapFields hdT _, by simp [hsz3]⟩
  obtain ⟨S', b'⟩ := Ex.carry S b st up
  refine wpAny_setField hT hdT hsz3 (k _ S' up ⟨B, a0, b', st, x2, ff, ?_⟩ ?_ ?_)
  · rcases hfr with rfl | rfl
    · exact .inr (.inl tt)
    · exact .inr (.inr ⟨env, r, L, hl, hf, tt⟩)
  · rintro ⟨a1, oe', vs', q1, q2, q3, q4, q5⟩
    rw [(other e (Ne.symm hTe)).trans he] at q1; cases q1
    rw [hd] at q3; cases q3
    rw [h1] at q5; cases q5
  · rintro rfl; exact ⟨B, a0, tt⟩
theorem not_fresh {h B : Heap} {e : Addr} {cls a0 fl : Value} (t : h.TracedAtW B e cls a0 fl) : ¬ ∃ a0, Fresh h e cls a0 := by
  rintro ⟨a1, oe', vs', q1, q2, q3, q4, q5⟩
  obtain ⟨oe, vs, T, oT, ts, he, hcls, hd, h1, _⟩ := t
  rw [he] at q1; cases q1
  rw [hd] at q3; cases q3
  rw [h1] at q5; cases q5

/-- back from a loop's own activation -/
theorem Ex.back {own : Addr → Prop} {W₀ W : Wd} {σ₀ : St} {hs : Heap} {s : Shared} {r : List Env} {L e : Addr} {c : Exn} {E : Value → Shared → Prop}
    (hl : l = env :: r) (hf : env.frame = some L) (S : Step u l own W₀ σ₀ hs W σ s.heap) (x : Ex u W σ l e c hs s.heap) (nf : ¬ ∃ a0, Fresh s.heap e (.ref (u.exc c)) a0)
    (k : ∀ h', Step u l own W₀ σ₀ hs W σ h' → s.heap.UpToSlots h' → Ex u W σ l e c hs h' → E (.ref e) { s with heap := h' }) : cameBackBy u.M A env E (.ref e) s := by
  unfold cameBackBy
  obtain ⟨B, a0, b, x1, x2, x3, x4⟩ := x
  have tr : ∃ fl, s.heap.TracedAtW B e (.ref (u.exc c)) a0 fl := by
    rcases x4 with q | q | ⟨_, _, _, _, _, q⟩
    · exact absurd ⟨a0, q⟩ nf
    · exact ⟨_, q⟩
    · exact ⟨_, q⟩
  obtain ⟨fl, oe, vs, T, oT, ts, he, hcls, hd, h1, rest⟩ := tr
  refine wpAny_bind (wpAny_field he hd h1 ?_)
  rw [if_neg (show ¬ ((Value.ref T == Value.none) = true) from by simp)]
  rw [hf]
  exact Ex.flight (fr := some L) hl hf (.inr rfl) S ⟨B, a0, b, x1, x2, x3, x4⟩ nf fun h' S' up x' _ _ => k h' S' up x'

/-- the frame is left -/
theorem Ex.leave {own : Addr → Prop} {W₀ W : Wd} {σ₀ : St} {hs : Heap} {s : Shared} {r : List Env} {L e : Addr} {c : Exn} {Q : Unit → Shared → Prop} {E : Value → Shared → Prop}
    (hl : l = env :: r) (hfr : A.frames = some l) (hf : env.frame = some L) (S : Step u l own W₀ σ₀ hs W σ s.heap) (x : Ex u W σ l e c hs s.heap)
    (k : ∀ h', Step u l own W₀ σ₀ hs W σ h' → Ex u W σ l e c hs h' → (∃ (B : Heap) (a0 : Value), h'.TracedAtW B e (.ref (u.exc c)) a0 .none) → Q () { s with heap := h' }) :
    wpAny u.M A (leaving env (.ref e)) Q E s := by
  unfold leaving
  refine wpAny_bind (Ex.note hl hfr hf S x fun h₁ S₁ _ x₁ ⟨B, a0, t⟩ => ?_)
  exact Ex.flight (s := { s with heap := h₁ }) (fr := none) hl hf (.inl rfl) S₁ x₁ (not_fresh t) fun h₂ S₂ _ x₂ _ t₂ => k h₂ S₂ x₂ (t₂ rfl)
/-- seen from the frame below -/
theorem Ex.below {W : Wd} {hs h : Heap} {r : List Env} {e : Addr} {c : Exn} (hl : l = env :: r) (x : Ex u W σ l e c hs h) (t : ∃ (B : Heap) (a0 : Value), h.TracedAtW B e (.ref (u.exc c)) a0 .none)
    {hs' : Heap} (dm : ∀ a o, hs'.get? a = some o → ∃ o', hs.get? a = some o') (nf : ∀ o, hs'.get? L = some o → False) (hf : env.frame = some L) : Ex u W σ r e c hs' h := by
  subst hl
  obtain ⟨B, a0, ⟨b1, b2, b3⟩, x1, x2, ⟨_, _, x3⟩, x4⟩ := x
  refine ⟨B, a0, ⟨b1, b2, fun a o₀ o e0 e1 nn => ?_⟩, x1, x2, x3, ?_⟩
  · obtain ⟨o', e'⟩ := dm a o₀ e0
    refine b3 a o' o e' e1 fun en hen => ?_
    rcases List.mem_cons.mp hen with q | q
    · subst q; rw [hf]; intro z; cases z; exact nf _ e0
    · exact nn en q
  · obtain ⟨B', a0', t⟩ := t
    rcases x4 with q | q | ⟨en, r', L', q1, q2, q3⟩
    · exact absurd ⟨a0, q⟩ (not_fresh t)
    · exact .inr (.inl q)
    · cases q1
      exfalso
      obtain ⟨oe, vs, T, oT, ts, he, hcls, hd, h1, hnT, hTe, hT, hdT, h3⟩ := t
      obtain ⟨oe', vs', T', oT', ts', he', hcls', hd', h1', hnT', hTe', hT', hdT', h3'⟩ := q3
      rw [he] at he'; cases he'
      rw [hd] at hd'; cases hd'
      rw [h1] at h1'; cases h1'
      rw [hT] at hT'; cases hT'
      rw [hdT] at hdT'; cases hdT'
      rw [h3] at h3'; cases h3'
end
noncomputable def ownOf (env : Env) (a : Addr) : Prop := a = env.locals ∨ ∃ x, env.cells.lookup x = some a
/-- a block's run: N where it falls through, R where it returns -/
noncomputable def SOk (u : Uni) (A : Around) (l : List Env) (env : Env) (t : Sem Flow) (ρ : Loc) (N : Loc → St → Prop) (R : V → St → Prop) (X : Exn → Loc → St → Prop) (σ : St) : Prop :=
  ∀ (W : Wd) (s : Shared), Hp u W σ l s.heap → Lo W σ env s.heap ρ → ∀ (QC : Flow → Shared → Prop) (EC : Value → Shared → Prop),
    (∀ ρ' W' σ' h' tk, Step u l (ownOf env) W σ s.heap W' σ' h' → Lo W' σ' env h' ρ' → N ρ' σ' → QC .next ⟨h', s.gens, s.drawn, tk, s.os⟩) →
    (∀ v x W' σ' h' tk, Step u l (ownOf env) W σ s.heap W' σ' h' → Rp W' σ' x v → R x σ' → QC (.ret v) ⟨h', s.gens, s.drawn, tk, s.os⟩) →
    (∀ e c ρ' W' σ' h' tk, Step u l (ownOf env) W σ s.heap W' σ' h' → Lo W' σ' env h' ρ' → Ex u W' σ' l e c s.heap h' → X c ρ' σ' → EC (.ref e) ⟨h', s.gens, s.drawn, tk, s.os⟩) →
    wpAny u.M A t QC EC s
/-- the storing of y into a target -/
noncomputable def AsOk (u : Uni) (A : Around) (l : List Env) (env : Env) (t : Value → Sem Unit) (y : V) (ρ : Loc) (N : Loc → St → Prop) (X : Exn → Loc → St → Prop) (σ : St) : Prop :=
  ∀ (W : Wd) (s : Shared) (v : Value), Hp u W σ l s.heap → Lo W σ env s.heap ρ → Rp W σ y v → ∀ (QC : Unit → Shared → Prop) (EC : Value → Shared → Prop),
    (∀ ρ' W' σ' h' tk, Step u l (ownOf env) W σ s.heap W' σ' h' → Lo W' σ' env h' ρ' → N ρ' σ' → QC () ⟨h', s.gens, s.drawn, tk, s.os⟩) →
    (∀ e c ρ' W' σ' h' tk, Step u l (ownOf env) W σ s.heap W' σ' h' → Lo W' σ' env h' ρ' → Ex u W' σ' l e c s.heap h' → X c ρ' σ' → EC (.ref e) ⟨h', s.gens, s.drawn, tk, s.os⟩) →
    wpAny u.M A (t v) QC EC s

section
variable {u : Uni} {A : Around} {l : List Env} {env : Env} {ρ : Loc} {X : Exn → Loc → St → Prop} {N : Loc → St → Prop} {R : V → St → Prop} {σ : St} {n : Nat} {hn : Bool} {kd : Str → Option NameKind}

/-- the frame whose code runs -/
structure SCx (u : Uni) (A : Around) (l : List Env) (env : Env) (n : Nat) (hn : Bool) (kd : Str → Option NameKind) : Prop extends ECx u A l env n hn kd where
  head : ∃ r L, l = env :: r ∧ env.frame = some L ∧ env.locals = L
theorem SCx.E (C : SCx u A l env n hn kd) : ECx u A l env n hn kd := C.toECx
theorem noOwn_own {a : Addr} (h : noOwn a) : ownOf env a := h.elim

theorem S_nil (q : N ρ σ) : SOk u A l env (execs [] env) ρ N R X σ := by
  intro W s H L QC EC hq hr he
  exact wpAny_execs_nil (hq ρ W σ s.heap s.toks (.refl H) L q)
@[reducible] noncomputable def kS (u : Uni) (A : Around) (l : List Env) (env : Env) (rest : List Stmt) (N : Loc → St → Prop) (R : V → St → Prop) (X : Exn → Loc → St → Prop) : Loc → St → Prop := fun ρ₁ σ₁ => SOk u A l env (execs rest env) ρ₁ N R X σ₁
@[reducible] noncomputable def xR (X : Exn → Loc → St → Prop) (ρ : Loc) : Exn → St → Prop := fun c σ' => X c ρ σ'
@[reducible] noncomputable def kN (N : Loc → St → Prop) (ρ : Loc) : V → St → Prop := fun _ σ₁ => N ρ σ₁
@[reducible] noncomputable def kI (u : Uni) (A : Around) (l : List Env) (env : Env) (a b : List Stmt) (ρ : Loc) (N : Loc → St → Prop) (R : V → St → Prop) (X : Exn → Loc → St → Prop) : Bool → St → Prop := fun c σ₁ => (c = true → SOk u A l env (execs a env) ρ N R X σ₁) ∧ (c = false → SOk u A l env (execs b env) ρ N R X σ₁)
@[reducible] noncomputable def kW (u : Uni) (A : Around) (l : List Env) (env : Env) (t : Expr) (ρ : Loc) (N : Loc → St → Prop) (X : Exn → Loc → St → Prop) : V → St → Prop := fun y σ₁ => AsOk u A l env (assign t env) y ρ N X σ₁
@[reducible] noncomputable def kSA (x : Str) (y : V) (ρ : Loc) (N : Loc → St → Prop) : V → St → Prop := fun ov σ₁ => ∃ k c fs, ov = .ref k ∧ σ₁.get k = .inst c fs ∧ x ∈ fldNames ∧ (stl fs x y).length ≤ 100 ∧ N ρ (σ₁.set k (.inst c (stl fs x y)))
theorem S_cons {st : Stmt} {rest : List Stmt} (h : SOk u A l env (exec st env) ρ (kS u A l env rest N R X) R X σ) : SOk u A l env (execs (st :: rest) env) ρ N R X σ := by
  intro W s H L QC EC hq hr he
  refine wpAny_execs_cons (h W s H L _ EC (fun ρ₁ W₁ σ₁ h₁ tk₁ st₁ L₁ q₁ => ?_) (fun v x W₁ σ₁ h₁ tk₁ st₁ r₁ q₁ => hr v x W₁ σ₁ h₁ tk₁ st₁ r₁ q₁) he)
  exact q₁ W₁ ⟨h₁, s.gens, s.drawn, tk₁, s.os⟩ st₁.hp L₁ QC EC (fun ρ' W' σ' h' tk st L' q => hq ρ' W' σ' h' tk (st₁.trans st) L' q) (fun v x W' σ' h' tk st r q => hr v x W' σ' h' tk (st₁.trans st) r q)
    fun e c ρ' W' σ' h' tk st L' x q => he e c ρ' W' σ' h' tk (st₁.trans st) L' (x.older st₁.dm) q
theorem S_pass {pos : Pos} (q : N ρ σ) : SOk u A l env (exec (.Pass pos) env) ρ N R X σ := by
  intro W s H L QC EC hq hr he
  exact wpAny_Pass (hq ρ W σ s.heap s.toks (.refl H) L q)

/-- an expression's run as a part of a statement -/
theorem EOk.use {τ β : Type} {rp : Wd → St → β → τ → Prop} {t : Sem τ} {Q : β → St → Prop} (h : EOk u A l env rp t ρ Q (fun c σ' => X c ρ σ') σ) {W : Wd} {s : Shared} (H : Hp u W σ l s.heap) (L : Lo W σ env s.heap ρ)
    {QC : τ → Shared → Prop} {EC : Value → Shared → Prop}
    (hq : ∀ v b W' σ' h' tk, Step u l noOwn W σ s.heap W' σ' h' → Lo W' σ' env h' ρ → rp W' σ' b v → Q b σ' → QC v ⟨h', s.gens, s.drawn, tk, s.os⟩)
    (he : ∀ e c ρ' W' σ' h' tk, Step u l (ownOf env) W σ s.heap W' σ' h' → Lo W' σ' env h' ρ' → Ex u W' σ' l e c s.heap h' → X c ρ' σ' → EC (.ref e) ⟨h', s.gens, s.drawn, tk, s.os⟩) : wpAny u.M A t QC EC s :=
  h W s H L QC EC (fun v b W' σ' h' tk st r q => hq v b W' σ' h' tk st (L.stepE st) r q) fun e c W' σ' h' tk st x q => he e c ρ W' σ' h' tk (st.wider fun _ => noOwn_own) (L.stepE st) x q

theorem S_ret {e : Expr} {pos : Pos} (h : EOk u A l env Rp (eval e env) ρ R (xR X ρ) σ) : SOk u A l env (exec (.Return (some e) pos) env) ρ N R X σ := by
  intro W s H L QC EC hq hr he
  exact wpAny_Return_some (h.use H L (fun v b W' σ' h' tk st _ r q => hr v b W' σ' h' tk (st.wider fun _ => noOwn_own) r q) he)
theorem S_ret0 {pos : Pos} (q : R .none σ) : SOk u A l env (exec (.Return none pos) env) ρ N R X σ := by
  intro W s H L QC EC hq hr he
  exact wpAny_Return_none (hr .none .none W σ s.heap s.toks (.refl H) rp_none q)
theorem S_expr {e : Expr} {pos : Pos} (C : SCx u A l env n hn kd) (h : EOk u A l env Rp (eval e env) ρ (kN N ρ) (xR X ρ) σ) (hs : swapsWith e none pos.line env = pure false := by rfl) :
    SOk u A l env (exec (.Expr e pos) env) ρ N R X σ := by
  intro W s H L QC EC hq hr he
  refine wpAny_Expr_any (h.use H L (fun v b W' σ' h' tk st L' _ q => hq ρ W' σ' h' tk (st.wider fun _ => noOwn_own) L' q) he) ?_ hs
  unfold interactive; rw [C.kind]; rfl
theorem S_if {t : Expr} {a b : List Stmt} {pos : Pos}
    (h : EOk u A l env Bl (isTrue t env (eval t env)) ρ (kI u A l env a b ρ N R X) (xR X ρ) σ) :
    SOk u A l env (exec (.If t a b pos) env) ρ N R X σ := by
  intro W s H L QC EC hq hr he
  refine wpAny_If (h.use H L (fun v c W₁ σ₁ h₁ tk₁ st₁ L₁ r₁ q₁ => ?_) he)
  obtain rfl : v = c := r₁
  have s1 := st₁.wider (own' := ownOf env) fun _ => noOwn_own
  have go : ∀ body, SOk u A l env (execs body env) ρ N R X σ₁ → wpAny u.M A (execs body env) QC EC ⟨h₁, s.gens, s.drawn, tk₁, s.os⟩ := fun body k =>
    k W₁ ⟨h₁, s.gens, s.drawn, tk₁, s.os⟩ st₁.hp L₁ QC EC (fun ρ' W' σ' h' tk st L' q => hq ρ' W' σ' h' tk (s1.trans st) L' q) (fun v x W' σ' h' tk st r q => hr v x W' σ' h' tk (s1.trans st) r q)
      fun e c ρ' W' σ' h' tk st L' x q => he e c ρ' W' σ' h' tk (s1.trans st) L' (x.older s1.dm) q
  cases v with
  | true => rw [if_pos rfl]; exact go a (q₁.1 rfl)
  | false => rw [if_neg (by decide)]; exact go b (q₁.2 rfl)

/-! stores -/
theorem Step.own {W : Wd} {h h' : Heap} (H : Hp u W σ l h) {own : Addr → Prop} {a : Addr} (oa : own a) (fa : W.F a = none) (na : ∀ k, ¬ MutK W σ k a) (keep : ∀ b, b ≠ a → h'.get? b = h.get? b)
    (fr : ∀ m, h.Ns a m → ∃ m', h'.Ns a m') (da : ∃ o, h'.get? a = some o) : Step u l own W σ h W σ h' := by
  have kp : ∀ b o, b ≠ a → h.get? b = some o → h'.get? b = some o := fun b o q e => (keep b q).trans e
  refine ⟨⟨H.base, fun b o e => kp b o (fun q => by rw [q, fa] at e; cases e) (H.froz b o e), fun k => ?_, H.mutF, H.sep, H.sepi, fun e he => ?_⟩, fun _ _ e => e, fun _ e => ⟨rfl, rfl, e⟩, fun b o e _ no => ?_, fun _ _ e => .inl e, fun _ _ e => .inl e, fun b o e => ?_⟩
  · refine cell_mono (fun _ _ r => r) (fun _ _ r => r) rfl rfl (fun o lv e => kp _ o (fun q => ?_) e) (fun o c' fs ec e => kp _ o (fun q => ?_) e) (H.cell k)
    · refine na k ?_
      unfold MutK
      cases ec : σ.get k with
      | dead => rw [ec] at lv; exact lv.elim
      | lst p vs => exact q.symm
      | inst c' fs => exact .inl q.symm
    · refine na k ?_
      unfold MutK; rw [ec]; exact .inr q.symm
  · obtain ⟨a1, L', m', a2, a3, a4⟩ := H.frm e he
    by_cases q : L' = a
    · subst q
      obtain ⟨m₂, x⟩ := fr m' a3
      exact ⟨a1, L', m₂, a2, x, a4⟩
    · obtain ⟨o, ho, nn⟩ := ns_iff.mp a3
      exact ⟨a1, L', m', a2, ns_iff.mpr ⟨o, kp _ _ q ho, nn⟩, a4⟩
  · by_cases q : b = a
    · subst q; exact absurd oa no
    · exact ⟨o, kp b o q e, .refl o⟩
  · by_cases q : b = a
    · subst q; exact da
    · exact ⟨o, kp b o q e⟩
theorem cell_ns {h : Heap} {a : Addr} {w m} (x : h.IsCell a w) (y : h.Ns a m) : False := by
  obtain ⟨o, ho, hd⟩ := x
  obtain ⟨o', es, ep, ho', hd', _⟩ := y
  rw [ho] at ho'; cases ho'
  rw [hd] at hd'; cases hd'

theorem store_ok {x : Str} {y : V} {v : Value} {W : Wd} {s : Shared} (C : ECx u A l env n hn kd) (hk : kd x = some .local ∨ kd x = some .cell) (H : Hp u W σ l s.heap) (L : Lo W σ env s.heap ρ) (r : Rp W σ y v)
    {QC : Unit → Shared → Prop} {EC : Value → Shared → Prop} (own : Addr → Prop) (ow : ∀ a, ownOf env a → own a)
    (hq : ∀ h' tk, Step u l own W σ s.heap W σ h' → Lo W σ env h' (stl ρ x y) → QC () ⟨h', s.gens, s.drawn, tk, s.os⟩) : wpAny u.M A (storeName env x v) QC EC s := by
  obtain ⟨m, hm⟩ := L.ns
  have kk : env.kindOf x = some .local ∨ env.kindOf x = some .cell := by
    rcases hk with e | e <;> rcases C.kinds x _ e with z | ⟨z, z'⟩
    · exact .inl z
    · cases z
    · exact .inr z
    · cases z
  rcases kk with z | z
  · refine wpAny_storeName_local z hm (fun h' hn' hs => hq h' _ (Step.own H (ow _ (.inl rfl)) L.lfree.1 L.lfree.2 hs.2 (fun _ _ => ⟨_, hn'⟩) (let ⟨o, e, _⟩ := ns_iff.mp hn'; ⟨o, e⟩)) ?_) (by rw [C.kind]; rfl)
    have cl : ∀ {c w}, s.heap.IsCell c w → h'.IsCell c w := fun ic => ic.sameBut hs fun q => cell_ns (q ▸ ic) hm
    refine ⟨fun y' z' e => ?_, ⟨_, hn'⟩, L.lfree, fun y' c e => ?_, L.cinj, L.cdef⟩
    · rw [lk_stl] at e
      unfold VarAt
      by_cases q : x = y'
      · subst q
        rw [if_pos rfl] at e; cases e
        rw [z]
        exact ⟨_, v, hn', by simp, r⟩
      · rw [if_neg q] at e
        have vv := L.var y' z' e
        unfold VarAt at vv
        split at vv
        · rename_i zk
          obtain ⟨m₂, w, a, b, c⟩ := vv
          have : m = m₂ := by
            obtain ⟨o, ho, n1⟩ := ns_iff.mp hm
            obtain ⟨o', ho', n2⟩ := ns_iff.mp a
            rw [ho] at ho'; cases ho'
            exact n1.inj n2
          subst this
          exact ⟨_, w, hn', by simp [Ne.symm q, b], c⟩
        · obtain ⟨c, w, a, b, d⟩ := vv; exact ⟨c, w, a, cl b, d⟩
        · obtain ⟨c, w, a, b, d⟩ := vv; exact ⟨c, w, a, cl b, d⟩
        · exact vv
    · obtain ⟨a, b, w, c⟩ := L.cfree y' c e; exact ⟨a, b, w, cl c⟩
  · obtain ⟨c, hc⟩ := L.cdef x z
    obtain ⟨c1, c2, w₀, c3⟩ := L.cfree x c hc
    refine wpAny_storeName_cell C.kind z hc c3 fun h' hc' hs => hq h' _ (Step.own H (ow _ (.inr ⟨x, hc⟩)) c1 c2 hs.2 (fun m' q => (cell_ns c3 q).elim) (let ⟨o, e, _⟩ := hc'; ⟨o, e⟩)) ?_
    have nL : env.locals ≠ c := fun q => cell_ns c3 (q ▸ hm)
    have cl : ∀ {c' w}, c' ≠ c → s.heap.IsCell c' w → h'.IsCell c' w := fun ne ic => ic.sameBut hs ne
    refine ⟨fun y' z' e => ?_, ⟨m, hm.sameBut hs nL⟩, L.lfree, fun y' c' e => ?_, L.cinj, L.cdef⟩
    · rw [lk_stl] at e
      unfold VarAt
      by_cases q : x = y'
      · subst q
        rw [if_pos rfl] at e; cases e
        rw [z]
        exact ⟨c, v, hc, hc', r⟩
      · rw [if_neg q] at e
        have vv := L.var y' z' e
        unfold VarAt at vv
        split at vv
        · obtain ⟨m₂, w, a, b, d⟩ := vv; exact ⟨m₂, w, a.sameBut hs nL, b, d⟩
        · obtain ⟨c', w, a, b, d⟩ := vv; exact ⟨c', w, a, cl (fun z => q (L.cinj x y' c hc (z ▸ a))) b, d⟩
        · obtain ⟨c', w, a, b, d⟩ := vv; exact ⟨c', w, a, cl (fun z => q (L.cinj x y' c hc (z ▸ a))) b, d⟩
        · exact vv
    · obtain ⟨a, b, w, d⟩ := L.cfree y' c' e
      by_cases q : c' = c
      · subst q; exact ⟨a, b, _, hc'⟩
      · exact ⟨a, b, w, cl q d⟩

theorem As_name {x : Str} {pos : Pos} {y : V} (C : ECx u A l env n hn kd) (hk : kd x = some .local ∨ kd x = some .cell) (q : N (stl ρ x y) σ) : AsOk u A l env (assign (.Name x pos) env) y ρ N X σ := by
  intro W s v H L r QC EC hq he
  exact wpAny_assign_Name (store_ok C hk H L r (ownOf env) (fun _ q => q) fun h' tk st L' => hq _ W σ h' tk st L' q)
theorem As_attr {o : Expr} {x : Str} {pos : Pos} {y : V} (C : ECx u A l env n hn kd)
    (h : EOk u A l env Rp (eval o env) ρ (kSA x y ρ N) (xR X ρ) σ) :
    AsOk u A l env (assign (.Attribute o x pos) env) y ρ N X σ := by
  intro W s v H L r QC EC hq he
  show wpAny u.M A (do
    let ov ← holding [v] (eval o env)
    standAt pos.atName
    holding [v, ov] (setAttr ov x v)
    release [v, ov] []) QC EC s
  refine wpAny_bind (wpAny_holding (h.use H L (fun v' b W₁ σ₁ h₁ tk₁ st₁ L₁ r₁ q₁ => ?_) he))
  obtain ⟨k, c, fs, rfl, hc, hf, hz, q⟩ := q₁
  obtain ⟨rfl, lv⟩ := rp_refI r₁
  refine wpAny_bind (wpAny_standAt (wpAny_bind (wpAny_holding ?_)))
  refine Attr_set (s := ⟨h₁, s.gens, s.drawn, tk₁, s.os⟩) C.ne st₁.hp hc hf hz (st₁.rp r) fun h' st => wpAny_release ?_
  exact hq ρ W₁ _ h' _ ((st₁.trans st).wider fun _ => noOwn_own) (L₁.stepE st) q
theorem As_cell {o i : Expr} {pos : Pos} {y : V} (C : ECx u A l env n hn kd) (hi : noSlice i = true)
    (h : EOk u A l env Rp (eval o env) ρ (fun ov σ₁ => EOk u A l env Rp (eval i env) ρ (fun iv σ₂ => ∃ k vs j, ov = .ref k ∧ iv = .int j ∧ σ₂.get k = .lst false vs ∧ 0 ≤ j ∧ j < vs.length ∧ vs.length ≤ 1000 ∧ N ρ (σ₂.set k (.lst false (vs.set j.toNat y)))) (fun c σ' => X c ρ σ') σ₁) (fun c σ' => X c ρ σ') σ) :
    AsOk u A l env (assign (.Subscript o i pos) env) y ρ N X σ := by
  intro W s v H L r QC EC hq he
  rw [assign_Subscript]
  refine wpAny_bind (wpAny_holding (h.use H L (fun v' b W₁ σ₁ h₁ tk₁ st₁ L₁ r₁ q₁ => ?_) he))
  have s1 := st₁.wider (own' := ownOf env) fun _ => noOwn_own
  refine wpAny_bind (wpAny_holding (q₁.use (s := ⟨h₁, s.gens, s.drawn, tk₁, s.os⟩) st₁.hp L₁ (fun v₂ b₂ W₂ σ₂ h₂ tk₂ st₂ L₂ r₂ q₂ => ?_) fun e c ρ' W' σ' h' tk st L' x q => he e c ρ' W' σ' h' tk (s1.trans st) L' (x.older s1.dm) q))
  have s12 := st₁.trans st₂
  obtain ⟨k, vs, j, rfl, rfl, hc, hj, hj', hz, q⟩ := q₂
  obtain ⟨rfl, lv⟩ := rp_refI (st₂.rp r₁)
  obtain ⟨t, rfl⟩ := rp_intI r₂
  refine wpAny_bind (wpAny_standAt (wpAny_bind (wpAny_holding ?_)))
  have cc := st₂.hp.cell k
  rw [hc] at cc
  obtain ⟨ob, arr, n', c1, c2, c3, c4, rl⟩ := cc
  have ln : arr.size = vs.length := by rw [← Array.length_toList, RepL.length rl]
  refine wpAny_setItem_list (s := ⟨h₂, s.gens, s.drawn, tk₂, s.os⟩) ⟨ob, c1, c2, n', c3⟩ hj (by lcg_off) (by lcg_off) fun h' il sb => wpAny_release ?_
  obtain ⟨Lf, m, F, fL, nL⟩ := frame_at st₂.hp C.ne
  have md : MutK W₂ σ₂ k (W₂.al k) := by unfold MutK; rw [hc]
  have nLd : Lf ≠ W₂.al k := fun z => nL k (z ▸ md)
  have kk : Cell.kin (.lst false (vs.set j.toNat y)) = (σ₂.get k).kin := by rw [hc]; rfl
  obtain ⟨o', ho', hc', n'', hd'⟩ := il
  have st : Step u l noOwn W₂ σ₂ h₂ W₂ (σ₂.set k (.lst false (vs.set j.toNat y))) h' := by
    refine Step.turn st₂.hp kk F.ns (F.ns.sameBut sb nLd) fL nL md (fun b o n1 n2 e => (sb.2 b n2).trans e) ⟨_, ho'⟩ ⟨o', _, n'', ho', hc', hd', (fun z => nomatch z), ?_⟩
    rw [Array.toList_setIfInBounds]
    exact rpL_set kk (RepL.set rl (s12.rp r))
  exact hq ρ W₂ _ h' _ ((s12.trans st).wider fun _ => noOwn_own) ((L₂.stepE st)) q
theorem S_assign {t v : Expr} {pos : Pos} (h : EOk u A l env Rp (eval v env) ρ (kW u A l env t ρ N X) (xR X ρ) σ)
    (ht : assignEach [t] env = [(false, assign t env)] := by rfl) (h1 : swapsWithSole [t] v pos.line env = pure false := by rfl) (h2 : swappedStores [t] v env = pure none := by rfl) :
    SOk u A l env (exec (.Assign [t] v pos) env) ρ N R X σ := by
  intro W s H L QC EC hq hr he
  refine wpAny_Assign_stores (h.use H L (fun v' b W₁ σ₁ h₁ tk₁ st₁ L₁ r₁ q₁ => ?_) he) h1 h2
  rw [ht]
  have s1 := st₁.wider (own' := ownOf env) fun _ => noOwn_own
  exact q₁ W₁ ⟨h₁, s.gens, s.drawn, tk₁, s.os⟩ v' st₁.hp L₁ r₁ _ EC (fun ρ' W' σ' h' tk st L' q => hq ρ' W' σ' h' tk (s1.trans st) L' q)
    fun e c ρ' W' σ' h' tk st L' x q => he e c ρ' W' σ' h' tk (s1.trans st) L' (x.older s1.dm) q
end
section
variable (u : Uni) (A : Around) (l : List Env) (env : Env)
/-- several targets, one after another -/
noncomputable def AsL : List Expr → List V → Loc → (Loc → St → Prop) → (Exn → Loc → St → Prop) → St → Prop
  | [], [], ρ, N, _, σ => N ρ σ
  | t :: ts, y :: ys, ρ, N, X, σ => AsOk u A l env (assign t env) y ρ (fun ρ' σ' => AsL ts ys ρ' N X σ') X σ
  | _, _, _, _, _, _ => False
/-- a for loop over the items that are left -/
noncomputable def ForR (t : Expr) (body : List Stmt) (N : Loc → St → Prop) (R : V → St → Prop) (X : Exn → Loc → St → Prop) : List V → Loc → St → Prop
  | [], ρ, σ => N ρ σ
  | y :: ys, ρ, σ => AsOk u A l env (assign t env) y ρ (fun ρ' σ' => SOk u A l env (execs body env) ρ' (fun ρ'' σ'' => ForR t body N R X ys ρ'' σ'') R X σ') X σ
/-- a while loop of at most so many turns -/
noncomputable def WhR (t : Expr) (body : List Stmt) (N : Loc → St → Prop) (R : V → St → Prop) (X : Exn → Loc → St → Prop) : Nat → Loc → St → Prop
  | 0, _, _ => False
  | n + 1, ρ, σ => EOk u A l env Bl (isTrue t env (eval t env)) ρ (fun c σ₁ => (c = true → SOk u A l env (execs body env) ρ (fun ρ' σ' => WhR t body N R X n ρ' σ') R X σ₁) ∧ (c = false → N ρ σ₁)) (fun c σ' => X c ρ σ') σ
end

/-! loops, told by what the turn must reach: the goal of a turn stays small -/
section
variable {prog : Program} {w : World} {A : Around} {R : Result → Shared → Prop} {s : Shared}
theorem codeAny_loopK {c : Code} (hq : c.quiet = true) (I : Nat → Shared → Prop)
    (turn : ∀ n s, I n s → ∀ QQ : Fin → Shared → Prop, (∀ f s', R (.ok f) s' → QQ (.done f) s') → (∀ m s', m < n → I m s' → QQ (.again c) s') →
      wpAny (model prog w) (A.under c) ((model prog w).den c) QQ (fun e s' => R (.error e) s') s) (n : Nat) (h : I n s) : codeAny (model prog w) A c R s :=
  codeAny_loop hq I (fun n s hI => turn n s hI _ (fun _ _ h => h) (fun m _ hm hI => ⟨rfl, m, hm, hI⟩)) n h
theorem codeAny_whileK {test : Expr} {body : List Stmt} {env : Env} (I : Nat → Shared → Prop)
    (turn : ∀ n s, I n s → ∀ (LB : Flow → Shared → Prop) (EE : Value → Shared → Prop) (QQ : Bool → Shared → Prop), (∀ e s', notedBy (model prog w) A env (fun e s' => R (.error e) s') e s' → EE e s') →
      (∀ m s', m < n → I m s' → LB .next s') → (∀ v s', R (.ok (.ret v)) s' → LB (.ret v) s') → (∀ s', wpAny (model prog w) A (execs body env) LB EE s' → QQ true s') → (∀ s', R (.ok .next) s' → QQ false s') →
      wpAny (model prog w) A (isTrue test env (eval test env)) QQ EE s) (n : Nat) (h : I n s) : codeAny (model prog w) A (.whileLoop test body [] env) R s := by
  refine codeAny_whileLoop I (fun n s hI => turn n s hI (fun f s₃ => match f with | .next | .cont => ∃ m, m < n ∧ I m s₃ | .brk => R (.ok .next) s₃ | .ret v => R (.ok (.ret v)) s₃) _ _ (fun _ _ h => h) (fun m _ hm hI => ⟨m, hm, hI⟩) (fun _ _ h => h) (fun _ h => ?_) (fun _ h => ?_)) n h
  · rw [if_pos rfl]; exact h
  · rw [if_neg (by decide)]; exact wpAny_execs_nil h
theorem codeAny_forK {target : Expr} {it : Value} {body : List Stmt} {env : Env} (I : Nat → Shared → Prop)
    (turn : ∀ n s, I n s → ∀ (LB : Flow → Shared → Prop) (EE : Value → Shared → Prop) (QQ : Option Value → Shared → Prop), (∀ e s', notedBy (model prog w) A env (fun e s' => R (.error e) s') e s' → EE e s') →
      (∀ m s', m < n → I m s' → LB .next s') → (∀ v s', R (.ok (.ret v)) s' → LB (.ret v) s') → (∀ s', R (.ok .next) s' → QQ none s') →
      (∀ v s', wpAny (model prog w) A (letOwnedTupleGo target it v) (fun _ s₁ => wpAny (model prog w) A (assign target env v) (fun _ s₂ => wpAny (model prog w) A (execs body env) LB EE s₂) EE s₁) EE s' → QQ (some v) s') →
      wpAny (model prog w) A (pyNext it) QQ EE s) (n : Nat) (h : I n s) : codeAny (model prog w) A (.forLoop target it body [] env) R s :=
  codeAny_forLoop_any I (fun n s hI => turn n s hI (fun f s₃ => match f with | .next | .cont => ∃ m, m < n ∧ I m s₃ | .brk => R (.ok .next) s₃ | .ret v => R (.ok (.ret v)) s₃) _ _ (fun _ _ h => h) (fun m _ hm hI => ⟨m, hm, hI⟩) (fun _ _ h => h) (fun _ h => wpAny_execs_nil h) (fun _ _ h => h)) n h
end
section
variable {u : Uni} {A : Around} {l : List Env} {env : Env} {ρ : Loc} {X : Exn → Loc → St → Prop} {N : Loc → St → Prop} {R : V → St → Prop} {σ : St} {n : Nat} {hn : Bool} {kd : Str → Option NameKind}

theorem assignEach_cons {t : Expr} {ts : List Expr} (h : notStar t = true) : assignEach (t :: ts) env = (false, assign t env) :: assignEach ts env := by
  cases t <;> first | rfl | cases h
theorem AsL_ok : ∀ (ts : List Expr) (ys : List V) {ρ : Loc} {σ : St} {W : Wd} {s : Shared} {vs : List Value}, ts.all notStar = true → AsL u A l env ts ys ρ N X σ → Hp u W σ l s.heap → Lo W σ env s.heap ρ → RpL W σ ys vs →
    ∀ {QC : Unit → Shared → Prop} {EC : Value → Shared → Prop},
    (∀ ρ' W' σ' h' tk, Step u l (ownOf env) W σ s.heap W' σ' h' → Lo W' σ' env h' ρ' → N ρ' σ' → QC () ⟨h', s.gens, s.drawn, tk, s.os⟩) →
    (∀ e c ρ' W' σ' h' tk, Step u l (ownOf env) W σ s.heap W' σ' h' → Lo W' σ' env h' ρ' → Ex u W' σ' l e c s.heap h' → X c ρ' σ' → EC (.ref e) ⟨h', s.gens, s.drawn, tk, s.os⟩) →
    wpAny u.M A (assignInOrder ((assignEach ts env).map (·.2)) vs) QC EC s
  | [], [], ρ, σ, W, s, vs, _, h, H, L, r, QC, EC, hq, he => by
    simp only [RpL, RepL] at r; subst r
    exact wpAny_assignInOrder_none (hq ρ W σ s.heap s.toks (.refl H) L h)
  | t :: ts, y :: ys, ρ, σ, W, s, vs, hs, h, H, L, r, QC, EC, hq, he => by
    simp only [RpL, RepL] at r
    obtain ⟨v, vs', rfl, r1, r2⟩ := r
    rw [List.all_cons, Bool.and_eq_true] at hs
    rw [assignEach_cons hs.1, List.map_cons]
    refine wpAny_assignInOrder_more (h W s v H L r1 _ EC (fun ρ' W' σ' h' tk st L' q => ?_) he)
    exact AsL_ok ts ys (s := ⟨h', s.gens, s.drawn, tk, s.os⟩) hs.2 q st.hp L' (st.rpL r2) (fun ρ'' W'' σ'' h'' tk'' st'' L'' q'' => hq ρ'' W'' σ'' h'' tk'' (st.trans st'') L'' q'')
      fun e c ρ'' W'' σ'' h'' tk'' st'' L'' x q'' => he e c ρ'' W'' σ'' h'' tk'' (st.trans st'') L'' (x.older st.dm) q''
  | [], _ :: _, _, _, _, _, _, _, h, _, _, _, _, _, _, _ => h.elim
  | _ :: _, [], _, _, _, _, _, _, h, _, _, _, _, _, _, _ => h.elim
theorem AsL_len : ∀ {ts : List Expr} {ys : List V} {ρ : Loc} {σ : St}, AsL u A l env ts ys ρ N X σ → ts.length = ys.length ∨ True := fun _ => .inr trivial
theorem each_len : ∀ ts : List Expr, ts.all notStar = true → (assignEach ts env).length = ts.length ∧ List.findIdx? (fun x => x.1) (assignEach ts env) = none
  | [], _ => ⟨rfl, rfl⟩
  | t :: ts, h => by
    rw [List.all_cons, Bool.and_eq_true] at h
    obtain ⟨a, b⟩ := each_len ts h.2
    rw [assignEach_cons h.1]
    refine ⟨by rw [List.length_cons, List.length_cons, a], ?_⟩
    rw [List.findIdx?_cons, b]; rfl
theorem As_tuple {ts : List Expr} {k : Nat} {pos : Pos} {ys : List V} (C : ECx u A l env n hn kd) (hh : hn = true) (h : AsL u A l env ts ys ρ N X σ) (hz : ts.length = ys.length := by rfl) (hs : ts.all notStar = true := by rfl) :
    AsOk u A l env (assign (.Tuple ts k pos) env) (.tup ys) ρ N X σ := by
  intro W s v H L r QC EC hq he
  obtain ⟨a, o, arr, n', rfl, hF, hc, hd, rl⟩ := rp_tupI r
  obtain ⟨e1, e2⟩ := each_len (env := env) ts hs
  refine wpAny_assign_Tuple (C.hand hh) ⟨o, H.froz _ _ hF, hc, n', hd⟩ (by rw [e1, hz, ← Array.length_toList, RepL.length rl]) e2 fun h' ex => ?_
  obtain ⟨Lf, m, F, fL, nL⟩ := frame_at H C.ne
  have kp : ∀ b o, s.heap.get? b = some o → h'.get? b = some o := fun b o e => ex b o (Nat.ne_of_lt (Heap.lt_size e)) e
  have st := Step.grow H Lf m F.ns (F.ns.keeps kp) fL nL fun b o _ e => kp b o e
  exact AsL_ok ts ys (s := ⟨h', s.gens, s.drawn, s.toks, s.os⟩) hs h st.hp (L.stepE st) (st.rpL rl) (fun ρ'' W'' σ'' h'' tk'' st'' L'' q'' => hq ρ'' W'' σ'' h'' tk'' ((st.wider fun _ => noOwn_own).trans st'') L'' q'')
    fun e c ρ'' W'' σ'' h'' tk'' st'' L'' x q'' => he e c ρ'' W'' σ'' h'' tk'' ((st.wider fun _ => noOwn_own).trans st'') L'' (x.older st.dm) q''

/-- an exception out of a loop's own activation -/
theorem loop_exn {W₀ W : Wd} {σ₀ : St} {h₀ : Heap} {s : Shared} {e : Addr} {c : Exn} {EC : Value → Shared → Prop} (C : SCx u A l env n hn kd) (S : Step u l (ownOf env) W₀ σ₀ h₀ W σ s.heap) (L : Lo W σ env s.heap ρ) (x : Ex u W σ l e c h₀ s.heap)
    (he : ∀ h', Step u l (ownOf env) W₀ σ₀ h₀ W σ h' → Lo W σ env h' ρ → Ex u W σ l e c h₀ h' → EC (.ref e) { s with heap := h' }) : notedBy u.M A env (fun e s' => cameBackBy u.M A env EC e s') (.ref e) s := by
  obtain ⟨r, Lf, hl, hf, hL⟩ := C.head
  refine Ex.note hl C.frames hf S x fun h₁ S₁ up₁ x₁ ⟨B, a0, t⟩ => ?_
  exact Ex.back (s := { s with heap := h₁ }) hl hf S₁ x₁ (not_fresh t) fun h₂ S₂ up₂ x₂ => he h₂ S₂ ((L.upto up₁).upto up₂) x₂

theorem S_while {t : Expr} {body : List Stmt} {pos : Pos} (C : SCx u A l env n hn kd) (h : ∃ k, WhR u A l env t body N R X k ρ σ) : SOk u A l env (exec (.While t body [] pos) env) ρ N R X σ := by
  intro W s H L QC EC hq hr he
  obtain ⟨k, h⟩ := h
  refine wpAny_While ?_
  refine codeAny_whileK (fun k s' => ∃ W' σ' ρ' h' tk, s' = ⟨h', s.gens, s.drawn, tk, s.os⟩ ∧ Step u l (ownOf env) W σ s.heap W' σ' h' ∧ Lo W' σ' env h' ρ' ∧ WhR u A l env t body N R X k ρ' σ') (fun k s' hI => ?_) k ⟨W, σ, ρ, s.heap, s.toks, rfl, .refl H, L, h⟩
  obtain ⟨W₁, σ₁, ρ₁, h₁, tk₁, rfl, S₁, L₁, w⟩ := hI
  intro LB EE QQ hE hB hR hT hF
  cases k with
  | zero => exact w.elim
  | succ k =>
    refine EOk.use w (s := ⟨h₁, s.gens, s.drawn, tk₁, s.os⟩) S₁.hp L₁ (fun v b W₂ σ₂ h₂ tk₂ st₂ L₂ r₂ q₂ => ?_) fun e c ρ' W' σ' h' tk st L' x q =>
      hE _ _ (loop_exn (s := ⟨h', s.gens, s.drawn, tk, s.os⟩) C (S₁.trans st) L' (x.older S₁.dm) fun h'' S'' L'' x'' => he e c ρ' W' σ' h'' tk S'' L'' x'' q)
    obtain rfl : v = b := r₂
    have S₂ := S₁.trans (st₂.wider fun _ => noOwn_own)
    cases v with
    | true =>
      exact hT _ (q₂.1 rfl W₂ ⟨h₂, s.gens, s.drawn, tk₂, s.os⟩ st₂.hp L₂ _ _ (fun ρ' W' σ' h' tk st L' q => hB k _ (Nat.lt_succ_self k) ⟨W', σ', ρ', h', tk, rfl, S₂.trans st, L', q⟩) (fun v x W' σ' h' tk st r q => hR v _ (hr v x W' σ' h' tk (S₂.trans st) r q))
        fun e c ρ' W' σ' h' tk st L' x q => hE _ _ (loop_exn (s := ⟨h', s.gens, s.drawn, tk, s.os⟩) C (S₂.trans st) L' (x.older S₂.dm) fun h'' S'' L'' x'' => he e c ρ' W' σ' h'' tk S'' L'' x'' q))
    | false => exact hF _ (hq ρ₁ W₂ σ₂ h₂ tk₂ S₂ L₂ (q₂.2 rfl))

/-- a thing made since the start is turned -/
theorem Step.touch {own : Addr → Prop} {W₀ W : Wd} {σ₀ : St} {h₀ h h' : Heap} {a : Addr} (S : Step u l own W₀ σ₀ h₀ W σ h) (ha : h₀.get? a = none) (fa : W.F a = none) (na : ∀ k, ¬ MutK W σ k a) (nn : ∀ m, ¬ h.Ns a m)
    (keep : ∀ b o, b ≠ a → h.get? b = some o → h'.get? b = some o) : Step u l own W₀ σ₀ h₀ W σ h' := by
  have H := S.hp
  refine ⟨⟨H.base, fun b o e => keep b o (fun q => by rw [q, fa] at e; cases e) (H.froz b o e), fun k => ?_, H.mutF, H.sep, H.sepi, fun e he => ?_⟩, S.le, S.al, fun b o e nm no => ?_, S.nm, S.nf, fun b o e => ?_⟩
  · refine cell_mono (fun _ _ r => r) (fun _ _ r => r) rfl rfl (fun o lv e => keep _ o (fun q => ?_) e) (fun o c' fs ec e => keep _ o (fun q => ?_) e) (H.cell k)
    · refine na k ?_
      unfold MutK
      cases ec : σ.get k with
      | dead => rw [ec] at lv; exact lv.elim
      | lst p vs => exact q.symm
      | inst c' fs => exact .inl q.symm
    · refine na k ?_
      unfold MutK; rw [ec]; exact .inr q.symm
  · obtain ⟨a1, L', m', a2, a3, a4⟩ := H.frm e he
    obtain ⟨o, ho, n1⟩ := ns_iff.mp a3
    exact ⟨a1, L', m', a2, ns_iff.mpr ⟨o, keep _ _ (fun q => nn m' (q ▸ a3)) ho, n1⟩, a4⟩
  · obtain ⟨o', e', s'⟩ := S.up b o e nm no
    exact ⟨o', keep b o' (fun q => by rw [q, ha] at e; cases e) e', s'⟩
  · obtain ⟨o', e'⟩ := S.dm b o e
    exact ⟨o', keep b o' (fun q => by rw [q, ha] at e; cases e) e'⟩
theorem Lo.keeps {W : Wd} {h h' : Heap} {a : Addr} (x : Lo W σ env h ρ) (nn : ∀ m, ¬ h.Ns a m) (nc : ∀ w, ¬ h.IsCell a w) (keep : ∀ b o, b ≠ a → h.get? b = some o → h'.get? b = some o) : Lo W σ env h' ρ := by
  have ns : ∀ {m}, h.Ns env.locals m → h'.Ns env.locals m := fun {m} n => by
    obtain ⟨o, ho, n1⟩ := ns_iff.mp n
    exact ns_iff.mpr ⟨o, keep _ _ (fun q => nn m (q ▸ n)) ho, n1⟩
  have ic : ∀ {c w}, h.IsCell c w → h'.IsCell c w := fun {c w} ic => by
    obtain ⟨o, ho, hd⟩ := id ic
    exact ⟨o, keep _ _ (fun q => nc w (q ▸ ic)) ho, hd⟩
  refine ⟨fun y z e => ?_, ?_, x.lfree, fun y c e => ?_, x.cinj, x.cdef⟩
  · have v := x.var y z e
    unfold VarAt at v ⊢
    split at v
    · obtain ⟨m, w, a, b, c⟩ := v; exact ⟨m, w, ns a, b, c⟩
    · obtain ⟨c, w, a, b, d⟩ := v; exact ⟨c, w, a, ic b, d⟩
    · obtain ⟨c, w, a, b, d⟩ := v; exact ⟨c, w, a, ic b, d⟩
    · exact v
  · obtain ⟨m, a⟩ := x.ns; exact ⟨m, ns a⟩
  · obtain ⟨a, b, w, c⟩ := x.cfree y c e; exact ⟨a, b, w, ic c⟩
noncomputable def IsRec (h : Heap) (a : Addr) : Prop := ∃ o vs, h.get? a = some o ∧ o.data = .fields vs
theorem IsRec.ns {h : Heap} {a : Addr} (x : IsRec h a) : ∀ m, ¬ h.Ns a m := fun m y => by
  obtain ⟨o, vs, ho, hd⟩ := x
  obtain ⟨o', es, ep, ho', hd', _⟩ := y
  rw [ho] at ho'; cases ho'
  rw [hd] at hd'; cases hd'
theorem IsRec.cell {h : Heap} {a : Addr} (x : IsRec h a) : ∀ w, ¬ h.IsCell a w := fun m y => by
  obtain ⟨o, vs, ho, hd⟩ := x
  obtain ⟨o', ho', hd'⟩ := y
  rw [ho] at ho'; cases ho'
  rw [hd] at hd'; cases hd'
/-- a record that a block's run does not know stays as it is -/
theorem rec_stays {W W' : Wd} {σ' : St} {h h' : Heap} {a : Addr} {o : Obj} {vs : Array Value} (S : Step u l (ownOf env) W σ h W' σ' h') (L : Lo W σ env h ρ) (ho : h.get? a = some o) (hd : o.data = .fields vs) (fa : W.F a = none) (na : ∀ k, ¬ MutK W σ k a) :
    h'.get? a = some o ∧ W'.F a = none ∧ ∀ k, ¬ MutK W' σ' k a := by
  have ir : IsRec h a := ⟨o, vs, ho, hd⟩
  have no : ¬ ownOf env a := by
    rintro (q | ⟨x, q⟩)
    · obtain ⟨m, n⟩ := L.ns; exact ir.ns m (q ▸ n)
    · obtain ⟨_, _, w, c⟩ := L.cfree x a q; exact ir.cell w c
  obtain ⟨o', ho', s⟩ := S.up a o ho na no
  obtain rfl := s.eq (by rw [hd]; intro _ _ q; cases q)
  refine ⟨ho', ?_, fun k q => ?_⟩
  · cases e : W'.F a with
    | none => rfl
    | some x => rcases S.nf a x e with q | q
                · rw [fa] at q; cases q
                · rw [ho] at q; cases q
  · rcases S.nm k a q with z | z
    · exact na k z
    · rw [ho] at z; cases z
end
section
variable {u : Uni} {A : Around} {l : List Env} {env : Env} {ρ : Loc} {X : Exn → Loc → St → Prop} {N : Loc → St → Prop} {R : V → St → Prop} {σ : St} {n : Nat} {hn : Bool} {kd : Str → Option NameKind}

/-- one turn of a for loop, behind the drawing of its item -/
theorem for_turn {t : Expr} {body : List Stmt} {y : V} {v : Value} {G : Loc → St → Prop} {W : Wd} {s : Shared} {it : Addr} {oI : Obj} {vs : Array Value}
    (H : Hp u W σ l s.heap) (L : Lo W σ env s.heap ρ) (hI : s.heap.get? it = some oI) (hd : oI.data = .fields vs) (fI : W.F it = none) (nI : ∀ k, ¬ MutK W σ k it) (r : Rp W σ y v)
    (h : AsOk u A l env (assign t env) y ρ (fun ρ' σ' => SOk u A l env (execs body env) ρ' G R X σ') X σ) {LB : Flow → Shared → Prop} {EE : Value → Shared → Prop}
    (hP : ∀ W' σ' ρ' h' tk, Step u l (ownOf env) W σ s.heap W' σ' h' → Lo W' σ' env h' ρ' → h'.get? it = some oI → W'.F it = none → (∀ k, ¬ MutK W' σ' k it) → G ρ' σ' → LB .next ⟨h', s.gens, s.drawn, tk, s.os⟩)
    (hr : ∀ v x W' σ' h' tk, Step u l (ownOf env) W σ s.heap W' σ' h' → Rp W' σ' x v → R x σ' → LB (.ret v) ⟨h', s.gens, s.drawn, tk, s.os⟩)
    (he : ∀ e c ρ' W' σ' h' tk, Step u l (ownOf env) W σ s.heap W' σ' h' → Lo W' σ' env h' ρ' → Ex u W' σ' l e c s.heap h' → X c ρ' σ' → EE (.ref e) ⟨h', s.gens, s.drawn, tk, s.os⟩) :
    wpAny u.M A (assign t env v) (fun _ s₂ => wpAny u.M A (execs body env) LB EE s₂) EE s := by
  refine h W s v H L r _ _ (fun ρ₁ W₁ σ₁ h₁ tk₁ st₁ L₁ q₁ => ?_) he
  obtain ⟨g1, f1, m1⟩ := rec_stays st₁ L hI hd fI nI
  refine q₁ W₁ ⟨h₁, s.gens, s.drawn, tk₁, s.os⟩ st₁.hp L₁ _ _ (fun ρ' W' σ' h' tk st L' q => ?_) (fun v x W' σ' h' tk st r q => hr v x W' σ' h' tk (st₁.trans st) r q) fun e c ρ' W' σ' h' tk st L' x q => he e c ρ' W' σ' h' tk (st₁.trans st) L' (x.older st₁.dm) q
  obtain ⟨g2, f2, m2⟩ := rec_stays st L₁ g1 hd f1 m1
  exact hP W' σ' ρ' h' tk (st₁.trans st) L' g2 f2 m2 q

theorem fresh_size (h : Heap) : h.get? h.objs.size = none := by
  cases e : h.get? h.objs.size with
  | none => rfl
  | some o' => exact absurd (Heap.lt_size e) (Nat.lt_irrefl _)

noncomputable def tgtOk : Expr → Bool
  | .Name .. => true
  | .Tuple .. => true
  | _ => false
theorem letgo_it {t : Expr} (ht : tgtOk t = true) {it ad : Addr} {i : Nat} {v : Value} {s : Shared} {Q : Unit → Shared → Prop} {E : Value → Shared → Prop} (h : s.heap.IsListIter it ad i) (q : Q () s) : wpAny u.M A (letOwnedTupleGo t (.ref it) v) Q E s := by
  cases t with
  | Name => exact wpAny_pure q
  | Tuple =>
    cases v with
    | ref a => exact wpAny_letOwnedTupleGo_listiter h q
    | _ => exact wpAny_pure q
  | _ => cases ht
theorem S_for {t it : Expr} {body : List Stmt} {pos : Pos} (C : SCx u A l env n hn kd) (hh : hn = true)
    (h : EOk u A l env Rp (eval it env) ρ (fun w σ₁ => ∃ xs, w = .lst xs ∧ ForR u A l env t body N R X xs ρ σ₁) (fun c σ' => X c ρ σ') σ)
    (ht : tgtOk t = true := by rfl) (hf : ∀ x, foldedSetIterable it env x = pure x := by intro x; rfl) :
    SOk u A l env (exec (.For t it body [] pos) env) ρ N R X σ := by
  intro W s H L QC EC hq hr he
  refine wpAny_For (h.use H L (fun v b W₁ σ₁ h₁ tk₁ st₁ L₁ r₁ q₁ => ?_) he) hf
  obtain ⟨xs, rfl, fr⟩ := q₁
  have H₁ := st₁.hp
  obtain ⟨ad, o, arr, n', rfl, hF, hc, hd, hdi, rl⟩ := rp_lstI r₁
  have ln : arr.toList.length = xs.length := RepL.length rl
  refine wpAny_pyIter_list (s := ⟨h₁, s.gens, s.drawn, tk₁, s.os⟩) ⟨o, H₁.froz _ _ hF, hc, n', hd⟩ ?_
  have hit := fresh_size h₁
  generalize hI : h₁.objs.size = it
  rw [hI] at hit
  have sp := Step.push H₁ C.ne { cls := .type "list_iterator", data := .fields #[.ref ad, .int 0 0] }
  have s1 := (st₁.trans sp).wider (own' := ownOf env) fun _ => noOwn_own
  have isf : s.heap.get? it = none := none_back st₁.dm hit
  refine codeAny_forK (fun k s' => ∃ W' σ' ρ' h' tk i, s' = ⟨h', s.gens, s.drawn, tk, s.os⟩ ∧ k = xs.length - i ∧ Step u l (ownOf env) W σ s.heap W' σ' h' ∧ Lo W' σ' env h' ρ' ∧ W'.F ad = some o ∧ RpL W' σ' xs arr.toList ∧
    h'.IsListIter it ad i ∧ W'.F it = none ∧ (∀ k, ¬ MutK W' σ' k it) ∧ ForR u A l env t body N R X (xs.drop i) ρ' σ')
    (fun k s' hI => ?_) xs.length ⟨W₁, σ₁, ρ, _, tk₁, 0, rfl, rfl, s1, L₁.stepE sp, hF, rl, hI ▸ ⟨_, Heap.get?_push_size _ rfl, rfl, rfl⟩, fz_none H₁ hit, fun k => mut_none H₁ hit k, fr⟩
  obtain ⟨W₂, σ₂, ρ₂, h₂, tk₂, i, rfl, rfl, S₂, L₂, hF₂, rl₂, ili, fI, nI, fr₂⟩ := hI
  intro LB EE QQ hE hB hR hN hG
  have H₂ := S₂.hp
  have ir : IsRec h₂ it := let ⟨o, a, _, b⟩ := ili; ⟨o, _, a, b⟩
  have il : h₂.IsList ad arr := ⟨o, H₂.froz _ _ hF₂, hc, n', hd⟩
  by_cases hlt : i < xs.length
  · obtain ⟨v, hv, rv⟩ := RepL.get rl₂ (List.getElem?_eq_getElem hlt)
    rw [List.drop_eq_getElem_cons hlt] at fr₂
    refine wpAny_pyNext_list_item (s := ⟨h₂, s.gens, s.drawn, tk₂, s.os⟩) ili il (by rw [← Array.getElem?_toList]; exact hv) fun h₃ it₃ sb => hG _ _ (letgo_it ht (s := ⟨h₃, s.gens, s.drawn, tk₂, s.os⟩) it₃ ?_)
    have kp : ∀ b o, b ≠ it → h₂.get? b = some o → h₃.get? b = some o := fun b o q e => (sb.2 b q).trans e
    have S₃ := S₂.touch isf fI nI ir.ns kp
    have L₃ := L₂.keeps ir.ns ir.cell kp
    obtain ⟨oI, hoI, hcI, hdI⟩ := id it₃
    exact for_turn (s := ⟨h₃, s.gens, s.drawn, tk₂, s.os⟩) S₃.hp L₃ hoI hdI fI nI rv fr₂
      (fun W' σ' ρ' h' tk S' L' g' f' m' q => hB (xs.length - (i + 1)) _ (by lcg_off) ⟨W', σ', ρ', h', tk, i + 1, rfl, rfl, S₃.trans S', L', S'.le _ _ hF₂, S'.rpL rl₂, ⟨_, g', hcI, hdI⟩, f', m', q⟩) (fun v x W' σ' h' tk S' r q => hR _ _ (hr v x W' σ' h' tk (S₃.trans S') r q))
      fun e c ρ' W' σ' h' tk S' L' x q => hE _ _ (loop_exn (s := ⟨h', s.gens, s.drawn, tk, s.os⟩) C (S₃.trans S') L' (x.older S₃.dm) fun h'' S'' L'' x'' => he e c ρ' W' σ' h'' tk S'' L'' x'' q)
  · have : xs.drop i = [] := List.drop_eq_nil_of_le (by lcg_off)
    rw [this] at fr₂
    exact wpAny_pyNext_list_end (s := ⟨h₂, s.gens, s.drawn, tk₂, s.os⟩) (C.hand hh) ili il (by rw [← Array.getElem?_toList]; exact List.getElem?_eq_none (by lcg_off)) fun h₃ ex =>
      hN _ (hq ρ₂ W₂ σ₂ h₃ tk₂ (S₂.touch isf fI nI ir.ns fun b o q e => ex b o q e) (L₂.keeps ir.ns ir.cell fun b o q e => ex b o q e) fr₂)
end
section
variable {u : Uni} {A : Around} {l : List Env} {env : Env} {ρ : Loc} {X : Exn → Loc → St → Prop} {N : Loc → St → Prop} {R : V → St → Prop} {σ : St} {n : Nat} {hn : Bool} {kd : Str → Option NameKind}

noncomputable def rngL (lo hi : Int) : List V := (List.range (hi - lo).toNat).map fun (i : Nat) => V.int (lo + i)
theorem rngL_get {lo hi : Int} {i : Nat} (h : (i : Int) < hi - lo) : (rngL lo hi)[i]? = some (.int (lo + i)) := by
  unfold rngL
  rw [List.getElem?_map, List.getElem?_range (by lcg_off)]; rfl
theorem rngL_len {lo hi : Int} : (rngL lo hi).length = (hi - lo).toNat := by unfold rngL; simp
theorem letgo_rng {t : Expr} (ht : tgtOk t = true) {it : Addr} {v : Value} {s : Shared} {x left : Int} {Q : Unit → Shared → Prop} {E : Value → Shared → Prop} (_h : IsRangeIter s.heap it x left 1) (hv : ∀ a, v ≠ .ref a) (q : Q () s) : wpAny u.M A (letOwnedTupleGo t (.ref it) v) Q E s := by
  cases t with
  | Name => exact wpAny_pure q
  | Tuple =>
    cases v with
    | ref a => exact absurd rfl (hv a)
    | _ => exact wpAny_pure q
  | _ => cases ht

theorem S_forR {t it : Expr} {body : List Stmt} {pos : Pos} (C : SCx u A l env n hn kd) (hh : hn = true)
    (h : EOk u A l env Rp (eval it env) ρ (fun w σ₁ => ∃ lo hi, w = .rng lo hi ∧ (-(2 ^ 62) ≤ lo ∧ lo < 2 ^ 62 ∧ -(2 ^ 62) ≤ hi ∧ hi < 2 ^ 62) ∧ ForR u A l env t body N R X (rngL lo hi) ρ σ₁) (fun c σ' => X c ρ σ') σ)
    (ht : tgtOk t = true := by rfl) (hf : ∀ x, foldedSetIterable it env x = pure x := by intro x; rfl) :
    SOk u A l env (exec (.For t it body [] pos) env) ρ N R X σ := by
  intro W s H L QC EC hq hr he
  refine wpAny_For (h.use H L (fun v b W₁ σ₁ h₁ tk₁ st₁ L₁ r₁ q₁ => ?_) he) hf
  obtain ⟨lo, hi, rfl, ⟨b1, b2, b3, b4⟩, fr⟩ := q₁
  have H₁ := st₁.hp
  obtain ⟨ad, o, tt, uu, ww, rfl, hF, rfl⟩ := rp_rngI r₁
  refine wpAny_pyIter_range (s := ⟨h₁, s.gens, s.drawn, tk₁, s.os⟩) (H₁.froz _ _ hF) (small_one b1 b2 b3 b4) ?_
  have hrs := rangeSize_one lo hi
  generalize Builtin.Range.rangeSize lo hi 1 = rs at hrs ⊢
  have hit := fresh_size h₁
  have sp := Step.push H₁ C.ne { cls := .type "range_iterator", data := .fields #[rawInt lo, rawInt rs, rawInt 1] }
  have gi : (h₁.push { cls := .type "range_iterator", data := .fields #[rawInt lo, rawInt rs, rawInt 1] }).get? h₁.objs.size = some { cls := .type "range_iterator", data := .fields #[rawInt lo, rawInt rs, rawInt 1] } := Heap.get?_push_size _ rfl
  generalize hI : h₁.objs.size = it at hit gi
  have s1 := (st₁.trans sp).wider (own' := ownOf env) fun _ => noOwn_own
  have isf : s.heap.get? it = none := none_back st₁.dm hit
  refine codeAny_forK (fun k s' => ∃ W' σ' ρ' h' tk i left, s' = ⟨h', s.gens, s.drawn, tk, s.os⟩ ∧ k = (hi - lo).toNat - i ∧ left = rs - (i : Nat) ∧ Step u l (ownOf env) W σ s.heap W' σ' h' ∧ Lo W' σ' env h' ρ' ∧
    IsRangeIter h' it (lo + (i : Nat)) left 1 ∧ W'.F it = none ∧ (∀ k, ¬ MutK W' σ' k it) ∧ ForR u A l env t body N R X ((rngL lo hi).drop i) ρ' σ')
    (fun k s' hI => ?_) (hi - lo).toNat ⟨W₁, σ₁, ρ, _, tk₁, 0, rs, rfl, rfl, by simp, s1, L₁.stepE sp, by simpa using gi, fz_none H₁ hit, fun k => mut_none H₁ hit k, fr⟩
  obtain ⟨W₂, σ₂, ρ₂, h₂, tk₂, i, left, rfl, rfl, hleft, S₂, L₂, ii, fI, nI, fr₂⟩ := hI
  intro LB EE QQ hE hB hR hN hG
  have H₂ := S₂.hp
  have ir : IsRec h₂ it := ⟨_, _, ii, rfl⟩
  by_cases hlt : (i : Int) < hi - lo
  · have hl : 0 < left := by rw [hleft, hrs, if_pos (by lcg_off)]; lcg_off
    have hlen : i < (rngL lo hi).length := by rw [rngL_len]; lcg_off
    have hg := rngL_get hlt
    rw [List.drop_eq_getElem_cons hlen] at fr₂
    rw [List.getElem?_eq_getElem hlen] at hg
    rw [Option.some.inj hg] at fr₂
    refine wpAny_pyNext_range_item (s := ⟨h₂, s.gens, s.drawn, tk₂, s.os⟩) ii hl fun h₃ it₃ sb => hG _ _ (letgo_rng ht (s := ⟨h₃, s.gens, s.drawn, tk₂ + 1, s.os⟩) it₃ (fun a q => nomatch q) ?_)
    have kp : ∀ b o, b ≠ it → h₂.get? b = some o → h₃.get? b = some o := fun b o q e => (sb.2 b q).trans e
    have S₃ := S₂.touch isf fI nI ir.ns kp
    have L₃ := L₂.keeps ir.ns ir.cell kp
    refine for_turn (s := ⟨h₃, s.gens, s.drawn, tk₂ + 1, s.os⟩) S₃.hp L₃ it₃ rfl fI nI (v := .int (lo + i) tk₂) rp_int fr₂
      (fun W' σ' ρ' h' tk S' L' g' f' m' q => hB ((hi - lo).toNat - (i + 1)) _ (by lcg_off) ⟨W', σ', ρ', h', tk, i + 1, left - 1, rfl, rfl, ?_, S₃.trans S', L', ?_, f', m', q⟩) (fun v x W' σ' h' tk S' r q => hR _ _ (hr v x W' σ' h' tk (S₃.trans S') r q))
      fun e c ρ' W' σ' h' tk S' L' x q => hE _ _ (loop_exn (s := ⟨h', s.gens, s.drawn, tk, s.os⟩) C (S₃.trans S') L' (x.older S₃.dm) fun h'' S'' L'' x'' => he e c ρ' W' σ' h'' tk S'' L'' x'' q)
    · rw [hleft]; push_cast; lcg_off
    · have : lo + ((i + 1 : Nat) : Int) = lo + (i : Int) + 1 := by push_cast; lcg_off
      rw [this]; exact g'
  · have : (rngL lo hi).drop i = [] := List.drop_eq_nil_of_le (by rw [rngL_len]; lcg_off)
    rw [this] at fr₂
    exact wpAny_pyNext_range_end (s := ⟨h₂, s.gens, s.drawn, tk₂, s.os⟩) (C.hand hh) ii (by rw [hleft, hrs]; split <;> lcg_off) fun h₃ ex =>
      hN _ (hq ρ₂ W₂ σ₂ h₃ tk₂ (S₂.touch isf fI nI ir.ns fun b o q e => ex b o q e) (L₂.keeps ir.ns ir.cell fun b o q e => ex b o q e) fr₂)

/-! raise -/
theorem S_raise {c : Exn} {np cpos pos : Pos} {x : Str} {args : List Expr} (C : SCx u A l env n hn kd) (hh : hn = true) (hx : x = exnName c) (hk : kd x = some .globalImplicit) (hs : args.all notStar = true)
    (h : EsOk u A l env cpos args ρ (fun xs σ₁ => xs.length ≤ 1000 ∧ X c ρ σ₁) (fun c σ' => X c ρ σ') σ) :
    SOk u A l env (exec (.Raise (some (.Call (.Name x np) args [] cpos)) none pos) env) ρ N R X σ := by
  intro W s H L QC EC hq hr he
  subst hx
  obtain ⟨tl, Nn, nm, q, bs, hdct, sn, sub, ab, col, dd, k0, k1, k2, k3, k5, mN, hC, hN, hni, T⟩ := (u.exn c).obj
  have kp : ∀ {W σ h}, Hp u W σ l h → ∀ b o, u.g₀.get? b = some o → h.get? b = some o := fun H b o e => H.froz _ _ (H.base _ _ e)
  have kk : env.kindOf (exnName c) = some .globalImplicit := (C.kinds _ _ hk).elim id fun z => nomatch z.1
  have hbase : tl.contains (.type "BaseException") = true := T.hasType (by decide)
  have hd := (Bool.or_eq_false_iff.mp (C.nodbg _ _ kk)).1
  refine wpAny_Raise_call_subT (C := u.exc c) (nm := nm) (q := q) (N := Nn) (bs := bs) (bm := tl) (hdct := hdct) (sn := sn) (sub := sub) (ab := ab) (col := col) (dd := dd) (k0 := k0) (k1 := k1) (k2 := k2) (k3 := k3) (k5 := k5)
    PySem.F.excBase_Exception hbase (C.hand hh) (plain_of hs) hni (Calls.Name_function_global C.kind kk (Calls.loadGlobal_global (mg := u.mg) (by rw [C.glob]; exact H.T.g) (u.exn c).bound ⟨rfl, ?_⟩) hd)
  have fin := h.use H L (QC := fun vs s₂ => vs.length ≤ sizeLine ∧ s₂.heap.get? (u.exc c) = some (excClassObj nm q (u.exc c) Nn bs tl hdct sn sub ab col dd k0 k1 k2 k3 k5 "Exception.__new__") ∧ s₂.heap.Ns Nn mN ∧ OwnTail s₂.heap excBm tl ∧
        ∀ h' e, Heap.MadeExcOf s₂.heap h' e (.ref (u.exc c)) vs → EC (.ref e) { s₂ with heap := h' }) (EC := EC) (fun vs xs W₁ σ₁ h₁ tk₁ st₁ L₁ r₁ q₁ => ?_) he
  · cases args with
    | nil => exact evalArgs_nilS (wpAny_mono fin (fun vs s₂ h => ⟨rfl, h⟩) fun _ _ x => x)
    | cons e r =>
      have hs1 : notStar e = true := by rw [List.all_cons, Bool.and_eq_true] at hs; exact hs.1
      rw [starEach_cons hs1, backTo_cons] at fin ⊢
      exact evalArgs_plain (wpAny_mono fin (fun vs s₂ h => ⟨rfl, h⟩) fun _ _ x => x)
  · have H₁ := st₁.hp
    refine ⟨line_le (by rw [RepL.length r₁]; lcg_off), kp H₁ _ _ hC, hN.keeps (kp H₁), T.keeps (kp H₁), fun h' e mk => ?_⟩
    obtain ⟨t, he1, htn, ht⟩ := mk.there
    obtain ⟨Lf, m, F, fL, nL⟩ := frame_at H₁ C.ne
    have st := Step.grow H₁ Lf m F.ns (F.ns.keeps mk.keeps) fL nL fun b o _ e => mk.keeps b o e
    have S := (st₁.trans st).wider (own' := ownOf env) fun _ => noOwn_own
    refine he e c ρ W₁ σ₁ h' tk₁ S (L₁.stepE st) ⟨hideAll h₁ (l.filterMap (·.frame)), .ref t, ⟨fun a o e => ?_, fun k a o mm e => ?_, fun a o₀ o e0 e1 nf => ?_⟩, fun b o e => mk.keeps b o (of_hideAll _ e), ?_, ?_, .inl ⟨_, _, he1, rfl, rfl, rfl, rfl⟩⟩ q₁.2
    · refine hideAll_get _ (H₁.froz _ _ e) fun mem => ?_
      obtain ⟨en, hen, hf⟩ := List.mem_filterMap.mp mem
      obtain ⟨_, L', m', hf', _, fz, _⟩ := H₁.frm en hen
      rw [hf] at hf'; cases hf'
      rw [fz] at e; cases e
    · obtain ⟨o', e'⟩ := MutK.there H₁ mm
      have := mk.keeps _ _ e'
      rw [e] at this; cases this
      refine hideAll_get _ e' fun mem => ?_
      obtain ⟨en, hen, hf⟩ := List.mem_filterMap.mp mem
      obtain ⟨_, L', m', hf', _, _, _, nm'⟩ := H₁.frm en hen
      rw [hf] at hf'; cases hf'
      exact nm' k mm
    · obtain ⟨o', e'⟩ := st₁.dm a o₀ e0
      have := mk.keeps _ _ e'
      rw [e1] at this; cases this
      refine hideAll_get _ e' fun mem => ?_
      obtain ⟨en, hen, hf⟩ := List.mem_filterMap.mp mem
      exact nf en hen hf
    · cases z : (hideAll h₁ (l.filterMap (·.frame))).get? e with
      | none => rfl
      | some o => have := of_hideAll _ z; rw [mk.new] at this; cases this
    · have ff : ∀ ls : List Env, (∀ en ∈ ls, en ∈ l) → h'.FunFrames (hideAll h₁ (l.filterMap (·.frame))) ls := by
        intro ls
        induction ls with
        | nil => intro _; trivial
        | cons en r ih =>
          intro sub
          obtain ⟨a1, L', m', a2, a3, _⟩ := H₁.frm en (sub en (.head _))
          obtain ⟨o, es, ep, ho, hd, _⟩ := a3
          exact ⟨a1, ⟨L', o, a2, hideAll_none _ (List.mem_filterMap.mpr ⟨en, sub en (.head _), a2⟩), mk.keeps _ _ ho, fun vs q => by rw [hd] at q; cases q⟩, ih fun e he => sub e (.tail _ he)⟩
      exact ff l fun _ h => h
end
section
variable {M : Model} {A : Around} {E : Value → Shared → Prop}
variable {nm q nm' q' : Str} {C D N N' : Addr} {bs bm bs' bm' : List Value} {hdct hdct' : Bool} {sn sn' : List Str} {sub sub' : List Value} {ab ab' : Bool} {col col' : Option Bool} {dd dd' : Option Addr} {k0 k1 k2 k3 k5 j0 j1 j2 j3 j5 : Option Value} {newId newId' : String}
theorem excMatches_two {h : Heap} {g : Array GenState} {d : Drawn} {t : Nat} {os : OsState} {e : Addr} {oe : Obj} {b : Bool} {Q : Bool → Shared → Prop}
    (hC : h.get? C = some (excClassObj nm q C N bs bm hdct sn sub ab col dd k0 k1 k2 k3 k5 newId)) (hD : h.get? D = some (excClassObj nm' q' D N' bs' bm' hdct' sn' sub' ab' col' dd' j0 j1 j2 j3 j5 newId'))
    (he : h.get? e = some oe) (hcls : oe.cls = .ref C) (hbase : bm'.contains (.type "BaseException") = true) (hs : (Value.ref C :: bm).contains (.ref D) = b)
    (hq : Q b ⟨h, g, d, t, os⟩) : wpAny M A (excMatches (.ref e) (.ref D)) Q E ⟨h, g, d, t, os⟩ := by
  have hcB : (Value.ref D :: bm').contains (.type "BaseException") = true := by rw [List.contains_cons, hbase, Bool.or_true]
  have f := tc_notTuple
  unfold excMatches
  repeat (first | (with_reducible refine wpAny_loadPart_at he ?_; rw [hcls]) | with_reducible refine wpAny_loadPart_at hD ?_ | (with_reducible refine wpAny_isSubtype_exc hD ?_; rw [hcB]) | (with_reducible refine wpAny_isSubtype_exc hC ?_; rw [hs]) | wp_step)
  cases b <;> (wp_walk; exact hq)
end

section
variable {u : Uni} {A : Around} {l : List Env} {env : Env} {ρ : Loc} {X : Exn → Loc → St → Prop} {N : Loc → St → Prop} {R : V → St → Prop} {σ : St} {n : Nat} {hn : Bool} {kd : Str → Option NameKind}

theorem Ex.cls {W : Wd} {e : Addr} {c : Exn} {hs h : Heap} (x : Ex u W σ l e c hs h) : ∃ oe, h.get? e = some oe ∧ oe.cls = .ref (u.exc c) := by
  obtain ⟨B, a0, _, _, _, _, x4⟩ := x
  rcases x4 with ⟨oe, vs, he, hc, _⟩ | ⟨oe, vs, T, oT, ts, he, hc, _⟩ | ⟨_, _, _, _, _, oe, vs, T, oT, ts, he, hc, _⟩
  · exact ⟨oe, he, hc⟩
  · exact ⟨oe, he, hc.1⟩
  · exact ⟨oe, he, hc.1⟩

/-- does e's class match the clause's? -/
theorem matches_ok {W : Wd} {s : Shared} {e : Addr} {c d : Exn} {hs : Heap} (H : Hp u W σ l s.heap) (x : Ex u W σ l e c hs s.heap) {Q : Bool → Shared → Prop} {E : Value → Shared → Prop} (q : Q (exnSub c d) s) :
    wpAny u.M A (excMatches (.ref e) (.ref (u.exc d))) Q E s := by
  obtain ⟨oe, he, hc⟩ := x.cls
  have kp : ∀ b o, u.g₀.get? b = some o → s.heap.get? b = some o := fun b o e => H.froz _ _ (H.base _ _ e)
  obtain ⟨tl, Nn, nm, qq, bs, hdct, sn, sub, ab, col, dd, k0, k1, k2, k3, k5, mN, hC, hN, hni, T⟩ := (u.exn c).obj
  obtain ⟨tl', Nn', nm', qq', bs', hdct', sn', sub', ab', col', dd', j0, j1, j2, j3, j5, mN', hC', hN', hni', T'⟩ := (u.exn d).obj
  obtain ⟨hp, g, dr, t, os⟩ := s
  refine excMatches_two (kp _ _ hC) (kp _ _ hC') he hc (T'.hasType (by decide)) ?_ q
  have sb := u.sub c d
  unfold mroIn at sb
  obtain ⟨cd, hcd, z⟩ := Option.bind_eq_some_iff.mp sb
  unfold clsIn at hcd
  split at hcd
  · rename_i a1 a2 cd' a3 lk'
    cases hcd
    have := u.X _ _ lk'
    rw [hC] at this
    cases this
    split at z
    · cases z
    · exact Option.some.inj z
  · cases hcd

/-- an exception stays what it is through a run that does not see it -/
theorem Ex.step {own : Addr → Prop} {W W' : Wd} {σ' : St} {e : Addr} {c : Exn} {hs h h' : Heap} (x : Ex u W σ l e c hs h) (H : Hp u W σ l h) (dm : ∀ b o, hs.get? b = some o → ∃ o', h.get? b = some o') (S : Step u l own W σ h W' σ' h')
    (no : ∀ a, IsRec h a → ¬ own a) : Ex u W' σ' l e c hs h' := by
  obtain ⟨B, a0, ⟨b1, b2, b3⟩, x1, x2, x3, x4⟩ := x
  have H' := S.hp
  -- a record that B does not know stays, and is neither frozen nor a cell
  have stay : ∀ a o vs, h.get? a = some o → o.data = .fields vs → B.get? a = none → h'.get? a = some o ∧ W'.F a = none ∧ (∀ k, ¬ MutK W' σ' k a) ∧ hs.get? a = none := by
    intro a o vs ho hd hb
    have ir : IsRec h a := ⟨o, vs, ho, hd⟩
    have fa : W.F a = none := by
      cases z : W.F a with
      | none => rfl
      | some o' => have := b1 _ _ z; rw [hb] at this; cases this
    have na : ∀ k, ¬ MutK W σ k a := fun k m => by have := b2 k a o m ho; rw [hb] at this; cases this
    obtain ⟨o', ho', s⟩ := S.up a o ho na (no a ir)
    obtain rfl := s.eq (by rw [hd]; intro _ _ q; cases q)
    refine ⟨ho', ?_, fun k q => ?_, ?_⟩
    · cases z : W'.F a with
      | none => rfl
      | some o' => rcases S.nf _ _ z with q | q
                   · rw [fa] at q; cases q
                   · rw [ho] at q; cases q
    · rcases S.nm k a q with z | z
      · exact na k z
      · rw [ho] at z; cases z
    · cases z : hs.get? a with
      | none => rfl
      | some o₀ =>
        have := b3 a o₀ o' z ho fun en hen hf => by
          obtain ⟨_, L', m, hf', n', _⟩ := H.frm en hen
          rw [hf] at hf'; cases hf'
          exact ir.ns m n'
        rw [hb] at this; cases this
  -- the exception's own records
  have recs : ∃ as : List Addr, e ∈ as ∧ (∀ a ∈ as, ∃ o vs, h.get? a = some o ∧ o.data = .fields vs ∧ B.get? a = none) ∧
      (∀ B' : Heap, (∀ a ∈ as, B'.get? a = none) → (Fresh h' e (.ref (u.exc c)) a0 ∨ h'.TracedAtW B' e (.ref (u.exc c)) a0 .none ∨ ∃ env r L, l = env :: r ∧ env.frame = some L ∧ h'.TracedAtW B' e (.ref (u.exc c)) a0 (rawInt L))) := by
    rcases x4 with ⟨oe, vs, he, hc, hd, h0, h1⟩ | ⟨oe, vs, T, oT, ts, he, hc, hd, h1, hnT, hTe, hT, hdT, h3⟩ | ⟨en, r, L, q1, q2, oe, vs, T, oT, ts, he, hc, hd, h1, hnT, hTe, hT, hdT, h3⟩
    · exact ⟨[e], .head _, fun a ha => (by obtain rfl := List.mem_singleton.mp ha; exact ⟨oe, vs, he, hd, x2⟩), fun B' _ => .inl ⟨oe, vs, (stay e oe vs he hd x2).1, hc, hd, h0, h1⟩⟩
    · refine ⟨[e, T], .head _, fun a ha => ?_, fun B' hb' => .inr (.inl ⟨oe, vs, T, oT, ts, (stay e oe vs he hd x2).1, hc, hd, h1, hb' T (.tail _ (.head _)), hTe, (stay T oT ts hT hdT hnT).1, hdT, h3⟩)⟩
      rcases List.mem_cons.mp ha with z | z
      · subst z; exact ⟨oe, vs, he, hd, x2⟩
      · obtain rfl := List.mem_singleton.mp z; exact ⟨oT, ts, hT, hdT, hnT⟩
    · refine ⟨[e, T], .head _, fun a ha => ?_, fun B' hb' => .inr (.inr ⟨en, r, L, q1, q2, oe, vs, T, oT, ts, (stay e oe vs he hd x2).1, hc, hd, h1, hb' T (.tail _ (.head _)), hTe, (stay T oT ts hT hdT hnT).1, hdT, h3⟩)⟩
      rcases List.mem_cons.mp ha with z | z
      · subst z; exact ⟨oe, vs, he, hd, x2⟩
      · obtain rfl := List.mem_singleton.mp z; exact ⟨oT, ts, hT, hdT, hnT⟩
  obtain ⟨as, hea, has, fin⟩ := recs
  have keepB : ∀ a o, h'.get? a = some o → a ∉ as → (∀ en ∈ l, en.frame ≠ some a) → (hideAll h' (as ++ l.filterMap (·.frame))).get? a = some o := fun a o ho n1 n2 => hideAll_get _ ho fun mem => by
    rcases List.mem_append.mp mem with z | z
    · exact n1 z
    · obtain ⟨en, hen, hf⟩ := List.mem_filterMap.mp z; exact n2 en hen hf
  refine ⟨hideAll h' (as ++ l.filterMap (·.frame)), a0, ⟨fun a o e => keepB a o (H'.froz _ _ e) (fun z => ?_) (fun en hen hf => ?_), fun k a o m ho => keepB a o ho (fun z => ?_) (fun en hen hf => ?_), fun a o₀ o h0 ho nf => keepB a o ho (fun z => ?_) nf⟩,
    fun b o e => of_hideAll _ e, hideAll_none _ (List.mem_append_left _ hea), ?_, fin _ fun a ha => hideAll_none _ (List.mem_append_left _ ha)⟩
  · obtain ⟨o', vs, g1, g2, g3⟩ := has a z
    have := (stay a o' vs g1 g2 g3).2.1
    rw [e] at this; cases this
  · obtain ⟨_, L', m', hf', _, fz, _⟩ := H'.frm en hen
    rw [hf] at hf'; cases hf'
    rw [fz] at e; cases e
  · obtain ⟨o', vs, g1, g2, g3⟩ := has a z
    exact (stay a o' vs g1 g2 g3).2.2.1 k m
  · obtain ⟨_, L', m', hf', _, _, _, nm'⟩ := H'.frm en hen
    rw [hf] at hf'; cases hf'
    exact nm' k m
  · obtain ⟨o', vs, g1, g2, g3⟩ := has a z
    have := (stay a o' vs g1 g2 g3).2.2.2
    rw [h0] at this; cases this
  · have ff : ∀ ls : List Env, (∀ en ∈ ls, en ∈ l) → h'.FunFrames (hideAll h' (as ++ l.filterMap (·.frame))) ls := by
      intro ls
      induction ls with
      | nil => intro _; trivial
      | cons en r ih =>
        intro sub
        obtain ⟨a1, L', m', a2, a3, _⟩ := H'.frm en (sub en (.head _))
        obtain ⟨o, es, ep, ho, hd, _⟩ := a3
        exact ⟨a1, ⟨L', o, a2, hideAll_none _ (List.mem_append_right _ (List.mem_filterMap.mpr ⟨en, sub en (.head _), a2⟩)), ho, fun vs q => by rw [hd] at q; cases q⟩, ih fun e he => sub e (.tail _ he)⟩
    exact ff l fun _ h => h

/-- the body of a clause: it does not raise, or it runs a statement and raises again -/
inductive HB (u : Uni) (l : List Env) (env : Env) (n : Nat) (kd : Str → Option NameKind) (N : Loc → St → Prop) (R : V → St → Prop) (Xc : Loc → St → Prop) (ρ : Loc) (σ : St) : List Stmt → Prop where
  | plain {b₀ : Stmt} {body : List Stmt} (h : ∀ A', SCx u A' l env n false kd → SOk u A' l env (execs (b₀ :: body) env) ρ N R (fun _ _ _ => False) σ) : HB u l env n kd N R Xc ρ σ (b₀ :: body)
  | again {b₀ : Stmt} {p : Pos} (h : ∀ A', SCx u A' l env n false kd → SOk u A' l env (exec b₀ env) ρ Xc (fun _ _ => False) (fun _ _ _ => False) σ) : HB u l env n kd N R Xc ρ σ [b₀, .Raise none none p]
noncomputable def Hs (u : Uni) (l : List Env) (env : Env) (n : Nat) (kd : Str → Option NameKind) (N : Loc → St → Prop) (R : V → St → Prop) (c : Exn) (Xc : Loc → St → Prop) (ρ : Loc) (σ : St) : List ExceptHandler → Prop
  | .ExceptHandler (some (.Name x _)) none body _ :: r => ∃ d, x = exnName d ∧ kd x = some .globalImplicit ∧ (exnSub c d = true → HB u l env n kd N R Xc ρ σ body) ∧ (exnSub c d = false → Hs u l env n kd N R c Xc ρ σ r)
  | _ => False

theorem no_rec_own {W : Wd} {h : Heap} (L : Lo W σ env h ρ) : ∀ a, IsRec h a → ¬ ownOf env a := fun a ir q => by
  rcases q with q | ⟨x, q⟩
  · obtain ⟨m, n⟩ := L.ns; exact ir.ns m (q ▸ n)
  · obtain ⟨_, _, w, c⟩ := L.cfree x a q; exact ir.cell w c

theorem Ex.rec {W : Wd} {e : Addr} {c : Exn} {hs h : Heap} (x : Ex u W σ l e c hs h) (nf : ¬ ∃ a0, Fresh h e (.ref (u.exc c)) a0) : ∃ oe vs T, h.get? e = some oe ∧ oe.data = .fields vs ∧ vs[1]? = some (.ref T) := by
  obtain ⟨B, a0, _, _, _, _, x4⟩ := x
  rcases x4 with q | ⟨oe, vs, T, oT, ts, he, hc, hd, h1, _⟩ | ⟨_, _, _, _, _, oe, vs, T, oT, ts, he, hc, hd, h1, _⟩
  · exact absurd ⟨a0, q⟩ nf
  · exact ⟨oe, vs, T, he, hd, h1⟩
  · exact ⟨oe, vs, T, he, hd, h1⟩
theorem nf_step {own : Addr → Prop} {W W' : Wd} {σ' : St} {e : Addr} {c : Exn} {hs h h' : Heap} (x : Ex u W σ l e c hs h) (H : Hp u W σ l h) (dm : ∀ b o, hs.get? b = some o → ∃ o', h.get? b = some o') (S : Step u l own W σ h W' σ' h')
    (no : ∀ a, IsRec h a → ¬ own a) (nf : ¬ ∃ a0, Fresh h e (.ref (u.exc c)) a0) : ¬ ∃ a0, Fresh h' e (.ref (u.exc c)) a0 := by
  obtain ⟨oe, vs, T, he, hd, h1⟩ := x.rec nf
  obtain ⟨B, a0, ⟨b1, b2, b3⟩, x1, x2, x3, x4⟩ := x
  have ir : IsRec h e := ⟨oe, vs, he, hd⟩
  obtain ⟨o', ho', s⟩ := S.up e oe he (fun k m => by have := b2 k e oe m he; rw [x2] at this; cases this) (no e ir)
  obtain rfl := s.eq (by rw [hd]; intro _ _ q; cases q)
  rintro ⟨a1, oe', vs', q1, q2, q3, q4, q5⟩
  rw [ho'] at q1; cases q1
  rw [hd] at q3; cases q3
  rw [h1] at q5; cases q5

theorem hs_ok {e : Addr} {c : Exn} (C : SCx u A l env n hn kd) {W₀ : Wd} {σ₀ : St} {h₀ : Heap} {QC : Flow → Shared → Prop} {EC : Value → Shared → Prop} :
    ∀ (hs : List ExceptHandler) {W : Wd} {ρ : Loc} {σ : St} {s : Shared}, Hs u l env n kd N R c (X c) ρ σ hs → Step u l (ownOf env) W₀ σ₀ h₀ W σ s.heap → Lo W σ env s.heap ρ → Ex u W σ l e c h₀ s.heap → (¬ ∃ a0, Fresh s.heap e (.ref (u.exc c)) a0) →
    (∀ ρ' W' σ' h' tk, Step u l (ownOf env) W₀ σ₀ h₀ W' σ' h' → Lo W' σ' env h' ρ' → N ρ' σ' → QC .next ⟨h', s.gens, s.drawn, tk, s.os⟩) →
    (∀ v x W' σ' h' tk, Step u l (ownOf env) W₀ σ₀ h₀ W' σ' h' → Rp W' σ' x v → R x σ' → QC (.ret v) ⟨h', s.gens, s.drawn, tk, s.os⟩) →
    (∀ e c ρ' W' σ' h' tk, Step u l (ownOf env) W₀ σ₀ h₀ W' σ' h' → Lo W' σ' env h' ρ' → Ex u W' σ' l e c h₀ h' → X c ρ' σ' → EC (.ref e) ⟨h', s.gens, s.drawn, tk, s.os⟩) →
    wpAny u.M A (handleBy (.ref e) env hs) QC EC s
  | [], _, _, _, _, h, _, _, _, _, _, _, _ => h.elim
  | .ExceptHandler none _ _ _ :: _, _, _, _, _, h, _, _, _, _, _, _, _ => h.elim
  | .ExceptHandler (some t) nm body pos :: r, W, ρ, σ, s, h, S, L, x, nf, hq, hr, he => by
    cases t with
    | Name y np =>
      cases nm with
      | some _ => exact h.elim
      | none =>
        obtain ⟨d, rfl, hk, h1, h2⟩ := h
        have hne : (some (Value.ref e) : Option Value) ≠ some byPass := fun q => by cases q
        have kk : env.kindOf (exnName d) = some .globalImplicit := (C.kinds _ _ hk).elim id fun z => nomatch z.1
        have H := S.hp
        obtain ⟨r', Lf, hl, hf, hL⟩ := C.head
        refine wpAny_handleBy_cons (codeAny_handlers_test ?_) (by intro q; cases q)
        refine Calls.Name_function_global C.kind kk (Calls.loadGlobal_global (mg := u.mg) (by rw [C.glob]; exact H.T.g) (u.exn d).bound ?_) (Bool.or_eq_false_iff.mp (C.nodbg _ _ kk)).1
        refine matches_ok H x ?_
        cases hb : exnSub c d with
        | false => exact hs_ok C r (h2 hb) S L x nf hq hr he
        | true =>
          have hbd := h1 hb
          have C' : SCx u (A.mark (some (.ref e))) l env n false kd := ⟨⟨C.frames, C.ne, C.kind, C.glob, C.bns, C.kinds, C.nodbg, C.room, C.units, fun z => nomatch z⟩, C.head⟩
          cases hbd with
          | plain hp =>
            refine codeAny_handlers_suite ?_
            refine Ex.flight (fr := none) hl hf (.inl rfl) S x nf fun h₁ S₁ up₁ x₁ nf₁ _ => ?_
            exact hp _ C' W ⟨h₁, s.gens, s.drawn, s.toks, s.os⟩ S₁.hp (L.upto up₁) _ _ (fun ρ' W' σ' h' tk st L' q => hq ρ' W' σ' h' tk (S₁.trans st) L' q) (fun v x W' σ' h' tk st r q => hr v x W' σ' h' tk (S₁.trans st) r q) fun _ _ _ _ _ _ _ _ _ _ q => q.elim
          | again hp =>
            rename_i b₀ p
            refine codeAny_handlers_suite ?_
            refine Ex.flight (fr := none) hl hf (.inl rfl) S x nf fun h₁ S₁ up₁ x₁ nf₁ _ => ?_
            have L₁ := L.upto up₁
            refine wpAny_execs_cons ?_
            refine hp _ C' W ⟨h₁, s.gens, s.drawn, s.toks, s.os⟩ S₁.hp L₁ _ _ (fun ρ' W' σ' h' tk st L' q => ?_) (fun _ _ _ _ _ _ _ _ q => q.elim) fun _ _ _ _ _ _ _ _ _ _ q => q.elim
            have x₂ := x₁.step S₁.hp S₁.dm st (no_rec_own L₁)
            have nf₂ := nf_step x₁ S₁.hp S₁.dm st (no_rec_own L₁) nf₁
            have S₂ := S₁.trans st
            obtain ⟨oe, vs, T, he', hd', h1'⟩ := x₂.rec nf₂
            refine wpAny_execs_cons ?_
            rw [arm_exec_Raise]
            refine wpAny_bind (wpAny_standAt ?_)
            show wpAny u.M _ (raiseStmt env none none) _ _ _
            unfold raiseStmt
            refine wpAny_bind (wpAny_handled ?_)
            show wpAny u.M _ (do
              rule "raise.bare"
              if (← field (Value.ref e) 1) == .none then unsupported "raise.bare:exception-without-traceback"
              setFlight (.ref e) env.frame
              throw (Value.ref e)) _ _ _
            refine wpAny_bind (wpAny_rule (wpAny_bind (wpAny_field (s := ⟨h', s.gens, s.drawn, tk, s.os⟩) he' hd' h1' ?_)))
            rw [if_neg (show ¬ ((Value.ref T == Value.none) = true) from by simp)]
            rw [hf]
            refine wpAny_bind (Ex.flight (s := ⟨h', s.gens, s.drawn, tk, s.os⟩) (fr := some Lf) hl hf (.inr rfl) S₂ x₂ nf₂ fun h₃ S₃ up₃ x₃ nf₃ _ => ?_)
            refine wpAny_throw ?_
            refine Ex.note (s := ⟨h₃, s.gens, s.drawn, tk, s.os⟩) hl C'.frames hf S₃ x₃ fun h₄ S₄ up₄ x₄ ⟨B, a0, t⟩ => ?_
            exact Ex.back (s := ⟨h₄, s.gens, s.drawn, tk, s.os⟩) hl hf S₄ x₄ (not_fresh t) fun h₅ S₅ up₅ x₅ => he e c ρ' W' σ' h₅ tk S₅ (((L'.upto up₃).upto up₄).upto up₅) x₅ q
    | _ => exact h.elim

theorem S_try {body : List Stmt} {h₀ : ExceptHandler} {hs : List ExceptHandler} {pos : Pos} (C : SCx u A l env n hn kd) (h : SOk u A l env (execs body env) ρ N R (fun c ρ' σ' => Hs u l env n kd N R c (X c) ρ' σ' (h₀ :: hs)) σ) :
    SOk u A l env (exec (.Try body (h₀ :: hs) [] [] pos) env) ρ N R X σ := by
  intro W s H L QC EC hq hr he
  obtain ⟨r', Lf, hl, hf, hL⟩ := C.head
  refine wpAny_Try_except (h W s H L _ _ (fun ρ' W' σ' h' tk st L' q => wpAny_execs_nil (hq ρ' W' σ' h' tk st L' q)) (fun v x W' σ' h' tk st r q => hr v x W' σ' h' tk st r q) fun e c ρ' W' σ' h' tk st L' x q => ?_)
  refine Ex.note (s := ⟨h', s.gens, s.drawn, tk, s.os⟩) hl C.frames hf st x fun h₁ S₁ up₁ x₁ ⟨B, a0, t⟩ => ?_
  refine Ex.flight (s := ⟨h₁, s.gens, s.drawn, tk, s.os⟩) (fr := none) hl hf (.inl rfl) S₁ x₁ (not_fresh t) fun h₂ S₂ up₂ x₂ nf₂ _ => ?_
  exact hs_ok (s := ⟨h₂, s.gens, s.drawn, tk, s.os⟩) C (h₀ :: hs) q S₂ ((L'.upto up₁).upto up₂) x₂ nf₂ hq hr he
end
theorem bindL_skip {kf : Str → Option NameKind} : ∀ {binds : List (Str × Value)} {m : Str → Option Value} {x : Str}, x ∉ binds.map (·.1) → bindL kf binds m x = m x
  | [], _, _, _ => rfl
  | (n, v) :: r, m, x, h => by
    rw [List.map_cons, List.mem_cons, not_or] at h
    unfold bindL
    rw [bindL_skip h.2]
    split
    · show (if x = n then some v else m x) = m x
      rw [if_neg h.1]
    · rfl
theorem bindC_skip {kf : Str → Option NameKind} : ∀ {binds : List (Str × Value)} {m : Str → Option Value} {x : Str}, x ∉ binds.map (·.1) → bindC kf binds m x = m x
  | [], _, _, _ => rfl
  | (n, v) :: r, m, x, h => by
    rw [List.map_cons, List.mem_cons, not_or] at h
    unfold bindC
    rw [bindC_skip h.2]
    split
    · rfl
    · show (if x = n then some v else m x) = m x
      rw [if_neg h.1]
theorem bindL_in {kf : Str → Option NameKind} : ∀ {binds : List (Str × Value)} {m : Str → Option Value} {x : Str} {v : Value}, (binds.map (·.1)).Nodup → (x, v) ∈ binds → kf x = some .local → bindL kf binds m x = some v
  | (n, w) :: r, m, x, v, nd, h, hk => by
    rw [List.map_cons, List.nodup_cons] at nd
    unfold bindL
    rcases List.mem_cons.mp h with e | e
    · cases e
      rw [bindL_skip nd.1, if_pos hk]
      simp
    · exact bindL_in nd.2 e hk
theorem bindC_in {kf : Str → Option NameKind} : ∀ {binds : List (Str × Value)} {m : Str → Option Value} {x : Str} {v : Value}, (binds.map (·.1)).Nodup → (x, v) ∈ binds → kf x ≠ some .local → bindC kf binds m x = some v
  | (n, w) :: r, m, x, v, nd, h, hk => by
    rw [List.map_cons, List.nodup_cons] at nd
    unfold bindC
    rcases List.mem_cons.mp h with e | e
    · cases e
      rw [bindC_skip nd.1, if_neg hk]
      simp
    · exact bindC_in nd.2 e hk
theorem zip_lk {W : Wd} {σ : St} : ∀ {ps : List Str} {args : List V} {vals : List Value} {x : Str} {y : V}, RpL W σ args vals → lk (ps.zip args) x = some y → ∃ v, (x, v) ∈ ps.zip vals ∧ Rp W σ y v
  | [], _, _, _, _, _, e => by cases e
  | _ :: _, [], _, _, _, _, e => by cases e
  | p :: ps, a :: args, vals, x, y, h, e => by
    simp only [RpL, RepL] at h
    obtain ⟨v, r, rfl, h1, h2⟩ := h
    rw [List.zip_cons_cons] at e
    unfold lk at e
    by_cases q : p = x
    · rw [if_pos q] at e; cases e; subst q
      exact ⟨v, .head _, h1⟩
    · rw [if_neg q] at e
      obtain ⟨w, m, r'⟩ := zip_lk h2 e
      exact ⟨w, .tail _ m, r'⟩
theorem zip_keys : ∀ {ps : List Str} {vals : List Value}, ps.length = vals.length → (ps.zip vals).map (·.1) = ps
  | [], [], _ => rfl
  | p :: ps, v :: vs, h => by rw [List.zip_cons_cons, List.map_cons, zip_keys (by simpa using h)]

section
variable {u : Uni} {A : Around} {l : List Env} {σ : St} {n : Nat} {hn : Bool}

/-- what the machine asks of a def to be run -/
structure FnOk (u : Uni) (f : Addr) (fd : FuncData) (body : List Stmt) (ps : List Str) : Prop where
  obj : ∃ o, u.g₀.get? f = some o ∧ o.data = .func fd
  code : u.g₀.CodeRec fd.code fd.qualname
  hbody : fd.body = .stmts body
  clo : fd.closure = []
  glob : fd.globals = mainGlobals
  bns : fd.builtins = builtinsNs
  kind : fd.scope.kind = .function
  co : fd.scope.isCoroutine = false
  gen : fd.scope.isGenerator = false
  nd : ps.Nodup
  ks : ps.all (fun x => fd.scope.names.lookup x == some .local || fd.scope.names.lookup x == some .cell) = true
  dbg : fd.scope.names.all (fun p => !((p.1 == ("__debug__" : Str)) || (p.1 == ("__classdict__" : Str)))) = true
  bind : ∀ vals : List Value, vals.length = ps.length → bindArgs fd ⟨vals, []⟩ = pure (ps.zip vals)

theorem call_core {f : Addr} {fd : FuncData} {body : List Stmt} {ps : List Str} (F : FnOk u f fd body ps) {W : Wd} {s : Shared} {args : List V} {vals : List Value} {Q : V → St → Prop} {X : Exn → St → Prop}
    (hz : u.g₀.objs.size ≤ s.heap.objs.size) (hfr : A.frames = some l) (room : A.depth + 4 * (n + 1) + 8 < recursionLimit) (units : A.units + 24 * (n + 1) + 40 < cLine) (hand : hn = true → A.handled = none)
    (H : Hp u W σ l s.heap) (r : RpL W σ args vals) (ha : args.length = ps.length)
    (hb : ∀ A' l' env, SCx u A' l' env n hn (fun x => fd.scope.names.lookup x) → SOk u A' l' env (execs body env) (ps.zip args) (fun _ σ' => Q .none σ') Q (fun c _ σ' => X c σ') σ)
    {R : Result → Shared → Prop}
    (hq : ∀ v x W' σ' h' tk, Step u l noOwn W σ s.heap W' σ' h' → Rp W' σ' x v → Q x σ' → R (.ok (.ret v)) ⟨h', s.gens, s.drawn, tk, s.os⟩)
    (he : ∀ e c W' σ' h' tk, Step u l noOwn W σ s.heap W' σ' h' → Ex u W' σ' l e c s.heap h' → X c σ' → R (.error (.ref e)) ⟨h', s.gens, s.drawn, tk, s.os⟩) :
    codeAny u.M A (.call (.ref f) ⟨vals, []⟩) R s := by
  obtain ⟨o, ho, hd⟩ := F.obj
  have kp : ∀ b o, u.g₀.get? b = some o → s.heap.get? b = some o := fun b o e => H.froz _ _ (H.base _ _ e)
  have hlen : vals.length = ps.length := by rw [RepL.length r, ha]
  have hkeys := zip_keys (vals := vals) hlen.symm
  have hkind : ∀ x ∈ ps.zip vals, fd.scope.names.lookup x.1 = some .local ∨ (fd.scope.names.lookup x.1 = some .cell ∧ ((cellsFrom (s.heap.objs.size + 1) fd.scope.names []).lookup x.1).isSome = true) := by
    intro x hx
    have hxp : x.1 ∈ ps := by rw [← hkeys]; exact List.mem_map_of_mem hx
    have := List.all_eq_true.mp F.ks _ hxp
    rcases Bool.or_eq_true_iff.mp this with q | q
    · exact .inl (by simpa using q)
    · have q' : fd.scope.names.lookup x.1 = some .cell := by simpa using q
      exact .inr ⟨q', cellsFrom_some _ _ _ (.inl q')⟩
  refine codeAny_call_cells (by lcg_off) (kp _ _ ho) hd (u.T.nolimit.keeps kp) (F.code.keeps kp) F.hbody (F.bind vals hlen) F.clo hkind (fun s₁ IC => ?_) F.co F.gen F.kind
  obtain ⟨⟨⟨h₁, tk₁, rfl⟩, hns, keep, fresh⟩, hcell, hap, hab⟩ := IC
  generalize henv : callEnvC fd s.heap.objs.size f = env at hns fresh hcell hap hab
  have eL : env.locals = s.heap.objs.size := by rw [← henv]; rfl
  have eF : env.frame = some s.heap.objs.size := by rw [← henv]; rfl
  have eS : env.scope = fd.scope := by rw [← henv]; rfl
  have eC : env.cells = cellsFrom (s.heap.objs.size + 1) fd.scope.names [] := by rw [← henv]; rfl
  have ek : ∀ x, env.kindOf x = fd.scope.names.lookup x := fun x => by unfold Env.kindOf; rw [eS]
  have sz : ∀ a, s.heap.objs.size ≤ a → s.heap.get? a = none := fun a h => by
    cases e : s.heap.get? a with
    | none => rfl
    | some o => exact absurd (Heap.lt_size e) (Nat.not_lt.mpr h)
  have fz : ∀ a, s.heap.objs.size ≤ a → W.F a = none := fun a h => fz_none H (sz a h)
  have nm : ∀ a, s.heap.objs.size ≤ a → ∀ k, ¬ MutK W σ k a := fun a h k => mut_none H (sz a h) k
  have H₁ : Hp u W σ (env :: l) h₁ := by
    refine ⟨H.base, fun a o e => keep _ _ (H.froz a o e), fun k => cell_mono (fun _ _ r => r) (fun _ _ r => r) rfl rfl (fun o _ e => keep _ _ e) (fun o _ _ _ e => keep _ _ e) (H.cell k), H.mutF, H.sep, H.sepi, fun e he' => ?_⟩
    rcases List.mem_cons.mp he' with q | q
    · subst q
      exact ⟨by rw [eS, F.kind]; decide, s.heap.objs.size, _, eF, eL ▸ hns, fz _ (Nat.le_refl _), hz, nm _ (Nat.le_refl _)⟩
    · obtain ⟨a1, L', m', a2, a3, a4⟩ := H.frm e q
      exact ⟨a1, L', m', a2, a3.keeps keep, a4⟩
  have L₁ : Lo W σ env h₁ (ps.zip args) := by
    refine ⟨fun x y e => ?_, ⟨_, hns⟩, by rw [eL]; exact ⟨fz _ (Nat.le_refl _), nm _ (Nat.le_refl _)⟩, fun x c e => ?_, fun x y c e e' => ?_, fun x e => ?_⟩
    · obtain ⟨v, hm, rv⟩ := zip_lk r e
      have hk := hkind _ hm
      unfold VarAt
      rcases hk with q | ⟨q, q'⟩
      · rw [ek, q]
        refine ⟨_, v, hns, bindL_in (by rw [hkeys]; exact F.nd) hm ?_, rv⟩
        rw [ek]; exact q
      · rw [ek, q]
        obtain ⟨c, hc⟩ := Option.isSome_iff_exists.mp q'
        rw [← eC] at hc
        refine ⟨c, v, hc, ?_, rv⟩
        have := hcell x c hc
        rw [bindC_in (by rw [hkeys]; exact F.nd) hm (by rw [ek, q]; decide)] at this
        exact this
    · have hL : @LT.lt Nat _ s.heap.objs.size c := eL ▸ hab x c (mem_of_lookup e)
      exact ⟨fz _ (by lcg_off), nm _ (by lcg_off), _, hcell x c e⟩
    · exact name_of_addr hap (mem_of_lookup e) (mem_of_lookup e')
    · rw [ek] at e
      have := cellsFrom_some (x := x) fd.scope.names (s.heap.objs.size + 1) [] (.inl e)
      rw [← eC] at this
      exact Option.isSome_iff_exists.mp this
  have C' : SCx u (A.deeper env) (env :: l) env n hn (fun x => fd.scope.names.lookup x) := by
    refine ⟨⟨Around.frames_deeper hfr, List.cons_ne_nil _ _, by rw [eS]; exact F.kind, by rw [← henv]; exact F.glob, by rw [← henv]; exact F.bns, fun x k e => .inl (by rw [ek]; exact e), fun x k e => ?_, ?_, ?_, hand⟩, ⟨l, s.heap.objs.size, rfl, eF, eL⟩⟩
    · rw [ek] at e
      have := List.all_eq_true.mp F.dbg (x, k) (mem_of_lookup e)
      simpa using this
    · show A.depth + 1 + 4 * n + 8 < recursionLimit; lcg_off
    · show A.units + 3 + 24 * n + 40 < cLine; lcg_off
  -- what the frame's own things are to the caller: new
  have back : ∀ {W' σ' h'}, Step u (env :: l) (ownOf env) W σ h₁ W' σ' h' → Step u l noOwn W σ s.heap W' σ' h' := fun {W' σ' h'} S => by
    have P := S.hp
    have frF : ∀ a o, s.heap.get? a = some o → ¬ ownOf env a := fun a o e q => by
      rcases q with q | ⟨x, q⟩
      · rw [q, eL, sz _ (Nat.le_refl _)] at e; cases e
      · have this : @LT.lt Nat _ s.heap.objs.size a := eL ▸ hab x a (mem_of_lookup q)
        rw [sz _ (by lcg_off)] at e; cases e
    refine ⟨⟨P.base, P.froz, P.cell, P.mutF, P.sep, P.sepi, fun e he' => P.frm e (.tail _ he')⟩, S.le, S.al, fun b o e nmb _ => S.up b o (keep _ _ e) nmb (frF b o e), fun k b e => ?_, fun b o e => ?_, fun b o e => S.dm b o (keep _ _ e)⟩
    · rcases S.nm k b e with q | q
      · exact .inl q
      · exact .inr (none_back (fun b o e => ⟨o, keep _ _ e⟩) q)
    · rcases S.nf b o e with q | q
      · exact .inl q
      · exact .inr (none_back (fun b o e => ⟨o, keep _ _ e⟩) q)
  refine wpAny_mono (hb _ _ _ C' W ⟨h₁, s.gens, s.drawn, tk₁, s.os⟩ H₁ L₁ (fun f s' => R (.ok (.ret (match f with | .ret v => v | _ => .none))) s') _ (fun ρ' W' σ' h' tk st L' q => hq .none .none W' σ' h' tk (back st) rp_none q)
    (fun v x W' σ' h' tk st r q => hq v x W' σ' h' tk (back st) r q) fun e c ρ' W' σ' h' tk st L' x q => ?_) (fun _ _ h => h) fun _ _ h => h
  refine Ex.leave (s := ⟨h', s.gens, s.drawn, tk, s.os⟩) rfl C'.frames eF st x fun h'' S'' x'' t => ?_
  exact he e c W' σ' h'' tk (back S'') (Ex.below (L := s.heap.objs.size) rfl x'' t (fun a o e => ⟨o, keep _ _ e⟩) (fun o e => by rw [sz _ (Nat.le_refl _)] at e; cases e) eF) q

theorem call_fn {f : Addr} {fd : FuncData} {body : List Stmt} {ps : List Str} (F : FnOk u f fd body ps) {args : List V} {Q : V → St → Prop} {X : Exn → St → Prop} (ha : args.length = ps.length)
    (hb : ∀ A' l' env, SCx u A' l' env n hn (fun x => fd.scope.names.lookup x) → SOk u A' l' env (execs body env) (ps.zip args) (fun _ σ' => Q .none σ') Q (fun c _ σ' => X c σ') σ) : SemV u (n + 1) hn (.ref f) args Q X σ := by
  intro A l C W s H vals r R hq he
  obtain ⟨L, m, Fr', _, _⟩ := frame_at H C.ne
  have hz : u.g₀.objs.size ≤ s.heap.objs.size := by
    obtain ⟨o, ho, _⟩ := ns_iff.mp Fr'.ns
    exact Nat.le_of_lt (Nat.lt_of_le_of_lt Fr'.above (Heap.lt_size ho))
  exact call_core F hz C.frames C.room C.units C.hand H r ha hb hq he
end
section
variable {u : Uni} {A : Around} {l : List Env} {env : Env} {ρ : Loc} {σ : St} {n : Nat} {hn : Bool} {kd : Str → Option NameKind}

/-! a method called -/
@[reducible] noncomputable def kM1 (u : Uni) (n : Nat) (hn : Bool) (c : Cls) (name : Str) (Q : V → St → Prop) (X : Exn → St → Prop) (x : V) : List V → St → Prop := fun xs σ₂ => SemM u n hn c name (x :: xs) Q X σ₂
@[reducible] noncomputable def kM (u : Uni) (A : Around) (l : List Env) (env : Env) (n : Nat) (hn : Bool) (name : Str) (pos : Pos) (args : List Expr) (ρ : Loc) (Q : V → St → Prop) (X : Exn → St → Prop) : V → St → Prop := fun x σ₁ => ∃ k c fs, x = .ref k ∧ σ₁.get k = .inst c fs ∧ lk fs name = none ∧ (∃ f, Mt u c name f) ∧
      EsOk u A l env pos args ρ (kM1 u n hn c name Q X x) X σ₁
theorem E_meth {X : Exn → St → Prop} {o : Expr} {name : Str} {apos pos : Pos} {args : List Expr} {Q : V → St → Prop} (C : ECx u A l env n hn kd)
    (h : EOk u A l env Rp (eval o env) ρ (kM u A l env n hn name pos args ρ Q X) X σ)
    (hs : args.all notStar = true := by rfl)
    (he' : ∃ pl, eval (.Call (.Attribute o name apos) args [] pos) env = (do
      let ov ← eval o env
      standAt apos.atName
      let (f, first) ← holding [ov] (getMethod ov name pl)
      callWith pos f first (backTo pos (starEach args env)) (backToKw pos (keywordEach [] env))) := by exact ⟨_, by with_unfolding_all rfl⟩) :
    EOk u A l env Rp (eval (.Call (.Attribute o name apos) args [] pos) env) ρ Q X σ := by
  intro W s H L QC EC hq he
  obtain ⟨pl, hev⟩ := he'
  refine methodCall_KW (pl := pl) (h W s H L _ EC (fun v x W₁ σ₁ h₁ tk₁ st₁ r₁ q₁ => ?_) he) hev
  obtain ⟨k, c, fs, rfl, hc, hl, ⟨f, m1, m2, m3⟩, es⟩ := q₁
  obtain ⟨rfl, lv⟩ := rp_refI r₁
  have H₁ := st₁.hp
  have cc := H₁.cell k
  rw [hc] at cc
  obtain ⟨en, n', I, hE, _⟩ := inst_at cc
  obtain ⟨Lf, m, F, _, _⟩ := frame_at H₁ C.ne
  refine method_inst (s := ⟨h₁, s.gens, s.drawn, tk₁, s.os⟩) F u.X I (u.getA c name) m1 m2 ((ent_get hE).2 hl) ?_
  refine callWith_go (s := ⟨h₁, s.gens, s.drawn, tk₁, s.os⟩) (P := u.K.In) (keeps_K m3) hs (fun H => H.K) es H₁ (L.stepE st₁) (fun vs xs W₂ σ₂ h₂ tk₂ st₂ r₂ q₂ => ?_) fun e c W'' σ'' h'' tk' st' x q' => he e c W'' σ'' h'' tk' (st₁.trans st') (x.older st₁.dm) q'
  refine wpAny_call ?_
  have s12 := st₁.trans st₂
  exact q₂ f ⟨m1, m2, m3⟩ A l C.call W₂ ⟨h₂, s.gens, s.drawn, tk₂, s.os⟩ st₂.hp _ (RepL.cons (st₂.rp (rp_ref lv)) r₂) _ (fun v' b' W' σ' h' tk st r q => hq v' b' W' σ' h' tk (s12.trans st) r q)
    fun e c W'' σ'' h'' tk' st' x q' => he e c W'' σ'' h'' tk' (s12.trans st') (x.older s12.dm) q'

/-- self.list.append(x): of a cell -/
theorem append_exact {A : Around} {prog : Program} {w : World} {E : Value → Shared → Prop} {s : Shared} {a : Addr} {o : Obj} {arr : Array Value} {n : Nat} {x : Value} {Q : Value → Shared → Prop}
    (ho : s.heap.get? a = some o) (hc : o.cls = .type "list") (hd : o.data = .seq arr n) (hz : arr.size ≤ sizeLine)
    (hQ : ∀ h' o', h'.get? a = some o' → o'.cls = .type "list" → (∃ n', o'.data = .seq (arr.push x) n') → o'.dict = o.dict → Heap.SameBut a s.heap h' → Q .none { s with heap := h' }) :
    wpAny (model prog w) A (call (.builtin "list.append") [.ref a, x]) Q E s := by
  have hl : s.heap.IsList a arr := ⟨o, ho, hc, n, hd⟩
  obtain ⟨n', hd'⟩ := Obj.data_mapSeq hd (·.push x)
  refine wpAny_call_entry slot_list_append hl.typeIs entry_list_append ?_ (args_list_append _ _)
  show wpAny _ _ (updateSeq a (·.push x) >>= fun _ => ret .none) _ _ s
  refine wpAny_bind ?_
  refine wpAny_updateSeq ho hd (wpAny_pure ⟨.none, rfl, hQ _ _ (Heap.get?_update_self _ ho (Obj.isFreed_of_seq hd')) ((Obj.cls_mapSeq ..).trans hc) ⟨n', hd'⟩ ?_ (Heap.SameBut.update ..)⟩) (hz := hz) (_hz' := by rw [Array.size_push]; exact Nat.succ_le_succ hz)
  obtain ⟨c, d, dt, sl⟩ := o
  simp only at hd
  subst hd
  rfl
@[reducible] noncomputable def kAp1 (k : Hd) (Q : V → St → Prop) : V → St → Prop := fun y σ₂ => ∃ vs, σ₂.get k = .lst true vs ∧ vs.length ≤ 1000000 ∧ Q .none (σ₂.set k (.lst true (vs ++ [y])))
@[reducible] noncomputable def kAp (u : Uni) (A : Around) (l : List Env) (env : Env) (e : Expr) (ρ : Loc) (Q : V → St → Prop) (X : Exn → St → Prop) : V → St → Prop := fun x σ₁ => ∃ k vs, x = .ref k ∧ σ₁.get k = .lst true vs ∧ EOk u A l env Rp (eval e env) ρ (kAp1 k Q) X σ₁
theorem E_append {X : Exn → St → Prop} {o e : Expr} {apos pos : Pos} {Q : V → St → Prop} (C : ECx u A l env n hn kd)
    (h : EOk u A l env Rp (eval o env) ρ (kAp u A l env e ρ Q X) X σ)
    (hs : notStar e = true := by rfl)
    (he' : ∃ pl, eval (.Call (.Attribute o "append" apos) [e] [] pos) env = (do
      let ov ← eval o env
      standAt apos.atName
      let (f, first) ← holding [ov] (getMethod ov "append" pl)
      callWith pos f first (backTo pos (starEach [e] env)) (backToKw pos (keywordEach [] env))) := by exact ⟨_, by with_unfolding_all rfl⟩) :
    EOk u A l env Rp (eval (.Call (.Attribute o "append" apos) [e] [] pos) env) ρ Q X σ := by
  intro W s H L QC EC hq he
  obtain ⟨pl, hev⟩ := he'
  refine methodCall_KW (pl := pl) (h W s H L _ EC (fun v x W₁ σ₁ h₁ tk₁ st₁ r₁ q₁ => ?_) he) hev
  obtain ⟨k, vs, rfl, hc, es⟩ := q₁
  obtain ⟨rfl, lv⟩ := rp_refI r₁
  have H₁ := st₁.hp
  have cc := H₁.cell k
  rw [hc] at cc
  obtain ⟨ob, arr, n', c1, c2, c3, c4, rl⟩ := cc
  refine getMethod_list_append (s := ⟨h₁, s.gens, s.drawn, tk₁, s.os⟩) c1 c2 (c4 rfl) ?_
  refine Calls.callWith_builtin (by rw [plain_of (es := [e]) (by rw [List.all_cons, hs]; rfl)]) ?_
  have e1 : backTo pos (starEach [e] env) = [(false, eval e env)] := by rw [starEach_cons hs, backTo_cons]; rfl
  rw [e1]
  refine evalArgs_plain (spliced_cons ?_)
  refine es W₁ ⟨h₁, s.gens, s.drawn, tk₁, s.os⟩ H₁ (L.stepE st₁) _ EC (fun w y W₂ σ₂ h₂ tk₂ st₂ r₂ q₂ => spliced_nil ?_) fun e c W'' σ'' h'' tk' st' x q' => he e c W'' σ'' h'' tk' (st₁.trans st') (x.older st₁.dm) q'
  obtain ⟨vs, hc2, hz, q⟩ := q₂
  have s12 := st₁.trans st₂
  have H₂ := st₂.hp
  have cc := H₂.cell k
  rw [hc2] at cc
  obtain ⟨o2, arr2, n2, d1, d2, d3, d4, rl2⟩ := cc
  have ln : arr2.size = vs.length := by rw [← Array.length_toList, RepL.length rl2]
  have e2 : W₂.al k = W₁.al k := (st₂.al k lv).1
  rw [← e2]
  refine append_exact (s := ⟨h₂, s.gens, s.drawn, tk₂, s.os⟩) d1 d2 d3 (line_le (by lcg_off)) fun h' o' g1 g2 g3 g4 sb => ?_
  obtain ⟨n3, g3⟩ := g3
  obtain ⟨Lf, m, F, fL, nL⟩ := frame_at H₂ C.ne
  have md : MutK W₂ σ₂ k (W₂.al k) := by unfold MutK; rw [hc2]
  have nLd : Lf ≠ W₂.al k := fun z => nL k (z ▸ md)
  have kk : Cell.kin (.lst true (vs ++ [y])) = (σ₂.get k).kin := by rw [hc2]; rfl
  have st : Step u l noOwn W₂ σ₂ h₂ W₂ (σ₂.set k (.lst true (vs ++ [y]))) h' := by
    refine Step.turn H₂ kk F.ns (F.ns.sameBut sb nLd) fL nL md (fun b o n1 n2 e => (sb.2 b n2).trans e) ⟨_, g1⟩ ⟨o', _, n3, g1, g2, g3, (fun _ => g4.trans (d4 rfl)), ?_⟩
    rw [Array.toList_push]
    exact rpL_set kk (RepL.append rl2 (RepL.cons r₂ RepL.nil))
  exact hq _ .none W₂ _ h' _ (s12.trans st) rp_none q

/-! classes called -/
noncomputable def Hd.is : Hd → Hd → Bool
  | .cnt, .cnt => true
  | .ord, .ord => true
  | .blk, .blk => true
  | .rst, .rst => true
  | .itr, .itr => true
  | _, _ => false
theorem Hd.is_self (k : Hd) : k.is k = true := by cases k <;> rfl
theorem Hd.is_ne {j k : Hd} (h : j ≠ k) : j.is k = false := by cases j <;> cases k <;> first | rfl | exact absurd rfl h
noncomputable def Wd.put (W : Wd) (k : Hd) (x dx : Addr) : Wd := { W with al := fun j => if j.is k then x else W.al j, dl := fun j => if j.is k then dx else W.dl j }
theorem Wd.put_al {W : Wd} {k : Hd} {x dx : Addr} : (W.put k x dx).al k = x := by show (if k.is k then x else W.al k) = x; rw [Hd.is_self]; rfl
theorem Wd.put_dl {W : Wd} {k : Hd} {x dx : Addr} : (W.put k x dx).dl k = dx := by show (if k.is k then dx else W.dl k) = dx; rw [Hd.is_self]; rfl
theorem Wd.put_ne {W : Wd} {k j : Hd} {x dx : Addr} (h : j ≠ k) : (W.put k x dx).al j = W.al j ∧ (W.put k x dx).dl j = W.dl j := by
  constructor
  · show (if j.is k then x else W.al j) = _; rw [Hd.is_ne h]; rfl
  · show (if j.is k then dx else W.dl j) = _; rw [Hd.is_ne h]; rfl
/-- a cell comes to life -/
theorem Step.new {W : Wd} {h h' : Heap} {x dx : Addr} {k : Hd} {c : Cell} (H : Hp u W σ l h) (hk : σ.get k = .dead) {L : Addr} {m : Str → Option Value} (hL : h.Ns L m) (fL : W.F L = none) (nL : ∀ k, ¬ MutK W σ k L)
    (hL' : h'.Ns L m) (keep : ∀ b o, b ≠ L → h.get? b = some o → h'.get? b = some o) (fx : h.get? x = none) (fd : (∃ c' fs, c = .inst c' fs) → h.get? dx = none ∧ x ≠ dx)
    (hc : CellAt u (W.put k x dx) (σ.set k c) h' k c) : Step u l noOwn W σ h (W.put k x dx) (σ.set k c) h' := by
  have S := Step.grow H L m hL hL' fL nL keep
  have H' := S.hp
  have lv : ∀ j, live σ j → j ≠ k ∧ live (σ.set k c) j := fun j e => by
    have : j ≠ k := fun q => by subst q; unfold live at e; rw [hk] at e; exact e
    exact ⟨this, by unfold live; rw [St.get_set_ne σ c this]; exact e⟩
  have m1 : ∀ y v, Rp W σ y v → Rp (W.put k x dx) (σ.set k c) y v := fun _ _ r => Rep.mono (W := W) (W' := W.put k x dx) (fun _ _ e => e) (fun j e => ⟨(Wd.put_ne (lv j e).1).1, (lv j e).2⟩) _ _ r
  have m2 : ∀ y v, RpL W σ y v → RpL (W.put k x dx) (σ.set k c) y v := fun _ _ r => RepL.mono (W := W) (W' := W.put k x dx) (fun _ _ e => e) (fun j e => ⟨(Wd.put_ne (lv j e).1).1, (lv j e).2⟩) _ _ r
  have mo : ∀ j a, j ≠ k → (MutK (W.put k x dx) (σ.set k c) j a ↔ MutK W σ j a) := fun j a q => by
    unfold MutK
    rw [St.get_set_ne σ c q, (Wd.put_ne q).1, (Wd.put_ne q).2]
  have mk : ∀ a, MutK (W.put k x dx) (σ.set k c) k a → h.get? a = none ∧ (a = x ∨ (∃ c' fs, c = .inst c' fs) ∧ a = dx) := fun a e => by
    unfold MutK at e
    rw [St.get_set_same, Wd.put_al, Wd.put_dl] at e
    cases c with
    | dead => exact e.elim
    | lst p vs => exact ⟨e ▸ fx, .inl e⟩
    | inst c' fs =>
      rcases e with e | e
      · exact ⟨e ▸ fx, .inl e⟩
      · exact ⟨e ▸ (fd ⟨_, _, rfl⟩).1, .inr ⟨⟨_, _, rfl⟩, e⟩⟩
  refine ⟨⟨H.base, H'.froz, fun j => ?_, fun j a e => ?_, fun j j' a e e' => ?_, fun j c' fs e => ?_, fun en he => ?_⟩, fun _ _ e => e, fun j e => ⟨(Wd.put_ne (lv j e).1).1, (Wd.put_ne (lv j e).1).2, (lv j e).2⟩, S.up, fun j a e => ?_, fun _ _ e => .inl e, S.dm⟩
  · rcases Hd.em j k with q | q
    · subst q; rw [St.get_set_same]; exact hc
    · rw [St.get_set_ne σ c q]
      exact cell_mono m1 m2 (Wd.put_ne q).1 (Wd.put_ne q).2 (fun _ _ e => e) (fun _ _ _ _ e => e) (H'.cell j)
  · rcases Hd.em j k with q | q
    · subst q; exact fz_none H (mk a e).1
    · exact H.mutF j a ((mo j a q).mp e)
  · rcases Hd.em j k with q | q <;> rcases Hd.em j' k with q' | q'
    · rw [q, q']
    · subst q
      exact absurd ((mo j' a q').mp e') (mut_none H (mk a e).1 j')
    · subst q'
      exact absurd ((mo j a q).mp e) (mut_none H (mk a e').1 j)
    · exact H.sep j j' a ((mo j a q).mp e) ((mo j' a q').mp e')
  · rcases Hd.em j k with q | q
    · subst q
      rw [St.get_set_same] at e
      rw [Wd.put_al, Wd.put_dl]
      exact (fd ⟨_, _, e⟩).2
    · rw [St.get_set_ne σ c q] at e
      rw [(Wd.put_ne q).1, (Wd.put_ne q).2]
      exact H.sepi j c' fs e
  · obtain ⟨a1, L', m', a2, a3, a4, a6, a5⟩ := H'.frm en he
    refine ⟨a1, L', m', a2, a3, a4, a6, fun j e => ?_⟩
    rcases Hd.em j k with q | q
    · subst q
      obtain ⟨_, L₂, m₂, b2, b3, _⟩ := H.frm en he
      rw [a2] at b2; cases b2
      obtain ⟨o, ho, _⟩ := ns_iff.mp b3
      have := (mk L' e).1
      rw [ho] at this; cases this
    · exact a5 j ((mo j L' q).mp e)
  · rcases Hd.em j k with q | q
    · subst q; exact .inr (mk a e).1
    · exact .inl ((mo j a q).mp e)

theorem call_class {X : Exn → St → Prop} {c : Cls} {k : Hd} {args : List V} {Q : V → St → Prop} (hk : σ.get k = .dead) (hm : makesIn u.K (u.cls c) = true) {fI : Addr} (mi : Mt u c "__init__" fI)
    (h : SemM u n hn c "__init__" (.ref k :: args) (fun v σ' => v = .none ∧ Q (.ref k) σ') X (σ.set k (.inst c []))) : SemV u (n + 1) hn (.ref (u.cls c)) args Q X σ := by
  intro A l C W s H vals r R hq he
  obtain ⟨L, m, F, fL, nL⟩ := frame_at H C.ne
  refine PySem.W.make_K F (newsA u.g₀ s.heap L) H.K hm mi.1 (by have := mi.2.1; unfold isFn at this; exact beq_iff_eq.mp this) fun x dx h' F' N' l1 l2 => ?_
  have gx := (N' (x, instObj (u.cls c) dx) (.head _)).1
  have gd := (N' (dx, emptyDict) (.tail _ (.head _))).1
  have keep := news_keep (more := [(x, instObj (u.cls c) dx), (dx, emptyDict)]) H F' N'
  have fresh : ∀ a, (∀ o, (a, o) ∈ allOf u.g₀ s.heap L → False) → a ≠ L → u.g₀.get? a = none → s.heap.get? a = none := fun a h1 h2 h3 => by
    cases e : s.heap.get? a with
    | none => rfl
    | some o => exact (h1 o (mem_allOf.mpr ⟨h2, h3, e⟩)).elim
  have fd := fresh dx (fun o ho => absurd (l1 _ ho) (Nat.lt_irrefl _)) (N' (dx, emptyDict) (.tail _ (.head _))).2.1 (N' (dx, emptyDict) (.tail _ (.head _))).2.2
  have fx := fresh x (fun o ho => absurd (Nat.lt_trans (l1 _ ho) l2) (Nat.lt_irrefl _)) (N' (x, instObj (u.cls c) dx) (.head _)).2.1 (N' (x, instObj (u.cls c) dx) (.head _)).2.2
  have st := Step.new (c := .inst c []) (x := x) (dx := dx) H hk F.ns fL nL F'.ns keep fx (fun _ => ⟨fd, Nat.ne_of_gt l2⟩) ⟨[], 0, by rw [Wd.put_al, Wd.put_dl]; exact gx, by rw [Wd.put_dl]; exact gd, rfl, Nat.zero_le _⟩
  have C' : CCx u (A.under (.builtin "type.__call__" ⟨.ref (u.cls c) :: vals, []⟩)) l n hn := by
    have hw : (Code.builtin "type.__call__" ⟨.ref (u.cls c) :: vals, []⟩).weight = 1 := rfl
    have hu : (Code.builtin "type.__call__" ⟨.ref (u.cls c) :: vals, []⟩).cUnits = 1 := rfl
    refine ⟨?_, C.ne, ?_, ?_, C.hand⟩
    · show pushEnvs (Code.builtin "type.__call__" ⟨.ref (u.cls c) :: vals, []⟩).envs A.frames = some l
      rw [show (Code.builtin "type.__call__" ⟨.ref (u.cls c) :: vals, []⟩).envs = [] from rfl]
      exact C.frames
    · show A.depth + _ + 4 * n + 8 < _
      rw [hw]; have := C.room; lcg_off
    · show A.units + _ + 24 * n + 40 < _
      rw [hu]; have := C.units; lcg_off
  have lk' : live (σ.set k (.inst c [])) k := by unfold live; rw [St.get_set_same]; trivial
  have rx : Rp (W.put k x dx) (σ.set k (.inst c [])) (.ref k) (.ref x) := by
    have := rp_ref (W := W.put k x dx) lk'
    rwa [Wd.put_al] at this
  refine h fI mi _ l C' (W.put k x dx) ⟨h', s.gens, s.drawn, s.toks, s.os⟩ st.hp (.ref x :: vals) (RepL.cons rx (st.rpL r)) _ (fun v y W' σ' h'' tk st' r' q => ?_) fun e c' W' σ' h'' tk st' x' q => he e c' W' σ' h'' tk (st.trans st') (x'.older st.dm) q
  obtain ⟨rfl, q⟩ := q
  obtain rfl := rp_noneI r'
  refine ⟨rfl, hq _ (.ref k) W' σ' h'' tk (st.trans st') ?_ q⟩
  have e1 := (st'.al k lk').1
  rw [Wd.put_al] at e1
  rw [← e1]
  exact rp_ref (st'.al k lk').2.2
end
section
variable {u : Uni} {A : Around} {l : List Env} {env : Env} {ρ : Loc} {σ : St} {n : Nat} {hn : Bool} {kd : Str → Option NameKind}

theorem EOk.mono {τ β : Type} {rp : Wd → St → β → τ → Prop} {t : Sem τ} {Q Q' : β → St → Prop} {X X' : Exn → St → Prop} (h : EOk u A l env rp t ρ Q X σ) (hQ : ∀ b σ', Q b σ' → Q' b σ') (hX : ∀ c σ', X c σ' → X' c σ') :
    EOk u A l env rp t ρ Q' X' σ := fun W s H L QC EC hq he =>
  h W s H L QC EC (fun v b W' σ' h' tk st r q => hq v b W' σ' h' tk st r (hQ _ _ q)) fun e c W' σ' h' tk st x q => he e c W' σ' h' tk st x (hX _ _ q)
theorem SOk.mono {t : Sem Flow} {N N' : Loc → St → Prop} {R R' : V → St → Prop} {X X' : Exn → Loc → St → Prop} (h : SOk u A l env t ρ N R X σ) (hN : ∀ ρ σ', N ρ σ' → N' ρ σ') (hR : ∀ v σ', R v σ' → R' v σ') (hX : ∀ c ρ σ', X c ρ σ' → X' c ρ σ') :
    SOk u A l env t ρ N' R' X' σ := fun W s H L QC EC hq hr he =>
  h W s H L QC EC (fun ρ' W' σ' h' tk st L' q => hq ρ' W' σ' h' tk st L' (hN _ _ q)) (fun v x W' σ' h' tk st r q => hr v x W' σ' h' tk st r (hR _ _ q)) fun e c ρ' W' σ' h' tk st L' x q => he e c ρ' W' σ' h' tk st L' x (hX _ _ _ q)
theorem AsOk.mono {t : Value → Sem Unit} {y : V} {N N' : Loc → St → Prop} {X X' : Exn → Loc → St → Prop} (h : AsOk u A l env t y ρ N X σ) (hN : ∀ ρ σ', N ρ σ' → N' ρ σ') (hX : ∀ c ρ σ', X c ρ σ' → X' c ρ σ') :
    AsOk u A l env t y ρ N' X' σ := fun W s v H L r QC EC hq he =>
  h W s v H L r QC EC (fun ρ' W' σ' h' tk st L' q => hq ρ' W' σ' h' tk st L' (hN _ _ q)) fun e c ρ' W' σ' h' tk st L' x q => he e c ρ' W' σ' h' tk st L' x (hX _ _ _ q)
theorem SemV.mono {f : Value} {args : List V} {Q Q' : V → St → Prop} {X X' : Exn → St → Prop} (h : SemV u n hn f args Q X σ) (hQ : ∀ b σ', Q b σ' → Q' b σ') (hX : ∀ c σ', X c σ' → X' c σ') :
    SemV u n hn f args Q' X' σ := fun A l C W s H vals r R hq he =>
  h A l C W s H vals r R (fun v b W' σ' h' tk st r q => hq v b W' σ' h' tk st r (hQ _ _ q)) fun e c W' σ' h' tk st x q => he e c W' σ' h' tk st x (hX _ _ q)
theorem SemG.mono {x : Str} {args : List V} {Q Q' : V → St → Prop} {X X' : Exn → St → Prop} (h : SemG u n hn x args Q X σ) (hQ : ∀ b σ', Q b σ' → Q' b σ') (hX : ∀ c σ', X c σ' → X' c σ') :
    SemG u n hn x args Q' X' σ := fun v hv => SemV.mono (h v hv) hQ hX
theorem SemM.mono {c : Cls} {x : Str} {args : List V} {Q Q' : V → St → Prop} {X X' : Exn → St → Prop} (h : SemM u n hn c x args Q X σ) (hQ : ∀ b σ', Q b σ' → Q' b σ') (hX : ∀ c σ', X c σ' → X' c σ') :
    SemM u n hn c x args Q' X' σ := fun v hv => SemV.mono (h v hv) hQ hX

theorem For_inv {t : Expr} {body : List Stmt} {N : Loc → St → Prop} {R : V → St → Prop} {X : Exn → Loc → St → Prop} (I : List V → Loc → St → Prop)
    (step : ∀ y ys ρ σ, I (y :: ys) ρ σ → AsOk u A l env (assign t env) y ρ (fun ρ' σ' => SOk u A l env (execs body env) ρ' (fun ρ'' σ'' => I ys ρ'' σ'') R X σ') X σ) (done : ∀ ρ σ, I [] ρ σ → N ρ σ) :
    ∀ (xs : List V) {ρ : Loc} {σ : St}, I xs ρ σ → ForR u A l env t body N R X xs ρ σ
  | [], ρ, σ, h => done ρ σ h
  | y :: ys, ρ, σ, h => by
    unfold ForR
    exact (step y ys ρ σ h).mono (fun ρ' σ' q => q.mono (fun _ _ q => For_inv I step done ys q) (fun _ _ q => q) fun _ _ _ q => q) fun _ _ _ q => q
/-- the loop over lo, lo + 1, … : I says what holds ahead of the turn i -/
theorem ForR_inv {t : Expr} {body : List Stmt} {N : Loc → St → Prop} {R : V → St → Prop} {X : Exn → Loc → St → Prop} {lo hi : Int} (I : Int → Loc → St → Prop) (hl : lo ≤ hi)
    (step : ∀ i ρ σ, lo ≤ i → i < hi → I i ρ σ → AsOk u A l env (assign t env) (.int i) ρ (fun ρ' σ' => SOk u A l env (execs body env) ρ' (fun ρ'' σ'' => I (i + 1) ρ'' σ'') R X σ') X σ) (done : ∀ ρ σ, I hi ρ σ → N ρ σ)
    {ρ : Loc} {σ : St} (h : I lo ρ σ) : ForR u A l env t body N R X (rngL lo hi) ρ σ := by
  refine For_inv (fun xs ρ σ => ∃ i, lo ≤ i ∧ i ≤ hi ∧ xs = rngL i hi ∧ I i ρ σ) (fun y ys ρ σ q => ?_) (fun ρ σ q => ?_) _ ⟨lo, Int.le_refl _, hl, rfl, h⟩
  · obtain ⟨i, h1, h2, e, q⟩ := q
    have h3 : i < hi := by
      rcases Int.lt_or_eq_of_le h2 with z | z
      · exact z
      · subst z
        have : rngL i i = [] := by unfold rngL; simp
        rw [this] at e; cases e
    have e2 : rngL i hi = .int i :: rngL (i + 1) hi := by
      unfold rngL
      rw [show (hi - i).toNat = (hi - (i + 1)).toNat + 1 by lcg_off, List.range_succ_eq_map, List.map_cons, List.map_map]
      have e0 : V.int (i + ((0 : Nat) : Int)) = V.int i := by simp
      rw [e0]
      congr 1
      refine List.map_congr_left fun a _ => ?_
      show V.int (i + ((a + 1 : Nat) : Int)) = V.int (i + 1 + (a : Int))
      congr 1; lcg_off
    rw [e2] at e
    injection e with e1 e2
    subst e1 e2
    exact (step i ρ σ h1 h3 q).mono (fun ρ' σ' q => q.mono (fun _ _ q => ⟨i + 1, by lcg_off, by lcg_off, rfl, q⟩) (fun _ _ q => q) fun _ _ _ q => q) fun _ _ _ q => q
  · obtain ⟨i, h1, h2, e, q⟩ := q
    have : i = hi := by
      have := congrArg List.length e
      rw [rngL_len, List.length_nil] at this
      lcg_off
    subst this
    exact done ρ σ q
theorem Wh_inv {t : Expr} {body : List Stmt} {N : Loc → St → Prop} {R : V → St → Prop} {X : Exn → Loc → St → Prop} (I : Nat → Loc → St → Prop)
    (step : ∀ k ρ σ, I k ρ σ → EOk u A l env Bl (isTrue t env (eval t env)) ρ (fun c σ₁ => (c = true → SOk u A l env (execs body env) ρ (fun ρ' σ' => ∃ k', k' < k ∧ I k' ρ' σ') R X σ₁) ∧ (c = false → N ρ σ₁)) (fun c σ' => X c ρ σ') σ)
    {k : Nat} {ρ : Loc} {σ : St} (h : I k ρ σ) : ∃ k, WhR u A l env t body N R X k ρ σ := by
  have : ∀ m k ρ σ, k ≤ m → I k ρ σ → WhR u A l env t body N R X (m + 1) ρ σ := fun m => by
    induction m with
    | zero =>
      intro k ρ σ hk h
      unfold WhR
      refine (step k ρ σ h).mono (fun c σ₁ q => ⟨fun e => (q.1 e).mono (fun _ _ q => ?_) (fun _ _ q => q) fun _ _ _ q => q, q.2⟩) fun _ _ q => q
      obtain ⟨k', h1, _⟩ := q; lcg_off
    | succ m ih =>
      intro k ρ σ hk h
      unfold WhR
      refine (step k ρ σ h).mono (fun c σ₁ q => ⟨fun e => (q.1 e).mono (fun _ _ q => ?_) (fun _ _ q => q) fun _ _ _ q => q, q.2⟩) fun _ _ q => q
      obtain ⟨k', h1, h2⟩ := q
      exact ih k' _ _ (by lcg_off) h2
  exact ⟨_, this k k ρ σ (Nat.le_refl _) h⟩

theorem map_inj {α β : Type} {f : α → β} (hf : ∀ x y, f x = f y → x = y) : ∀ {xs ys : List α}, xs.map f = ys.map f → xs = ys
  | [], [], _ => rfl
  | [], _ :: _, h => by cases h
  | _ :: _, [], h => by cases h
  | x :: xs, y :: ys, h => by
    simp only [List.map_cons, List.cons.injEq] at h
    rw [hf _ _ h.1, map_inj hf h.2]
theorem ofString_inj {a b : String} : Str.ofString a = Str.ofString b ↔ a = b := by
  constructor
  · intro h
    unfold Str.ofString at h
    rw [cpsOfBytes_string, cpsOfBytes_string] at h
    injection h with h
    have h := congrArg Array.toList h
    simp only at h
    have hi : ∀ x y : Char, Char.toNat x = Char.toNat y → x = y := fun x y e => by
      apply Char.ext; apply UInt32.toNat_inj.mp; exact e
    exact String.toList_inj.mp (map_inj hi h)
  · intro h; rw [h]
end
/-! bytes compared -/
theorem slot_blt : Slot "bytes" (cmpInfo .Lt).2.1 "bytes.__lt__" :=
  .of (owner := "bytes") (n := "__lt__") (by rw [typeLookup_type, builtinLookup_eq_fast]; kernel_rfl) (by decide +kernel) (by decide +kernel) (by decide +kernel)
    (by first | exact .inl (by decide +kernel) | exact .inr (by decide +kernel)) (by rw [isSubtype_type]; kernel_rfl)
theorem entry_blt : entryFor table "bytes.__lt__" = some Builtin.«bytes.__lt__» := entryFor_of_tree (by kernel_rfl)
theorem args_blt (a b : Value) : argsOk "bytes.__lt__" ⟨[a, b], []⟩ := by
  unfold argsOk; rw [signature?_of (id := "bytes.__lt__") (n := ['_', '_', 't', 'l', '_', '_']) (o := ['s', 'e', 't', 'y', 'b']) (by kernel_rfl) FB.owner_bytes]; kernel_rfl
theorem slot_bgt : Slot "bytes" (cmpInfo .Gt).2.1 "bytes.__gt__" :=
  .of (owner := "bytes") (n := "__gt__") (by rw [typeLookup_type, builtinLookup_eq_fast]; kernel_rfl) (by decide +kernel) (by decide +kernel) (by decide +kernel)
    (by first | exact .inl (by decide +kernel) | exact .inr (by decide +kernel)) (by rw [isSubtype_type]; kernel_rfl)
theorem entry_bgt : entryFor table "bytes.__gt__" = some Builtin.«bytes.__gt__» := entryFor_of_tree (by kernel_rfl)
theorem args_bgt (a b : Value) : argsOk "bytes.__gt__" ⟨[a, b], []⟩ := by
  unfold argsOk; rw [signature?_of (id := "bytes.__gt__") (n := ['_', '_', 't', 'g', '_', '_']) (o := ['s', 'e', 't', 'y', 'b']) (by kernel_rfl) FB.owner_bytes]; kernel_rfl
theorem slot_bge : Slot "bytes" (cmpInfo .GtE).2.1 "bytes.__ge__" :=
  .of (owner := "bytes") (n := "__ge__") (by rw [typeLookup_type, builtinLookup_eq_fast]; kernel_rfl) (by decide +kernel) (by decide +kernel) (by decide +kernel)
    (by first | exact .inl (by decide +kernel) | exact .inr (by decide +kernel)) (by rw [isSubtype_type]; kernel_rfl)
theorem entry_bge : entryFor table "bytes.__ge__" = some Builtin.«bytes.__ge__» := entryFor_of_tree (by kernel_rfl)
theorem args_bge (a b : Value) : argsOk "bytes.__ge__" ⟨[a, b], []⟩ := by
  unfold argsOk; rw [signature?_of (id := "bytes.__ge__") (n := ['_', '_', 'e', 'g', '_', '_']) (o := ['s', 'e', 't', 'y', 'b']) (by kernel_rfl) FB.owner_bytes]; kernel_rfl

theorem ord_lt : ∀ a b : List UInt8, (Builtin.Bytes.order a b == .lt) = decide (a < b)
  | [], [] => by decide
  | [], _ :: _ => by simp [Builtin.Bytes.order]
  | _ :: _, [] => by simp [Builtin.Bytes.order]
  | x :: a, y :: b => by
    simp only [Builtin.Bytes.order]
    by_cases h1 : x < y
    · simp [h1, List.cons_lt_cons_iff]
    · by_cases h2 : x > y
      · have : x ≠ y := fun e => by subst e; exact absurd h2 (UInt8.lt_irrefl _)
        simp [h1, h2, this, List.cons_lt_cons_iff]
      · have : x = y := UInt8.le_antisymm (UInt8.not_lt.mp h2) (UInt8.not_lt.mp h1)
        subst this
        simp [ord_lt a b, List.cons_lt_cons_iff, UInt8.lt_irrefl]
theorem ord_gt : ∀ a b : List UInt8, (Builtin.Bytes.order a b == .gt) = decide (b < a)
  | [], [] => by decide
  | [], _ :: _ => by simp [Builtin.Bytes.order]
  | _ :: _, [] => by simp [Builtin.Bytes.order]
  | x :: a, y :: b => by
    simp only [Builtin.Bytes.order]
    by_cases h1 : x < y
    · have : ¬ y < x := UInt8.lt_asymm h1
      have h3 : y ≠ x := fun e => by subst e; exact absurd h1 (UInt8.lt_irrefl _)
      simp [h1, List.cons_lt_cons_iff, this, h3]
    · by_cases h2 : x > y
      · simp [h1, h2, List.cons_lt_cons_iff]
      · have : x = y := UInt8.le_antisymm (UInt8.not_lt.mp h2) (UInt8.not_lt.mp h1)
        subst this
        simp [ord_gt a b, List.cons_lt_cons_iff, UInt8.lt_irrefl]
section
open Builtin
theorem gives_blt (b c : Array UInt8) (t u : Tok) : Gives («bytes.__lt__» ⟨[.bytes b t, .bytes c u], []⟩) (.val (.bool (decide (b.toList < c.toList)))) := by
  refine .of_wp fun M A E s Q hq => ?_
  show wpAny M A (isInstance (.bytes c u) (.type "bytes") >>= fun r => _) _ E s
  refine wpAny_bind (wpAny_isInstance (typeIs_bytes s c u) F.sub_bytes_bytes ?_)
  exact wpAny_pure ⟨_, rfl, by rw [← ord_lt] at hq; exact hq⟩
theorem gives_bgt (b c : Array UInt8) (t u : Tok) : Gives («bytes.__gt__» ⟨[.bytes b t, .bytes c u], []⟩) (.val (.bool (decide (c.toList < b.toList)))) := by
  refine .of_wp fun M A E s Q hq => ?_
  show wpAny M A (isInstance (.bytes c u) (.type "bytes") >>= fun r => _) _ E s
  refine wpAny_bind (wpAny_isInstance (typeIs_bytes s c u) F.sub_bytes_bytes ?_)
  exact wpAny_pure ⟨_, rfl, by rw [← ord_gt] at hq; exact hq⟩
theorem gives_bge (b c : Array UInt8) (t u : Tok) : Gives («bytes.__ge__» ⟨[.bytes b t, .bytes c u], []⟩) (.val (.bool (!decide (b.toList < c.toList)))) := by
  refine .of_wp fun M A E s Q hq => ?_
  show wpAny M A (isInstance (.bytes c u) (.type "bytes") >>= fun r => _) _ E s
  refine wpAny_bind (wpAny_isInstance (typeIs_bytes s c u) F.sub_bytes_bytes ?_)
  exact wpAny_pure ⟨_, rfl, by rw [← ord_lt] at hq; exact hq⟩
end
section
variable {prog : Program} {w : World} {A : Around} {E : Value → Shared → Prop} {s : Shared} {b c : Array UInt8} {t u : Tok}
theorem lt_bytes' {Q : Value → Shared → Prop} (h : Q (.bool (decide (b.toList < c.toList))) s) : wpAny (model prog w) A (compareOp .Lt (.bytes b t) (.bytes c u)) Q E s :=
  compareOp_gives (op := .Lt) (typeIs_bytes s b t) (typeIs_bytes s c u) slot_blt entry_blt (args_blt _ _) (gives_blt b c t u) (fun e => nomatch e) h
theorem gt_bytes' {Q : Value → Shared → Prop} (h : Q (.bool (decide (c.toList < b.toList))) s) : wpAny (model prog w) A (compareOp .Gt (.bytes b t) (.bytes c u)) Q E s :=
  compareOp_gives (op := .Gt) (typeIs_bytes s b t) (typeIs_bytes s c u) slot_bgt entry_bgt (args_bgt _ _) (gives_bgt b c t u) (fun e => nomatch e) h
theorem ge_bytes' {Q : Value → Shared → Prop} (h : Q (.bool (!decide (b.toList < c.toList))) s) : wpAny (model prog w) A (compareOp .GtE (.bytes b t) (.bytes c u)) Q E s :=
  compareOp_gives (op := .GtE) (typeIs_bytes s b t) (typeIs_bytes s c u) slot_bge entry_bge (args_bge _ _) (gives_bge b c t u) (fun e => nomatch e) h

/-! bytes sorted -/
@[reducible] noncomputable def bytKind : KeyKind where
  α := List UInt8
  blt a b := decide (a < b)
  irrefl a := by simpa using List.lt_irrefl a
  trans a b c h1 h2 := by simp only [decide_eq_true_eq] at *; exact List.lt_trans h1 h2
  negTrans a b c h := by
    simp only [decide_eq_true_eq] at *
    by_cases hab : a < b
    · exact .inl hab
    · exact .inr (List.lt_of_le_of_lt (List.not_lt.mp hab) h)
  total a b h1 h2 := by simp only [decide_eq_false_iff_not] at *; exact List.le_antisymm (List.not_lt.mp h2) (List.not_lt.mp h1)
  keyOf v := match v with | .bytes x _ => some x.toList | _ => none
  dflt := []
theorem bytKind_oneLt : bytKind.OneLt := by
  intro prog w A E s x y a b Q ha hb h
  cases x <;> simp only [bytKind, reduceCtorEq, Option.some.injEq] at ha
  cases y <;> simp only [bytKind, reduceCtorEq, Option.some.injEq] at hb
  cases ha; cases hb
  rw [oneLt'_eq]
  simp only [if_true]
  refine wpAny_bind (wpAny_cRoomFor_byValue rfl ?_)
  refine wpAny_bind (wpAny_callSpecialIfBound?_slot (typeIs_bytes s _ _) slot_blt (call_gives slot_blt (typeIs_bytes s _ _) entry_blt (args_blt _ _) (gives_blt _ _ _ _) ?_))
  exact wpAny_truthy_bool h
inductive BytsAre : List Value → List (List UInt8) → Prop
  | nil : BytsAre [] []
  | cons (x : List UInt8) (t : Tok) {vs bs} : BytsAre vs bs → BytsAre (.bytes x.toArray t :: vs) (x :: bs)
theorem BytsAre.all : ∀ {vs : List Value} {ss}, BytsAre vs ss → ∀ v, v ∈ vs → ∃ x t, v = .bytes x t
  | _, _, .nil, v, hv => by simp at hv
  | _, _, .cons x t h, v, hv => by
    rcases List.mem_cons.mp hv with rfl | hv
    · exact ⟨_, t, rfl⟩
    · exact h.all v hv
noncomputable def bytOf : Value → List UInt8
  | .bytes x _ => x.toList
  | _ => []
theorem BytsAre.byts : ∀ {vs : List Value} {ss}, BytsAre vs ss → vs.map bytOf = ss
  | _, _, .nil => rfl
  | _, _, .cons x t h => by rw [List.map_cons, h.byts]; rfl
theorem bytsAre_map : ∀ (vs : List Value), (∀ v, v ∈ vs → ∃ x t, v = .bytes x t) → BytsAre vs (vs.map bytOf)
  | [], _ => .nil
  | v :: vs, h => by
    obtain ⟨x, t, rfl⟩ := h v (List.mem_cons_self ..)
    exact .cons x.toList t (bytsAre_map vs fun u hu => h u (List.mem_cons_of_mem _ hu))
theorem BytsAre.keysOf {vs : List Value} {ss} (hS : BytsAre vs ss) : KeysOf bytKind (pairsOf vs) := by
  intro p hp
  rw [pairsOf_toList] at hp
  obtain ⟨x, t, e⟩ := hS.all _ (mem_zip_self hp).2
  exact ⟨x.toList, by rw [e]⟩
theorem mapM_first_byts : ∀ {vs : List Value} {ss}, BytsAre vs ss → vs.mapM firstOfTuple' = pure (vs.map fun _ => none)
  | _, _, .nil => by simp
  | _, _, .cons x t h => by rw [List.mapM_cons, show firstOfTuple' (.bytes x.toArray t) = pure none from rfl, mapM_first_byts h]; simp
theorem mapM_typeOf_byts : ∀ {vs : List Value} {ss}, BytsAre vs ss → vs.mapM typeOf = pure (vs.map fun _ => Value.type "bytes")
  | _, _, .nil => by simp
  | _, _, .cons x t h => by
    rw [List.mapM_cons, mapM_typeOf_byts h]
    show (pure (Value.type "bytes") >>= fun b => pure _ >>= fun bs => pure (b :: bs)) = _
    simp
theorem keyKind_byts {v₁ v₂ : Value} {vs : List Value} {ss} (hS : BytsAre (v₁ :: v₂ :: vs) ss) : keyKind' (v₁ :: v₂ :: vs).toArray = pure oneType' := by
  rw [keyKind'_eq, List.mapM_toArray, mapM_first_byts hS]
  simp only [map_pure, pure_bind]
  rw [if_neg (by simp), if_neg (by simp)]
  rw [oneTypeOnly'_eq, List.mapM_toArray, mapM_typeOf_byts hS]
  simp only [map_pure, pure_bind]
  have hall : ((List.map (fun _ => Value.type "bytes") (v₁ :: v₂ :: vs)).toArray.all fun x => x == Value.type "bytes") = true := by
    simp only [List.all_toArray, List.all_map, List.all_eq_true]
    intro _ _
    rfl
  have h0 : (List.map (fun _ => Value.type "bytes") (v₁ :: v₂ :: vs)).toArray[0]? = some (Value.type "bytes") := by simp
  rw [h0]
  simp only [hall, if_true, pure_bind, Option.isSome_some]
theorem sorted_out_byt {vs : List Value} {ss} (hS : BytsAre vs ss) {xs : Array Keyed} (hp : xs.Perm (pairsOf vs)) : ∃ ss', BytsAre (xs.map (·.2)).toList ss' ∧ ss'.Perm ss := by
  have hl : xs.toList.Perm (vs.zip vs) := by rw [← pairsOf_toList]; exact Array.perm_iff_toList_perm.mp hp
  have hmem : ∀ p, p ∈ xs.toList → p.1 = p.2 ∧ p.1 ∈ vs := fun p hp' => mem_zip_self (hl.mem_iff.mp hp')
  refine ⟨xs.toList.map fun p => bytOf p.1, ?_, ?_⟩
  · have e : (xs.map (·.2)).toList = xs.toList.map (·.1) := by
      rw [Array.toList_map]; exact List.map_congr_left fun p hp' => (hmem p hp').1.symm
    rw [e]
    have h1 := bytsAre_map (xs.toList.map (·.1)) (by
      intro v hv
      obtain ⟨p, hp', rfl⟩ := List.mem_map.mp hv
      exact hS.all _ (hmem p hp').2)
    rwa [List.map_map] at h1
  · have h1 := hl.map (fun p => bytOf p.1)
    have e2 : (vs.zip vs).map (fun p => bytOf p.1) = ss := by
      have : (vs.zip vs).map (fun p => bytOf p.1) = ((vs.zip vs).map Prod.fst).map bytOf := by rw [List.map_map]; rfl
      rw [this, List.map_fst_zip (Nat.le_refl _), hS.byts]
    rwa [e2] at h1
theorem sorted_byts {l : Addr} {vs : List Value} {ss} {Q : Value → Shared → Prop} (hl : s.heap.IsList l vs.toArray) (hS : BytsAre vs ss) (h64 : vs.length < 64)
    (h : ∀ (out : Array Value) (ss' : List (List UInt8)), BytsAre out.toList ss' → ss'.Perm ss → Q (.ref (s.heap.objs.size + 1)) { s with heap := sortedAll s.heap vs out }) :
    wpAny (model prog w) A (call (.builtin "sorted") [.ref l]) Q E s := by
  refine sortedK bytKind_oneLt hl hS.keysOf (fun v₁ v₂ rest e => keyKind_byts (by rw [← e]; exact hS)) h64 fun st' hp hs => ?_
  obtain ⟨ss', h1, h2⟩ := sorted_out_byt hS hp
  exact h _ ss' h1 h2
end
section
variable {u : Uni} {A : Around} {l : List Env} {env : Env} {ρ : Loc} {X : Exn → St → Prop} {σ : St} {n : Nat} {hn : Bool} {kd : Str → Option NameKind}

section
variable {x y : List UInt8} {Q : V → St → Prop}
theorem C_ltB (q : Q (.bool (decide (x < y))) σ) : BinP u A l (compareOp .Lt) (.bytes x) (.bytes y) Q X σ :=
  .gives (fun W v w h₁ h₂ QC EC s k => by obtain ⟨t, rfl⟩ := rp_bytesI h₁; obtain ⟨t', rfl⟩ := rp_bytesI h₂; with_reducible exact lt_bytes' (k _ s.toks rp_bool)) q
theorem C_gtB (q : Q (.bool (decide (y < x))) σ) : BinP u A l (compareOp .Gt) (.bytes x) (.bytes y) Q X σ :=
  .gives (fun W v w h₁ h₂ QC EC s k => by obtain ⟨t, rfl⟩ := rp_bytesI h₁; obtain ⟨t', rfl⟩ := rp_bytesI h₂; with_reducible exact gt_bytes' (k _ s.toks rp_bool)) q
theorem C_geB (q : Q (.bool (!decide (x < y))) σ) : BinP u A l (compareOp .GtE) (.bytes x) (.bytes y) Q X σ :=
  .gives (fun W v w h₁ h₂ QC EC s k => by obtain ⟨t, rfl⟩ := rp_bytesI h₁; obtain ⟨t', rfl⟩ := rp_bytesI h₂; with_reducible exact ge_bytes' (k _ s.toks rp_bool)) q
end
noncomputable def isN : V → Bool
  | .none => true
  | _ => false
theorem isN_of {W : Wd} {x : V} {v : Value} (r : Rp W σ x v) : (v == Value.none) = isN x := by
  cases x with
  | none => rw [rp_noneI r]; rfl
  | bool b => rw [rp_boolI r]; rfl
  | int i => obtain ⟨t, rfl⟩ := rp_intI r; rfl
  | bytes b => obtain ⟨t, rfl⟩ := rp_bytesI r; rfl
  | str => obtain ⟨x, t, rfl⟩ := rp_strI r; rfl
  | tup vs => obtain ⟨a, o, arr, n, rfl, _⟩ := rp_tupI r; rfl
  | lst vs => obtain ⟨a, o, arr, n, rfl, _⟩ := rp_lstI r; rfl
  | rng lo hi => obtain ⟨a, o, t, u, w, rfl, _⟩ := rp_rngI r; rfl
  | ref k => obtain ⟨rfl, _⟩ := rp_refI r; rfl
theorem C_is {x : V} {Q : V → St → Prop} (q : Q (.bool (isN x)) σ) : BinP u A l (compareOp .Is) x .none Q X σ :=
  .gives (fun W v w h₁ h₂ QC EC s k => by
    obtain rfl := rp_noneI h₂
    refine PySem.is_none ?_
    rw [isN_of h₁]; exact k _ s.toks rp_bool) q
theorem C_isnot {x : V} {Q : V → St → Prop} (q : Q (.bool (!isN x)) σ) : BinP u A l (compareOp .IsNot) x .none Q X σ :=
  .gives (fun W v w h₁ h₂ QC EC s k => by
    obtain rfl := rp_noneI h₂
    refine PySem.isNot_none ?_
    rw [isN_of h₁]; exact k _ s.toks rp_bool) q
theorem E_byt {x : List UInt8} {k : Nat} {pos : Pos} {Q : V → St → Prop} (q : Q (.bytes x) σ) : EOk u A l env Rp (eval (.Constant (.bytes x) k pos) env) ρ Q X σ :=
  fun W s H _ _ _ hq _ => Constant_bytes (hq _ (.bytes x) W σ s.heap _ (.refl H) rp_bytes q)
/-- a written whole number among the globals -/
theorem E_gint {x : Str} {pos : Pos} {i : Int} {Q : V → St → Prop} (C : ECx u A l env n hn kd) (hk : kd x = some .globalImplicit) (g : ∃ t, u.mg x = some (.int i t)) (q : Q (.int i) σ) : EOk u A l env Rp (eval (.Name x pos) env) ρ Q X σ := by
  intro W s H L QC EC hq he
  obtain ⟨t, hv⟩ := g
  have kk : env.kindOf x = some .globalImplicit := (C.kinds x _ hk).elim id fun z => nomatch z.1
  have hd := (Bool.or_eq_false_iff.mp (C.nodbg _ _ kk)).1
  exact Calls.Name_function_global C.kind kk (Calls.loadGlobal_global (mg := u.mg) (by rw [C.glob]; exact H.T.g) hv (hq _ (.int i) W σ s.heap s.toks (.refl H) rp_int q)) hd

/-! lists put together -/
theorem isTup_of {W : Wd} {h : Heap} (H : Hp u W σ l h) {xs : List V} {v : Value} (r : Rp W σ (.tup xs) v) : ∃ a arr, v = .ref a ∧ h.IsTuple a arr ∧ arr.size = xs.length ∧ RpL W σ xs arr.toList := by
  obtain ⟨a, o, arr, n, rfl, e, c, d, r⟩ := rp_tupI r
  exact ⟨a, arr, rfl, ⟨o, H.froz _ _ e, c, n, d⟩, by rw [← Array.length_toList, RepL.length r], r⟩
theorem B_addL {x y : List V} {Q : V → St → Prop} (ne : l ≠ []) (hz : x.length + y.length ≤ 16777216) (q : Q (.lst (x ++ y)) σ) : BinP u A l (binaryOp .Add) (.lst x) (.lst y) Q X σ := by
  intro W v w s H r₁ r₂ QC EC hq _
  obtain ⟨a, arr, rfl, i1, z1, rl1⟩ := isList_of H r₁
  obtain ⟨b, brr, rfl, i2, z2, rl2⟩ := isList_of H r₂
  obtain ⟨L, m, F, fL, nL⟩ := frame_at H ne
  refine add_lists (vs := arr.toList) (ws := brr.toList) F (newsA u.g₀ s.heap L) i1 i2 (fun h' F' N' => ?_) (line_le (by rw [Array.length_toList, Array.length_toList]; lcg_off))
  have st := Step.news (more := [(s.heap.objs.size, { cls := .type "list", data := .seq (arr.toList ++ brr.toList).toArray })]) H F fL nL F' N'
  have st' := Step.freeze H st (fresh_size _) (N' _ (.head _)).1
  have h' := hq (.ref s.heap.objs.size) (.lst (x ++ y)) _ σ h' s.toks st' (rp_lst add_here rfl rfl rfl (st'.rpL (RepL.append rl1 rl2))) q
  exact h'
theorem mul_exact {prog : Program} {w : World} {A : Around} {E : Value → Shared → Prop} {s : Shared} {l : Addr} {vs : List Value} {x : Int} {u : Tok} {Q : Value → Shared → Prop}
    (hl : s.heap.IsList l vs.toArray) (hlo : -(2 ^ 63 : Int) ≤ x) (hhi : x < 2 ^ 63) (hsz : vs.length * x.toNat ≤ 2 ^ 24)
    (h : Q (.ref s.heap.objs.size) { s with heap := s.heap.push { cls := Value.type "list", data := Data.seq (List.replicate x.toNat vs).flatten.toArray } }) :
    wpAny (model prog w) A (binaryOp .Mult (.ref l) (.int x u)) Q E s := by
  obtain ⟨⟨cls, d, data, sl⟩, ho, hcl, k, hd⟩ := id hl
  simp only at hcl hd
  subst hcl hd
  have hsz' : vs.toArray.size * x.toNat ≤ 2 ^ 24 := by simpa using hsz
  refine wpAny_binaryOp_repeat_ref (T := "list") (U := "int") (by decide) ⟨_, ho, rfl⟩ (fun s' => typeIs_int s' x u) noFill_list_mul F.fills_int_mul F.slot_int_rmul repeat_list F.slot_int_index.lookup
    (call_meets F.slot_int_rmul (typeIs_int s x u) F.entry_int_rmul (F.args_int_rmul_2 _ _) (lm_int_rmul_list_any x u l vs.toArray k d sl)
      ⟨ho, rfl, ⟨_, ho, rfl⟩, call_meets F.slot_list_mul ⟨_, ho, rfl⟩ F.entry_list_mul (F.args_list_mul_2 _ _)
        (lm_list_mul_any l vs.toArray k d sl x u (by simp [Builtin.List.listFitsIndex]; lcg_off) (by lcg_off) (by simp [Builtin.List.listTooLong, sizeLine]; lcg_off))
        ⟨ho, ?_⟩⟩)
  rw [listMul_foldl_if]
  exact h
theorem ints_app : ∀ {vs ws : List Value} {ns ms : List Int}, IntsAre vs ns → IntsAre ws ms → IntsAre (vs ++ ws) (ns ++ ms)
  | _, _, _, _, .nil, h => h
  | _, _, _, _, .cons i t r, h => .cons i t (ints_app r h)
theorem ints_rep {vs : List Value} {ns : List Int} (h : IntsAre vs ns) : ∀ k : Nat, IntsAre (List.replicate k vs).flatten (List.replicate k ns).flatten
  | 0 => .nil
  | k + 1 => by rw [List.replicate_succ, List.replicate_succ, List.flatten_cons, List.flatten_cons]; exact ints_app h (ints_rep h k)
theorem ints_to {W : Wd} : ∀ {is : List Int} {vs : List Value}, IntsAre vs is → RpL W σ (is.map V.int) vs
  | _, _, .nil => RepL.nil
  | _, _, .cons i t r => RepL.cons rp_int (ints_to r)
theorem B_mulL {is : List Int} {k : Int} {Q : V → St → Prop} (ne : l ≠ []) (hk : 0 ≤ k) (hz : is.length * k.toNat ≤ 1000000) (hk' : k ≤ 1000000) (q : Q (.lst ((List.replicate k.toNat is).flatten.map V.int)) σ) : BinP u A l (binaryOp .Mult) (.lst (is.map V.int)) (.int k) Q X σ := by
  intro W v w s H r₁ r₂ QC EC hq _
  obtain ⟨a, arr, rfl, i1, z1, rl1⟩ := isList_of H r₁
  obtain ⟨t, rfl⟩ := rp_intI r₂
  obtain ⟨L, m, F, fL, nL⟩ := frame_at H ne
  have ia := ints_of rl1
  refine mul_exact (vs := arr.toList) i1 (by lcg_off) (by lcg_off) (by rw [Array.length_toList, z1, List.length_map]; lcg_off) ?_
  have st := Step.pushF H ne { cls := Value.type "list", data := Data.seq (List.replicate k.toNat arr.toList).flatten.toArray } rfl
  exact hq _ (.lst _) _ σ _ s.toks st (rp_lst add_here rfl rfl rfl (ints_to (ints_rep ia k.toNat))) q
theorem byts_of {W : Wd} : ∀ {is : List (List UInt8)} {vs : List Value}, RpL W σ (is.map V.bytes) vs → BytsAre vs is
  | [], vs, h => by simp only [RpL, RepL, List.map_nil] at h; subst h; exact .nil
  | i :: r, vs, h => by
    simp only [RpL, RepL, List.map_cons] at h
    obtain ⟨v, vs', rfl, h1, h2⟩ := h
    obtain ⟨t, rfl⟩ := rp_bytesI h1
    exact .cons i t (byts_of h2)
theorem byts_to {W : Wd} : ∀ {is : List (List UInt8)} {vs : List Value}, BytsAre vs is → RpL W σ (is.map V.bytes) vs
  | _, _, .nil => RepL.nil
  | _, _, .cons i t r => RepL.cons rp_bytes (byts_to r)
theorem Sorted_any {xs : List V} {R : List V → Prop} {Q : V → St → Prop} (ne : l ≠ [])
    (hs : ∀ (W : Wd) (s : Shared) (a : Addr) (vs : List Value) (QC EC : Value → Shared → Prop), s.heap.IsList a vs.toArray → RpL W σ xs vs →
      (∀ (out : Array Value) (ys : List V), (∀ W', RpL W' σ ys out.toList) → R ys → QC (.ref (s.heap.objs.size + 1)) { s with heap := sortedAll s.heap vs out }) → wpAny u.M A (call (.builtin "sorted") [.ref a]) QC EC s)
    (q : ∀ ys, R ys → Q (.lst ys) σ) : BuiltP u A l (.builtin "sorted") [.lst xs] Q X σ := by
  intro W vals s H r QC EC hq _
  obtain ⟨v, rfl, r'⟩ := rpL1 r
  obtain ⟨a, arr, rfl, i1, z1, rl⟩ := isList_of H r'
  refine hs W s a arr.toList QC EC i1 rl fun out ys ry hR => ?_
  obtain ⟨L, m, F, fL, nL⟩ := frame_at H ne
  have keep : ∀ b o, s.heap.get? b = some o → (sortedAll s.heap arr.toList out).get? b = some o := fun _ _ => sortedAll_old
  have st := Step.grow H L m F.ns (F.kept keep).ns fL nL fun b o _ => keep b o
  obtain ⟨e, he⟩ := sortedAll_at s.heap arr.toList out
  have fr : s.heap.get? (s.heap.objs.size + 1) = none := by
    cases z : s.heap.get? (s.heap.objs.size + 1) with
    | none => rfl
    | some o => exact absurd (Heap.lt_size z) (Nat.not_lt.mpr (Nat.le_succ _))
  have st' := Step.freeze H st fr he
  exact hq _ (.lst ys) _ σ _ s.toks st' (rp_lst add_here rfl rfl rfl (ry _)) (q ys hR)
theorem Sorted_ints {is : List Int} {Q : V → St → Prop} (ne : l ≠ []) (h64 : is.length < 64) (q : ∀ ys : List Int, ys.Perm is → ys.Pairwise (· ≤ ·) → Q (.lst (ys.map V.int)) σ) : BuiltP u A l (.builtin "sorted") [.lst (is.map V.int)] Q X σ :=
  Sorted_any (R := fun zs => ∃ ys : List Int, zs = ys.map V.int ∧ ys.Perm is ∧ ys.Pairwise (· ≤ ·)) ne (fun W s a vs QC EC hl r k =>
    sorted_ints hl (ints_of r) (by have := RepL.length r; rw [List.length_map] at this; lcg_off) fun out ns a1 a2 a3 => k out _ (fun W' => ints_to a1) ⟨ns, rfl, a2, a3⟩) fun ys ⟨zs, e, p1, p2⟩ => e ▸ q zs p1 p2
theorem Sorted_byts {is : List (List UInt8)} {Q : V → St → Prop} (ne : l ≠ []) (h64 : is.length < 64) (q : ∀ ys : List (List UInt8), ys.Perm is → Q (.lst (ys.map V.bytes)) σ) : BuiltP u A l (.builtin "sorted") [.lst (is.map V.bytes)] Q X σ :=
  Sorted_any (R := fun zs => ∃ ys : List (List UInt8), zs = ys.map V.bytes ∧ ys.Perm is) ne (fun W s a vs QC EC hl r k =>
    sorted_byts hl (byts_of r) (by have := RepL.length r; rw [List.length_map] at this; lcg_off) fun out ns a1 a2 => k out _ (fun W' => byts_to a1) ⟨ns, rfl, a2⟩) fun ys ⟨zs, e, p1⟩ => e ▸ q zs p1
theorem C_neL {x y : List Int} {Q : V → St → Prop} (C : ECx u A l env (n + 1) hn kd) (q : Q (.bool (!decide (x = y))) σ) : BinP u A l (compareOp .NotEq) (.lst (x.map V.int)) (.lst (y.map V.int)) Q X σ := by
  intro W v w s H r₁ r₂ QC EC hq _
  obtain ⟨a, arr, rfl, i1, z1, rl1⟩ := isList_of H r₁
  obtain ⟨b, brr, rfl, i2, z2, rl2⟩ := isList_of H r₂
  refine ne_intsK (vs := arr.toList) (us := brr.toList) i1 (ints_of rl1) i2 (ints_of rl2) ?_ (hq _ _ W σ s.heap s.toks (.refl H) rp_bool q)
  have := C.units; lcg_off
theorem eqAt_bytes {s : Shared} {x y : List UInt8} {t t' : Tok} : SeqAt.EqAt A s (.bytes x.toArray t) (.bytes y.toArray t') (decide (x = y)) := fun prog w E Q hq => eqBool_bytes (by simpa using hq)
theorem rpL_two {W : Wd} {x y : V} {arr : Array Value} (h : RpL W σ [x, y] arr.toList) : ∃ v w, arr = #[v, w] ∧ Rp W σ x v ∧ Rp W σ y w := by
  obtain ⟨v, w, e, h1, h2⟩ := rpL2 h
  exact ⟨v, w, by rw [← Array.toList_inj]; exact e, h1, h2⟩
theorem C_eqT {a b c d : List UInt8} {Q : V → St → Prop} (C : ECx u A l env n hn kd) (q : Q (.bool (decide (a = c ∧ b = d))) σ) : BinP u A l (compareOp .Eq) (.tup [.bytes a, .bytes b]) (.tup [.bytes c, .bytes d]) Q X σ := by
  intro W v w s H r₁ r₂ QC EC hq _
  obtain ⟨x, arr, rfl, i1, z1, rl1⟩ := isTup_of H r₁
  obtain ⟨y, brr, rfl, i2, z2, rl2⟩ := isTup_of H r₂
  obtain ⟨v1, v2, rfl, e1, e2⟩ := rpL_two rl1
  obtain ⟨w1, w2, rfl, e3, e4⟩ := rpL_two rl2
  obtain ⟨t1, rfl⟩ := rp_bytesI e1
  obtain ⟨t2, rfl⟩ := rp_bytesI e2
  obtain ⟨t3, rfl⟩ := rp_bytesI e3
  obtain ⟨t4, rfl⟩ := rp_bytesI e4
  refine SeqAt.eq_tupleAt (e := fun j => if j = 0 then decide (a = c) else decide (b = d)) i1 i2 (by have := C.units; lcg_off) (fun j h1 h2 => ?_) ?_
  · match j, h1 with
    | 0, _ => exact eqAt_bytes
    | 1, _ => exact eqAt_bytes
  · have e : ((List.range (min (#[Value.bytes a.toArray t1, Value.bytes b.toArray t2] : Array Value).size (#[Value.bytes c.toArray t3, Value.bytes d.toArray t4] : Array Value).size)).all (fun j => if j = 0 then decide (a = c) else decide (b = d)) &&
        (#[Value.bytes a.toArray t1, Value.bytes b.toArray t2] : Array Value).size == (#[Value.bytes c.toArray t3, Value.bytes d.toArray t4] : Array Value).size) = decide (a = c ∧ b = d) := by
      simp [List.range_succ]
    rw [e]
    exact hq _ _ W σ s.heap s.toks (.refl H) rp_bool q
theorem C_notin {x : List UInt8} {ys : List (List UInt8)} {Q : V → St → Prop} (q : Q (.bool (!decide (x ∈ ys))) σ) : BinP u A l (compareOp .NotIn) (.bytes x) (.lst (ys.map V.bytes)) Q X σ := by
  intro W v w s H r₁ r₂ QC EC hq _
  obtain ⟨t, rfl⟩ := rp_bytesI r₁
  obtain ⟨b, brr, rfl, i2, z2, rl2⟩ := isList_of H r₂
  have ba := byts_of rl2
  refine SeqAt.notIn_listAt (fun y => decide (bytOf y = x)) i2 (fun y hy => ?_) ?_
  · obtain ⟨z, t', rfl⟩ := ba.all y (by simpa using hy)
    have := eqAt_bytes (A := A.in1) (s := s) (x := z.toList) (y := x) (t := t') (t' := t)
    rw [show decide (bytOf (.bytes z t') = x) = decide (z.toList = x) from decide_eq_decide.mpr Iff.rfl]
    exact this
  · have e : brr.any (fun y => decide (bytOf y = x)) = decide (x ∈ ys) := by
      rw [← Array.any_toList, ← ba.byts]
      rw [Bool.eq_iff_iff, List.any_eq_true, decide_eq_true_eq, List.mem_map]
      simp only [decide_eq_true_eq]
    rw [e]
    exact hq _ _ W σ s.heap s.toks (.refl H) rp_bool q
end
section
open Builtin
theorem bb_special : typeLookup (.type "bytes") "__bytes__" = pure (some (.builtin "bytes.__bytes__")) := by rw [typeLookup_type, builtinLookup_eq_fast]; kernel_rfl
variable {prog : Program} {w : World} {A : Around} {E : Value → Shared → Prop} {s : Shared}
theorem bb_new {b : Array UInt8} {t : Tok} {Q : Value → Shared → Prop} (h : Q (.bytes b t) s) :
    codeAny (model prog w) A (.call (.builtin "bytes.__new__") ⟨[.type "bytes", .bytes b t], []⟩) (wants Q E) s := by
  refine codeAny_of_tree ?_
  show wpAny _ A.in1 (do checkBuiltinCall "bytes.__new__" ⟨[.type "bytes", .bytes b t], []⟩; again (.builtin "bytes.__new__" ⟨[.type "bytes", .bytes b t], []⟩)) _ _ s
  refine wpAny_bind (wpAny_of_eq (F.bm_newCall _) (wpAny_pure ⟨plainId_quiet F.bm_plain _, codeAny_builtin F.bm_entry ?_⟩))
  rw [Around.under_plainId F.bm_plain _]
  have hT : s.TypeIs (.bytes b t) "bytes" := rfl
  unfold Builtin.«bytes.__new__»
  refine wpAny_bind (wpAny_of_eq (a := true) rfl ?_)
  refine bm_if_false rfl ?_
  refine wpAny_bind (wpAny_of_eq F.bm_sub ?_)
  refine bm_if_false rfl ?_
  refine wpAny_bind (wpAny_of_eq (F.bm_bind _) ?_)
  refine wpAny_bind (wpAny_of_eq (a := ()) rfl ?_)
  refine wpAny_bind (wpAny_of_eq (a := ()) rfl ?_)
  refine bm_if_false rfl ?_
  refine wpAny_bind (wpAny_specialOf hT bb_special ?_)
  refine wpAny_bind (wpAny_rule ?_)
  refine wpAny_bind (wpAny_of_eq (a := .type "bytes") rfl ?_)
  refine bm_if_true (by decide) ?_
  show wpAny _ _ (if (Value.type "bytes" == Value.type "bytes") = true then _ else _) _ _ _
  refine bm_if_true (by decide) ?_
  exact wpAny_pure h
theorem call_bytes_bytes {b : Array UInt8} {t : Tok} {Q : Value → Shared → Prop} (h : Q (.bytes b t) s) : wpAny (model prog w) A (call (.type "bytes") [.bytes b t]) Q E s := by
  refine callType_codes (Q₁ := fun obj s₁ => s₁.TypeIs obj "bytes" ∧ Q obj s₁) F.bm_called (F.bm_typeCall _) F.entry_object_init
    (bb_new ⟨PySem.W.typeIs_bytes _ _ _, h⟩) fun obj s₁ h₁ => ?_
  exact ⟨h₁.1, F.args_object_init_2 obj _, object_init_meets F.bm_called.init.lookup F.bm_called.made (by decide) prog w A.in1 _ s₁ ⟨h₁.1, rfl, h₁.2⟩⟩
end

section
variable {u : Uni} {A : Around} {l : List Env} {env : Env} {ρ : Loc} {σ : St} {n : Nat} {hn : Bool} {kd : Str → Option NameKind}
theorem Bytes_bytes {X : Exn → St → Prop} {d : List UInt8} {Q : V → St → Prop} (q : Q (.bytes d) σ) : BuiltP u A l (.type "bytes") [.bytes d] Q X σ := by
  intro W vs s H rr QC EC hq he
  obtain ⟨v, rfl, r⟩ := rpL1 rr
  obtain ⟨t, rfl⟩ := rp_bytesI r
  exact call_bytes_bytes (hq _ (.bytes d) W σ s.heap s.toks (.refl H) rp_bytes q)

/-! a name read, as itself -/
theorem E_load {X : Exn → St → Prop} {x : Str} {y : V} {Q : V → St → Prop} (C : ECx u A l env n hn kd) (hl : lk ρ x = some y) (q : Q y σ) : EOk u A l env Rp (loadName env x) ρ Q X σ := by
  intro W s H L QC EC hq he
  have v := L.var x y hl
  unfold VarAt at v
  split at v
  · rename_i z
    obtain ⟨hd, hc⟩ := Bool.or_eq_false_iff.mp (C.nodbg _ _ z)
    obtain ⟨m, w, a, b, c⟩ := v
    with_reducible exact wpAny_loadName_local C.kind z a b (hq w y W σ s.heap s.toks (.refl H) c q)
  · rename_i z
    obtain ⟨hd, hc⟩ := Bool.or_eq_false_iff.mp (C.nodbg _ _ z)
    obtain ⟨c, w, a, b, r⟩ := v
    with_reducible exact wpAny_loadName_cell C.kind z a b (hq w y W σ s.heap s.toks (.refl H) r q)
  · rename_i z
    obtain ⟨hd, hc⟩ := Bool.or_eq_false_iff.mp (C.nodbg _ _ z)
    obtain ⟨c, w, a, b, r⟩ := v
    with_reducible exact wpAny_loadName_free C.kind z a b (hq w y W σ s.heap s.toks (.refl H) r q) hc
  · exact v.elim
section
variable {X : Exn → Loc → St → Prop} {N : Loc → St → Prop} {R : V → St → Prop}
theorem S_aug {x : Str} {np pos : Pos} {op : Operator} {e : Expr} {y : V} (C : ECx u A l env n hn kd) (hk : kd x = some .local ∨ kd x = some .cell) (hl : lk ρ x = some y)
    (h : EOk u A l env Rp (eval e env) ρ (fun v σ₁ => BinP u A l (inplaceOp op) y v (fun r σ₂ => N (stl ρ x r) σ₂) (fun c σ' => X c ρ σ') σ₁) (fun c σ' => X c ρ σ') σ) :
    SOk u A l env (exec (.AugAssign (.Name x np) op e pos) env) ρ N R X σ := by
  intro W s H L QC EC hq hr he
  refine wpAny_AugAssign_Name ?_
  refine (E_load (X := fun c σ' => X c ρ σ') (Q := fun z σ₁ => z = y ∧ σ₁ = σ) C hl ⟨rfl, rfl⟩).use H L (fun v z W₁ σ₁ h₁ tk₁ st₁ L₁ r₁ q₁ => ?_) he
  obtain ⟨rfl, rfl⟩ := q₁
  refine h.use (s := ⟨h₁, s.gens, s.drawn, tk₁, s.os⟩) st₁.hp L₁ (fun w z' W₂ σ₂ h₂ tk₂ st₂ L₂ r₂ q₂ => ?_) (fun e c ρ' W' σ' h' tk st L' x q => he e c ρ' W' σ' h' tk ((st₁.wider fun _ => noOwn_own).trans st) L' (x.older st₁.dm) q)
  have s12 := st₁.trans st₂
  refine q₂ W₂ v w ⟨h₂, s.gens, s.drawn, tk₂, s.os⟩ st₂.hp (st₂.rp r₁) r₂ _ _ (fun r z W₃ σ₃ h₃ tk₃ st₃ r₃ q₃ => ?_) (fun e c W' σ' h' tk st x q => he e c ρ W' σ' h' tk ((s12.trans st).wider fun _ => noOwn_own) (L₂.stepE st) (x.older s12.dm) q)
  have s13 := s12.trans st₃
  exact store_ok (s := ⟨h₃, s.gens, s.drawn, tk₃, s.os⟩) C hk st₃.hp (L₂.stepE st₃) r₃ (ownOf env) (fun _ q => q) fun h' tk st L' => hq _ W₃ σ₃ h' tk ((s13.wider fun _ => noOwn_own).trans st) L' q₃
theorem S_augA {o : Expr} {x : Str} {np pos : Pos} {op : Operator} {e : Expr} (C : ECx u A l env n hn kd)
    (h : EOk u A l env Rp (eval o env) ρ (fun ov σ₁ => ∃ k c fs y, ov = .ref k ∧ σ₁.get k = .inst c fs ∧ x ∈ fldNames ∧ lk fs x = some y ∧
      EOk u A l env Rp (eval e env) ρ (fun v σ₂ => BinP u A l (inplaceOp op) y v (fun r σ₃ => ∃ fs, σ₃.get k = .inst c fs ∧ (stl fs x r).length ≤ 100 ∧ N ρ (σ₃.set k (.inst c (stl fs x r)))) (fun c σ' => X c ρ σ') σ₂) (fun c σ' => X c ρ σ') σ₁) (fun c σ' => X c ρ σ') σ) :
    SOk u A l env (exec (.AugAssign (.Attribute o x np) op e pos) env) ρ N R X σ := by
  intro W s H L QC EC hq hr he
  refine wpAny_AugAssign_AttributeAny ?_
  refine h.use H L (fun v z W₁ σ₁ h₁ tk₁ st₁ L₁ r₁ q₁ => ?_) he
  obtain ⟨k, c, fs, y, rfl, hc, hf, hl, q₁⟩ := q₁
  obtain ⟨rfl, lv⟩ := rp_refI r₁
  refine Attr_get (X := fun c σ' => X c ρ σ') (Q := fun z σ' => z = y ∧ σ' = σ₁) C hc hf hl ⟨rfl, rfl⟩ W₁ _ ⟨h₁, s.gens, s.drawn, tk₁, s.os⟩ st₁.hp (rp_ref lv) _ _ (fun v z W₂ σ₂ h₂ tk₂ st₂ r₂ q₂ => ?_)
    (fun e c W' σ' h' tk st x q => he e c ρ W' σ' h' tk ((st₁.trans st).wider fun _ => noOwn_own) (L₁.stepE st) (x.older st₁.dm) q)
  obtain ⟨rfl, rfl⟩ := q₂
  have s12 := st₁.trans st₂
  have L₂ := L₁.stepE st₂
  refine q₁.use (s := ⟨h₂, s.gens, s.drawn, tk₂, s.os⟩) st₂.hp L₂ (fun w z' W₃ σ₃ h₃ tk₃ st₃ L₃ r₃ q₃ => ?_) (fun e c ρ' W' σ' h' tk st L' x q => he e c ρ' W' σ' h' tk ((s12.wider fun _ => noOwn_own).trans st) L' (x.older s12.dm) q)
  have s13 := s12.trans st₃
  refine q₃ W₃ v w ⟨h₃, s.gens, s.drawn, tk₃, s.os⟩ st₃.hp (st₃.rp r₂) r₃ _ _ (fun r z W₄ σ₄ h₄ tk₄ st₄ r₄ q₄ => ?_) (fun e c W' σ' h' tk st x q => he e c ρ W' σ' h' tk ((s13.trans st).wider fun _ => noOwn_own) (L₃.stepE st) (x.older s13.dm) q)
  have s14 := s13.trans st₄
  obtain ⟨fs', hc', hz, q⟩ := q₄
  have ea : W₄.al k = W₁.al k := ((st₂.trans (st₃.trans st₄)).al k lv).1
  rw [← ea]
  refine Attr_set (s := ⟨h₄, s.gens, s.drawn, tk₄, s.os⟩) C.ne st₄.hp hc' hf hz r₄ fun h' st => ?_
  exact hq ρ W₄ _ h' _ ((s14.trans st).wider fun _ => noOwn_own) ((L₃.stepE st₄).stepE st) q
end
end
section
variable {u : Uni} {A : Around} {l : List Env} {env : Env} {ρ : Loc} {X : Exn → St → Prop} {σ : St} {n : Nat} {hn : Bool} {kd : Str → Option NameKind}
inductive FPart (ρ : Loc) : Expr → Prop
  | lit (x : Str) (k : Nat) (pos : Pos) (h : x.length ≤ 300) : FPart ρ (.Constant (.str x) k pos)
  | val (x : Str) (p pos : Pos) (i : Int) (h : lk ρ x = some (.int i)) (hi : i.natAbs < 10 ^ 40) : FPart ρ (.FormattedValue (.Name x p) (-1) none pos)
theorem joins_ok (C : ECx u A l env n hn kd) : ∀ (ps : List Expr), (∀ e ∈ ps, FPart ρ e) → ∀ (acc : Str) (W : Wd) (s : Shared), acc.length + 400 * ps.length ≤ 16777216 → Hp u W σ l s.heap → Lo W σ env s.heap ρ →
    ∀ {Q : Str → Shared → Prop} {EC : Value → Shared → Prop}, (∀ (out : Str) W' h' tk, Step u l noOwn W σ s.heap W' σ h' → out.length ≤ sizeLine → Q out ⟨h', s.gens, s.drawn, tk, s.os⟩) → Joins u.M A EC (evalEach ps env) acc Q s
  | [], _, acc, W, s, hz, H, L, Q, EC, hq => hq acc W s.heap s.toks (.refl H) (line_le (by simpa using hz))
  | e :: r, hp, acc, W, s, hz, H, L, Q, EC, hq => by
    rw [List.length_cons] at hz
    show wpAny u.M A (eval e env) (fun v s₁ => ∃ y t, v = .str y t ∧ (acc ++ y).length ≤ sizeLine ∧ Joins u.M A EC (evalEach r env) (acc ++ y) Q s₁) EC s
    have hr : ∀ e ∈ r, FPart ρ e := fun e he => hp e (.tail _ he)
    have key : ∀ (y : Str) W₁ h₁ tk, Step u l noOwn W σ s.heap W₁ σ h₁ → y.length ≤ 400 → (acc ++ y).length ≤ sizeLine ∧ Joins u.M A EC (evalEach r env) (acc ++ y) Q ⟨h₁, s.gens, s.drawn, tk, s.os⟩ := fun y W₁ h₁ tk st hy => by
      have : (acc ++ y).length + 400 * r.length ≤ 16777216 := by rw [strLen_append]; lcg_off
      exact ⟨line_le (by lcg_off), joins_ok C r hr (acc ++ y) W₁ ⟨h₁, s.gens, s.drawn, tk, s.os⟩ this st.hp (L.stepE st) fun out W' h' tk st' ho => hq out W' h' tk (st.trans st') ho⟩
    cases hp e (.head _) with
    | lit x k pos h =>
      refine wpAny_Constant_str ?_
      exact ⟨x, _, rfl, key x W s.heap _ (.refl H) (by lcg_off)⟩
    | val x p pos i h hi =>
      have hd : i.natAbs.log2 < 200 := by
        by_cases h0 : i.natAbs = 0
        · rw [h0]; decide
        · exact (Nat.log2_lt h0).mpr (Nat.lt_trans hi (by decide))
      refine wpAny_FormattedValue_plain ?_
      refine E_local (X := fun _ _ => False) (Q := fun z σ₁ => z = .int i ∧ σ₁ = σ) C h ⟨rfl, rfl⟩ W s H L _ EC (fun v z W₁ σ₁ h₁ tk₁ st₁ r₁ q₁ => ?_) (fun _ _ _ _ _ _ _ _ q => q.elim)
      obtain ⟨rfl, rfl⟩ := q₁
      obtain ⟨t, rfl⟩ := rp_intI r₁
      refine wpAny_formatField_int (by lcg_off) ?_
      refine ⟨_, _, rfl, key _ W₁ h₁ _ st₁ ?_⟩
      have := int_text_length_le (a := i) (k := 200) (by decide) hd
      show (Str.ofString (toString i)).length ≤ 400
      rw [PySem.ofString_length]; lcg_off
theorem E_fstr {ps : List Expr} {v₁ v₂ : Expr} {r : List Expr} {pos : Pos} {Q : V → St → Prop} (C : ECx u A l env n hn kd) (he : ps = v₁ :: v₂ :: r) (hp : ∀ e ∈ ps, FPart ρ e) (hz : ps.length ≤ 100) (q : Q .str σ) : EOk u A l env Rp (eval (.JoinedStr ps pos) env) ρ Q X σ := by
  subst he
  intro W s H L QC EC hq he
  refine wpAny_JoinedStr (joins_ok C _ hp Str.empty W s (by rw [show Str.empty.length = 0 from rfl]; lcg_off) H L fun out W' h' tk st ho => ⟨ho, ?_⟩)
  exact hq _ .str W' σ h' _ st rp_str q
end
section
variable {u : Uni} {A : Around} {l : List Env} {env : Env} {ρ : Loc} {σ : St} {n : Nat} {hn : Bool} {kd : Str → Option NameKind}
theorem Step.freshOwn {W W' : Wd} {σ' : St} {h h' : Heap} {own : Addr → Prop} (S : Step u l own W σ h W' σ' h') (f : ∀ a, own a → h.get? a = none) : Step u l noOwn W σ h W' σ' h' :=
  ⟨S.hp, S.le, S.al, fun b o e nm _ => S.up b o e nm (fun q => by rw [f b q] at e; cases e), S.nm, S.nf, S.dm⟩
theorem Step.transF {W₀ W W' : Wd} {σ₀ σ' : St} {h₀ h h' : Heap} {own : Addr → Prop} (S : Step u l noOwn W₀ σ₀ h₀ W σ h) (T : Step u l own W σ h W' σ' h') (f : ∀ a, own a → h₀.get? a = none) : Step u l noOwn W₀ σ₀ h₀ W' σ' h' :=
  ((S.wider (own' := own) fun _ q => q.elim).trans T).freshOwn f
/-- the frames stood there at the start -/
theorem frm_old {W₀ : Wd} {σ₀ : St} {h₀ : Heap} (H₀ : Hp u W₀ σ₀ l h₀) {a : Addr} (ha : h₀.get? a = none) : ∀ e ∈ l, e.frame ≠ some a := fun e he q => by
  obtain ⟨_, L, m, a2, a3, _⟩ := H₀.frm e he
  rw [q] at a2; cases a2
  obtain ⟨o, ho, _⟩ := ns_iff.mp a3
  rw [ha] at ho; cases ho
theorem Step.touch2 {own : Addr → Prop} {W₀ W : Wd} {σ₀ : St} {h₀ h h' : Heap} {a : Addr} (H₀ : Hp u W₀ σ₀ l h₀) (S : Step u l own W₀ σ₀ h₀ W σ h) (ha : h₀.get? a = none) (fa : W.F a = none) (na : ∀ k, ¬ MutK W σ k a)
    (keep : ∀ b o, b ≠ a → h.get? b = some o → h'.get? b = some o) : Step u l own W₀ σ₀ h₀ W σ h' := by
  have H := S.hp
  refine ⟨⟨H.base, fun b o e => keep b o (fun q => by rw [q, fa] at e; cases e) (H.froz b o e), fun k => ?_, H.mutF, H.sep, H.sepi, fun e he => ?_⟩, S.le, S.al, fun b o e nm no => ?_, S.nm, S.nf, fun b o e => ?_⟩
  · refine cell_mono (fun _ _ r => r) (fun _ _ r => r) rfl rfl (fun o lv e => keep _ o (fun q => ?_) e) (fun o c' fs ec e => keep _ o (fun q => ?_) e) (H.cell k)
    · refine na k ?_
      unfold MutK
      cases ec : σ.get k with
      | dead => rw [ec] at lv; exact lv.elim
      | lst p vs => exact q.symm
      | inst c' fs => exact .inl q.symm
    · refine na k ?_
      unfold MutK; rw [ec]; exact .inr q.symm
  · obtain ⟨a1, L', m', a2, a3, a4⟩ := H.frm e he
    obtain ⟨o, ho, n1⟩ := ns_iff.mp a3
    exact ⟨a1, L', m', a2, ns_iff.mpr ⟨o, keep _ _ (fun q => frm_old H₀ ha e he (q ▸ a2)) ho, n1⟩, a4⟩
  · obtain ⟨o', e', s'⟩ := S.up b o e nm no
    exact ⟨o', keep b o' (fun q => by rw [q, ha] at e; cases e) e', s'⟩
  · obtain ⟨o', e'⟩ := S.dm b o e
    exact ⟨o', keep b o' (fun q => by rw [q, ha] at e; cases e) e'⟩
/-- an object of our own making, now frozen -/
theorem Step.adopt {own : Addr → Prop} {W₀ W : Wd} {σ₀ : St} {h₀ h : Heap} {a : Addr} {o : Obj} (H₀ : Hp u W₀ σ₀ l h₀) (S : Step u l own W₀ σ₀ h₀ W σ h) (ha : h₀.get? a = none) (fa : W.F a = none) (na : ∀ k, ¬ MutK W σ k a)
    (hh : h.get? a = some o) : Step u l own W₀ σ₀ h₀ (W.add a o) σ h := by
  have H := S.hp
  have m1 : ∀ x v, Rp W σ x v → Rp (W.add a o) σ x v := fun _ _ r => Rep.mono (W := W) (W' := W.add a o) (add_le fa) (fun k e => ⟨rfl, e⟩) _ _ r
  have m2 : ∀ x v, RpL W σ x v → RpL (W.add a o) σ x v := fun _ _ r => RepL.mono (W := W) (W' := W.add a o) (add_le fa) (fun k e => ⟨rfl, e⟩) _ _ r
  refine ⟨⟨fun b x e => add_le fa _ _ (H.base b x e), fun b x e => ?_, fun k => ?_, fun k b e => ?_, fun k k' b e e' => H.sep k k' b (mutAdd.mp e) (mutAdd.mp e'), H.sepi, fun e he => ?_⟩, fun b x e => add_le fa _ _ (S.le b x e), S.al, S.up, fun k b e => S.nm k b (mutAdd.mp e), fun b x e => ?_, S.dm⟩
  · by_cases q : b = a
    · subst q
      rw [add_here] at e; cases e; exact hh
    · exact H.froz b x (by unfold Wd.add at e; simpa [q] using e)
  · exact cell_mono m1 m2 rfl rfl (fun _ _ e => e) (fun _ _ _ _ e => e) (H.cell k)
  · have e := mutAdd.mp e
    have : b ≠ a := fun q => by subst q; exact na k e
    show (if b = a then some o else W.F b) = none
    rw [if_neg this]; exact H.mutF k b e
  · obtain ⟨a1, L', m', a2, a3, a4, a5, a6⟩ := H.frm e he
    refine ⟨a1, L', m', a2, a3, ?_, a5, fun k q => a6 k (mutAdd.mp q)⟩
    show (if L' = a then some o else W.F L') = none
    have : L' ≠ a := fun q => frm_old H₀ ha e he (by rw [← q]; exact a2)
    rw [if_neg this]; exact a4
  · by_cases q : b = a
    · subst q; exact .inr ha
    · exact S.nf b x (by unfold Wd.add at e; simpa [q] using e)
/-- what a run does not know of stays -/
theorem obj_stays {own : Addr → Prop} {W W' : Wd} {σ' : St} {h h' : Heap} {a : Addr} {o : Obj} (S : Step u l own W σ h W' σ' h') (no : ¬ own a) (ho : h.get? a = some o) (hd : ∀ es ep, o.data ≠ .dict es ep) (fa : W.F a = none) (na : ∀ k, ¬ MutK W σ k a) :
    h'.get? a = some o ∧ W'.F a = none ∧ ∀ k, ¬ MutK W' σ' k a := by
  obtain ⟨o', ho', s⟩ := S.up a o ho na no
  obtain rfl := s.eq hd
  refine ⟨ho', ?_, fun k q => ?_⟩
  · cases e : W'.F a with
    | none => rfl
    | some x => rcases S.nf a x e with q | q
                · rw [fa] at q; cases q
                · rw [ho] at q; cases q
  · rcases S.nm k a q with z | z
    · exact na k z
    · rw [ho] at z; cases z
theorem Lo.sub {W : Wd} {h : Heap} {ρ' : Loc} (x : Lo W σ env h ρ) (s : ∀ y z, lk ρ' y = some z → lk ρ y = some z) : Lo W σ env h ρ' :=
  ⟨fun y z e => x.var y z (s y z e), x.ns, x.lfree, x.cfree, x.cinj, x.cdef⟩
/-- a store into the frame's own table -/
theorem store_loc {x : Str} {y : V} {v : Value} {W : Wd} {s : Shared} (ck : env.scope.kind = .function) (hk : env.kindOf x = some .local) (H : Hp u W σ l s.heap) (L : Lo W σ env s.heap ρ) (r : Rp W σ y v)
    {QC : Unit → Shared → Prop} {EC : Value → Shared → Prop} (own : Addr → Prop) (ow : own env.locals)
    (hq : ∀ h' tk, Step u l own W σ s.heap W σ h' → Lo W σ env h' (stl ρ x y) → (∀ b, b ≠ env.locals → h'.get? b = s.heap.get? b) → QC () ⟨h', s.gens, s.drawn, tk, s.os⟩) : wpAny u.M A (storeName env x v) QC EC s := by
  obtain ⟨m, hm⟩ := L.ns
  have z := hk
  · refine wpAny_storeName_local z hm (fun h' hn' hs => hq h' _ (Step.own H ow L.lfree.1 L.lfree.2 hs.2 (fun _ _ => ⟨_, hn'⟩) (let ⟨o, e, _⟩ := ns_iff.mp hn'; ⟨o, e⟩)) ?_ hs.2) (by rw [ck]; rfl)
    have cl : ∀ {c w}, s.heap.IsCell c w → h'.IsCell c w := fun ic => ic.sameBut hs fun q => cell_ns (q ▸ ic) hm
    refine ⟨fun y' z' e => ?_, ⟨_, hn'⟩, L.lfree, fun y' c e => ?_, L.cinj, L.cdef⟩
    · rw [lk_stl] at e
      unfold VarAt
      by_cases q : x = y'
      · subst q
        rw [if_pos rfl] at e; cases e
        rw [z]
        exact ⟨_, v, hn', by simp, r⟩
      · rw [if_neg q] at e
        have vv := L.var y' z' e
        unfold VarAt at vv
        split at vv
        · rename_i zk
          obtain ⟨m₂, w, a, b, c⟩ := vv
          have : m = m₂ := by
            obtain ⟨o, ho, n1⟩ := ns_iff.mp hm
            obtain ⟨o', ho', n2⟩ := ns_iff.mp a
            rw [ho] at ho'; cases ho'
            exact n1.inj n2
          subst this
          exact ⟨_, w, hn', by simp [Ne.symm q, b], c⟩
        · obtain ⟨c, w, a, b, d⟩ := vv; exact ⟨c, w, a, cl b, d⟩
        · obtain ⟨c, w, a, b, d⟩ := vv; exact ⟨c, w, a, cl b, d⟩
        · exact vv
    · obtain ⟨a, b, w, c⟩ := L.cfree y' c e; exact ⟨a, b, w, cl c⟩

/-! an iterator over plain values -/
noncomputable def ItAt (W : Wd) (σ : St) (h : Heap) (it : Addr) (xs : List V) (i : Nat) : Prop :=
  (∃ ad o arr n', W.F ad = some o ∧ o.cls = .type "list" ∧ o.data = .seq arr n' ∧ RpL W σ xs arr.toList ∧ h.IsListIter it ad i) ∨
  (∃ lo hi, xs = rngL lo hi ∧ IsRangeIter h it (lo + (i : Nat)) ((if lo < hi then hi - lo else 0) - (i : Nat)) 1)
theorem ItAt.rec {W : Wd} {h : Heap} {it : Addr} {xs : List V} {i : Nat} (x : ItAt W σ h it xs i) : IsRec h it := by
  rcases x with ⟨ad, o, arr, n', _, _, _, _, z⟩ | ⟨lo, hi, _, z⟩
  · obtain ⟨o, a, _, b⟩ := z; exact ⟨o, _, a, b⟩
  · exact ⟨_, _, z, rfl⟩
theorem ItAt.mono {W W' : Wd} {σ' : St} {h h' : Heap} {it : Addr} {xs : List V} {i : Nat} (x : ItAt W σ h it xs i) (le : ∀ a o, W.F a = some o → W'.F a = some o) (rl : ∀ xs vs, RpL W σ xs vs → RpL W' σ' xs vs) (e : h'.get? it = h.get? it) : ItAt W' σ' h' it xs i := by
  rcases x with ⟨ad, o, arr, n', a, b, c, d, z⟩ | ⟨lo, hi, a, z⟩
  · obtain ⟨o', z1, z2, z3⟩ := z
    exact .inl ⟨ad, o, arr, n', le _ _ a, b, c, rl _ _ d, o', e.trans z1, z2, z3⟩
  · exact .inr ⟨lo, hi, a, e.trans z⟩
theorem It_next {W : Wd} {s : Shared} {it : Addr} {xs : List V} {i : Nat} (C : ECx u A l env n hn kd) (hh : hn = true) (H : Hp u W σ l s.heap) (I : ItAt W σ s.heap it xs i) {QC : Option Value → Shared → Prop} {EC : Value → Shared → Prop}
    (h1 : ∀ y, xs[i]? = some y → ∀ v h' tk, Rp W σ y v → ItAt W σ h' it xs (i + 1) → Heap.SameBut it s.heap h' → QC (some v) ⟨h', s.gens, s.drawn, tk, s.os⟩)
    (h2 : xs[i]? = none → ∀ h' tk, (∀ b o, b ≠ it → s.heap.get? b = some o → h'.get? b = some o) → QC none ⟨h', s.gens, s.drawn, tk, s.os⟩) : wpAny u.M A (pyNext (.ref it)) QC EC s := by
  rcases I with ⟨ad, o, arr, n', a, b, c, rl, z⟩ | ⟨lo, hi, rfl, z⟩
  · have il : s.heap.IsList ad arr := ⟨o, H.froz _ _ a, b, n', c⟩
    have ln : arr.toList.length = xs.length := RepL.length rl
    cases e : xs[i]? with
    | some y =>
      obtain ⟨v, hv, rv⟩ := RepL.get rl e
      exact wpAny_pyNext_list_item z il (by rw [← Array.getElem?_toList]; exact hv) fun h₃ it₃ sb => h1 y e v h₃ s.toks rv (.inl ⟨ad, o, arr, n', a, b, c, rl, it₃⟩) sb
    | none =>
      have : xs.length ≤ i := List.getElem?_eq_none_iff.mp e
      exact wpAny_pyNext_list_end (C.hand hh) z il (by rw [← Array.getElem?_toList]; exact List.getElem?_eq_none (by lcg_off)) fun h₃ ex => h2 e h₃ s.toks fun b o q e => ex b o q e
  · by_cases hlt : (i : Int) < hi - lo
    · refine wpAny_pyNext_range_item z (by rw [if_pos (by lcg_off)]; lcg_off) fun h₃ it₃ sb => ?_
      refine h1 (.int (lo + i)) (rngL_get hlt) (.int (lo + i) s.toks) h₃ _ rp_int (.inr ⟨lo, hi, rfl, ?_⟩) sb
      have e1 : lo + ((i + 1 : Nat) : Int) = lo + (i : Int) + 1 := by push_cast; lcg_off
      have e2 : (if lo < hi then hi - lo else 0) - ((i + 1 : Nat) : Int) = (if lo < hi then hi - lo else 0) - (i : Int) - 1 := by push_cast; lcg_off
      rw [e1, e2]; exact it₃
    · have e : (rngL lo hi)[i]? = none := List.getElem?_eq_none (by rw [rngL_len]; lcg_off)
      exact wpAny_pyNext_range_end (C.hand hh) z (by split <;> lcg_off) fun h₃ ex => h2 e h₃ s.toks fun b o q e => ex b o q e
theorem It_again {W : Wd} {s : Shared} {it : Addr} {xs : List V} {i : Nat} (I : ItAt W σ s.heap it xs i) {QC EC : Value → Shared → Prop} (h : QC (.ref it) s) : wpAny u.M A (pyIter (.ref it)) QC EC s := by
  rcases I with ⟨ad, o, arr, n', a, b, c, rl, z⟩ | ⟨lo, hi, rfl, z⟩
  · exact wpAny_pyIter_listiter z h
  · exact wpAny_pyIter_rangeiter z h
/-- what can be gone through -/
noncomputable def Items (w : V) (xs : List V) : Prop := w = .lst xs ∨ ∃ lo hi, w = .rng lo hi ∧ xs = rngL lo hi ∧ (-(2 ^ 62) ≤ lo ∧ lo < 2 ^ 62 ∧ -(2 ^ 62) ≤ hi ∧ hi < 2 ^ 62)
theorem It_start {W : Wd} {s : Shared} {w : V} {v : Value} {xs : List V} (ne : l ≠ []) (hI : Items w xs) (H : Hp u W σ l s.heap) (r : Rp W σ w v) {QC EC : Value → Shared → Prop}
    (h : ∀ h', Step u l noOwn W σ s.heap W σ h' → (∀ b o, s.heap.get? b = some o → h'.get? b = some o) → ItAt W σ h' s.heap.objs.size xs 0 → QC (.ref s.heap.objs.size) { s with heap := h' }) : wpAny u.M A (pyIter v) QC EC s := by
  rcases hI with rfl | ⟨lo, hi, rfl, rfl, b1, b2, b3, b4⟩
  · obtain ⟨ad, o, arr, n', rfl, hF, hc, hd, hdi, rl⟩ := rp_lstI r
    refine wpAny_pyIter_list ⟨o, H.froz _ _ hF, hc, n', hd⟩ ?_
    exact h _ (Step.push H ne _) (fun b o e => Heap.get?_push_of_some _ e) (.inl ⟨ad, o, arr, n', hF, hc, hd, rl, ⟨_, Heap.get?_push_size _ rfl, rfl, rfl⟩⟩)
  · obtain ⟨ad, o, tt, uu, ww, rfl, hF, rfl⟩ := rp_rngI r
    refine wpAny_pyIter_range (H.froz _ _ hF) (small_one b1 b2 b3 b4) ?_
    rw [rangeSize_one]
    refine h _ (Step.push H ne _) (fun b o e => Heap.get?_push_of_some _ e) (.inr ⟨lo, hi, rfl, ?_⟩)
    simp only [Int.natCast_zero, Int.add_zero, Int.sub_zero]
    exact Heap.get?_push_size _ rfl
end
theorem closure_go (env : Env) : ∀ (names : List (Str × NameKind)) (acc : List (Str × Addr)), (∀ x, (x, NameKind.free) ∈ names → ∃ c, env.cells.lookup x = some c) →
    ∃ cl, (forIn names acc fun p (cs : List (Str × Addr)) => if p.2 == NameKind.free then (do let a ← cellOf env p.1; pure (ForInStep.yield ((p.1, a) :: cs))) else pure (ForInStep.yield cs)) = (pure cl : Sem _) ∧
      (∀ x c, cl.lookup x = some c → acc.lookup x = some c ∨ ((x, NameKind.free) ∈ names ∧ env.cells.lookup x = some c)) ∧
      (∀ x, ((x, NameKind.free) ∈ names ∨ (∃ c, acc.lookup x = some c ∧ env.cells.lookup x = some c)) → (∀ c, acc.lookup x = some c → env.cells.lookup x = some c) → ∃ c, cl.lookup x = some c ∧ env.cells.lookup x = some c)
  | [], acc, h => ⟨acc, by simp, fun x c e => .inl e, fun x e _ => by
      rcases e with e | e
      · cases e
      · exact e⟩
  | (x, k) :: r, acc, h => by
    rw [List.forIn_cons]
    by_cases hk : k = .free
    · subst hk
      obtain ⟨c, hc⟩ := h x (.head _)
      obtain ⟨cl, e, h1, h2⟩ := closure_go env r ((x, c) :: acc) fun y hy => h y (.tail _ hy)
      refine ⟨cl, ?_, fun y d e => ?_, fun y e k => ?_⟩
      · simp only [beq_self_eq_true, if_true]
        rw [show cellOf env x = pure c by unfold cellOf; rw [hc]]
        simpa using e
      · rcases h1 y d e with q | ⟨q, q'⟩
        · rw [List.lookup_cons] at q
          by_cases z : y = x
          · subst z; simp at q; subst q; exact .inr ⟨.head _, hc⟩
          · rw [show (y == x) = false by simpa using z] at q; exact .inl q
        · exact .inr ⟨.tail _ q, q'⟩
      · have kk : ∀ d, ((x, c) :: acc).lookup y = some d → env.cells.lookup y = some d := fun d q => by
          rw [List.lookup_cons] at q
          by_cases z : y = x
          · subst z; simp at q; subst q; exact hc
          · rw [show (y == x) = false by simpa using z] at q; exact k d q
        refine h2 y ?_ kk
        by_cases z : y = x
        · subst z; exact .inr ⟨c, by simp, hc⟩
        · rcases e with e | ⟨d, e, e'⟩
          · rcases List.mem_cons.mp e with e | e
            · cases e; exact absurd rfl z
            · exact .inl e
          · refine .inr ⟨d, ?_, e'⟩
            rw [List.lookup_cons, show (y == x) = false by simpa using z]; exact e
    · obtain ⟨cl, e, h1, h2⟩ := closure_go env r acc fun y hy => h y (.tail _ hy)
      have hb : (k == NameKind.free) = false := by simpa using hk
      refine ⟨cl, ?_, fun y d e => (h1 y d e).imp_right fun q => ⟨.tail _ q.1, q.2⟩, fun y e k' => h2 y ?_ k'⟩
      · simp only [hb, Bool.false_eq_true, if_false, pure_bind]; exact e
      · rcases e with e | e
        · rcases List.mem_cons.mp e with e | e
          · cases e; exact absurd rfl hk
          · exact .inl e
        · exact .inr e
theorem closure_ok {scope : Scope} {env : Env} (h : ∀ x, (x, NameKind.free) ∈ scope.names → ∃ c, env.cells.lookup x = some c) :
    ∃ cl, closureFor scope env = pure cl ∧ (∀ x c, cl.lookup x = some c → env.cells.lookup x = some c) ∧ (∀ x, (x, NameKind.free) ∈ scope.names → ∃ c, cl.lookup x = some c) := by
  obtain ⟨cl, e, h1, h2⟩ := closure_go env scope.names [] h
  refine ⟨cl, ?_, fun x c e => ?_, fun x e => ?_⟩
  · simp only [closureFor]
    rw [← e]
    exact bind_pure _
  · rcases h1 x c e with q | q
    · cases q
    · exact q.2
  · obtain ⟨c, a, _⟩ := h2 x (.inl e) (fun c q => by cases q)
    exact ⟨c, a⟩

section
variable {prog : Program} {w : World} {A : Around} {R : Result → Shared → Prop} {s : Shared}
theorem codeAny_compK {elt target iter : Expr} {scope : Scope} {pos : Pos} {it acc : Value} {env : Env} (I : Nat → Shared → Prop)
    (turn : ∀ n s, I n s → ∀ (AQ : Value → Shared → Prop) (_ : ∀ x s', wpAny (model prog w) A (call (.builtin "list.append") [acc, x]) (fun _ s₄ => ∃ m, m < n ∧ I m s₄) (notedBy (model prog w) A env fun e s' => R (.error e) s') s' → AQ x s')
      (EE : Value → Shared → Prop) (QQ : Option Value → Shared → Prop) (_ : ∀ s', R (.ok .next) s' → QQ none s')
      (_ : ∀ v s', wpAny (model prog w) A (assign target env v) (fun _ s₂ => wpAny (model prog w) A (eval elt env) AQ EE s₂) EE s' → QQ (some v) s'),
      wpAny (model prog w) A (pyNext it) QQ EE s) (n : Nat) (h : I n s) (ht : ∀ v, letOwnedTupleGo target it v = pure () := by intro _; rfl) :
    codeAny (model prog w) A (.compLoop (.ListComp elt [⟨target, iter, [], 0⟩] scope pos) 0 it acc env) R s :=
  codeAny_compLoop_list I (fun n s hI => turn n s hI _ (fun _ _ h => h) _ _ (fun _ h => h) (fun _ _ h => h)) n h ht
end
section
variable {u : Uni} {A : Around} {l : List Env} {env : Env} {ρ : Loc} {σ : St} {n : Nat} {hn : Bool} {kd : Str → Option NameKind}
/-- a comprehension's elements, one after another -/
noncomputable def CmpR (u : Uni) (A : Around) (l : List Env) (n : Nat) (hn : Bool) (kc : Str → Option NameKind) (x : Str) (elt : Expr) (ρc : Loc) (G : List V → St → Prop) : List V → List V → St → Prop
  | [], ys, σ => G ys σ
  | v :: vs, ys, σ => ∀ cenv, ECx u A l cenv n hn kc → EOk u A l cenv Rp (eval elt cenv) ((x, v) :: ρc) (fun y σ' => CmpR u A l n hn kc x elt ρc G vs (ys ++ [y]) σ') (fun _ _ => False) σ
/-- the comprehension's names -/
structure CmpS (scope : Scope) (kd : Str → Option NameKind) (ρ ρc : Loc) (x : Str) : Prop where
  kind : scope.kind = .function
  names : ∀ y ∈ scope.names, y.2 = .local → scope.names.lookup y.1 = some .local
  nocell : ∀ y ∈ scope.names, y.2 ≠ .cell
  hx : scope.names.lookup x = some .local
  free : ∀ y, (y, NameKind.free) ∈ scope.names → kd y = some .cell ∧ scope.names.lookup y = some .free
  nodbg : scope.names.all (fun p => !((p.1 == ("__debug__" : Str)) || (p.1 == ("__classdict__" : Str)))) = true
  cap : ∀ y w, lk ρc y = some w → lk ρ y = some w ∧ scope.names.lookup y = some .free
theorem lookup_mem' {β : Type} : ∀ {ls : List (Str × β)} {x : Str} {b : β}, ls.lookup x = some b → (x, b) ∈ ls
  | [], _, _, h => by cases h
  | (y, c) :: r, x, b, h => by
    rw [List.lookup_cons] at h
    by_cases z : x = y
    · subst z; simp at h; subst h; exact .head _
    · rw [show (x == y) = false by simpa using z] at h; exact .tail _ (lookup_mem' h)
theorem relabel_lookup {env : Env} {x : Str} : ∀ {names : List (Str × NameKind)}, (names.map fun (n, k) => if (k == NameKind.free && env.scope.kind == .function && env.kindOf n == some .cell) then (n, NameKind.cell) else (n, k)).lookup x =
    (names.lookup x).map fun k => if (k == NameKind.free && env.scope.kind == .function && env.kindOf x == some .cell) then .cell else k
  | [] => rfl
  | (y, k) :: r => by
    have ih := @relabel_lookup env x r
    show List.lookup x ((if (k == NameKind.free && env.scope.kind == .function && env.kindOf y == some .cell) = true then (y, NameKind.cell) else (y, k)) :: _) = _
    by_cases hc : (k == NameKind.free && env.scope.kind == .function && env.kindOf y == some .cell) = true
    · rw [if_pos hc]
      by_cases z : x = y
      · subst z
        simp only [List.lookup_cons, beq_self_eq_true, Option.map_some]
        rw [if_pos hc]
      · simp only [List.lookup_cons, show (x == y) = false by simpa using z]; exact ih
    · rw [if_neg hc]
      by_cases z : x = y
      · subst z
        simp only [List.lookup_cons, beq_self_eq_true, Option.map_some]
        rw [if_neg hc]
      · simp only [List.lookup_cons, show (x == y) = false by simpa using z]; exact ih
/-- a list object that grows -/
noncomputable def Grows (W : Wd) (σ : St) (h : Heap) (D : Addr) (ys : List V) : Prop := (∃ o arr nn, h.get? D = some o ∧ o.cls = .type "list" ∧ o.data = .seq arr nn ∧ o.dict = none ∧ RpL W σ ys arr.toList) ∧ W.F D = none ∧ ∀ k, ¬ MutK W σ k D
theorem Grows.ns {W : Wd} {h : Heap} {D : Addr} {ys : List V} (g : Grows W σ h D ys) : ∀ m, ¬ h.Ns D m := fun m y => by
  obtain ⟨⟨o, arr, nn, ho, _, hd, _⟩, _⟩ := g
  obtain ⟨o', es, ep, ho', hd', _⟩ := y
  rw [ho] at ho'; cases ho'
  rw [hd] at hd'; cases hd'
theorem Grows.cell {W : Wd} {h : Heap} {D : Addr} {ys : List V} (g : Grows W σ h D ys) : ∀ w, ¬ h.IsCell D w := fun m y => by
  obtain ⟨⟨o, arr, nn, ho, _, hd, _⟩, _⟩ := g
  obtain ⟨o', ho', hd'⟩ := y
  rw [ho] at ho'; cases ho'
  rw [hd] at hd'; cases hd'
theorem Grows.ne {W : Wd} {h : Heap} {D it : Addr} {ys : List V} (g : Grows W σ h D ys) (r : IsRec h it) : D ≠ it := fun q => by
  subst q
  obtain ⟨⟨o, arr, nn, ho, _, hd, _⟩, _⟩ := g
  obtain ⟨o', vs, ho', hd'⟩ := r
  rw [ho] at ho'; cases ho'
  rw [hd] at hd'; cases hd'
theorem Grows.step {W W' : Wd} {σ' : St} {h h' : Heap} {D : Addr} {ys : List V} (g : Grows W σ h D ys) (S : Step u l noOwn W σ h W' σ' h') : Grows W' σ' h' D ys := by
  obtain ⟨⟨o, arr, nn, ho, hc, hd, hdi, rl⟩, f, nm⟩ := g
  obtain ⟨a, b, c⟩ := obj_stays S (fun q => q) ho (by rw [hd]; intro _ _ q; cases q) f nm
  exact ⟨⟨o, arr, nn, a, hc, hd, hdi, S.rpL rl⟩, b, c⟩
theorem Grows.same {W : Wd} {h h' : Heap} {D : Addr} {ys : List V} (g : Grows W σ h D ys) (e : ∀ o, h.get? D = some o → h'.get? D = some o) : Grows W σ h' D ys := by
  obtain ⟨⟨o, arr, nn, ho, hc, hd, hdi, rl⟩, f, nm⟩ := g
  exact ⟨⟨o, arr, nn, e o ho, hc, hd, hdi, rl⟩, f, nm⟩
theorem ItAt.step {W W' : Wd} {σ' : St} {h h' : Heap} {it : Addr} {xs : List V} {i : Nat} (x : ItAt W σ h it xs i) (fI : W.F it = none) (nI : ∀ k, ¬ MutK W σ k it) (S : Step u l noOwn W σ h W' σ' h') :
    ItAt W' σ' h' it xs i ∧ W'.F it = none ∧ ∀ k, ¬ MutK W' σ' k it := by
  obtain ⟨o, vs, ho, hd⟩ := x.rec
  obtain ⟨a, b, c⟩ := obj_stays S (fun q => q) ho (by rw [hd]; intro _ _ q; cases q) fI nI
  exact ⟨x.mono S.le (fun _ _ r => S.rpL r) (by rw [a, ho]), b, c⟩
theorem Grows.push {W : Wd} {s : Shared} {D : Addr} {ys : List V} {y : V} {v : Value} (g : Grows W σ s.heap D ys) (hz : ys.length ≤ 16777216) (r : Rp W σ y v) {QC EC : Value → Shared → Prop}
    (h : ∀ h', Grows W σ h' D (ys ++ [y]) → (∀ b, b ≠ D → h'.get? b = s.heap.get? b) → QC .none { s with heap := h' }) : wpAny u.M A (call (.builtin "list.append") [.ref D, v]) QC EC s := by
  obtain ⟨⟨o, arr, nn, ho, hc, hd, hdi, rl⟩, f, nm⟩ := g
  have ln : arr.size = ys.length := by rw [← Array.length_toList, RepL.length rl]
  refine append_exact ho hc hd (line_le (by lcg_off)) fun h' o' g1 g2 g3 g4 sb => ?_
  obtain ⟨n3, g3⟩ := g3
  exact h h' ⟨⟨o', _, n3, g1, g2, g3, g4.trans hdi, by rw [Array.toList_push]; exact RepL.append rl (RepL.cons r RepL.nil)⟩, f, nm⟩ sb.2
/-- the comprehension's own frame -/
structure CmpE (env : Env) (scope : Scope) (cl : List (Str × Addr)) (Cn : Addr) (ce : Env) : Prop where
  sc : ce.scope = relabel scope env
  lc : ce.locals = Cn
  gl : ce.globals = env.globals
  cs : ce.cells = cl
  bn : ce.builtins = env.builtins
theorem CmpE.kindOf {scope : Scope} {cl : List (Str × Addr)} {Cn : Addr} {ce : Env} (c : CmpE env scope cl Cn ce) (x : Str) :
    ce.kindOf x = (scope.names.lookup x).map fun k => if (k == NameKind.free && env.scope.kind == .function && env.kindOf x == some .cell) then .cell else k := by
  show ce.scope.names.lookup x = _
  rw [c.sc]; exact relabel_lookup
theorem CmpE.ctx {scope : Scope} {cl : List (Str × Addr)} {Cn : Addr} {ce : Env} {ρc : Loc} {x : Str} (c : CmpE env scope cl Cn ce) (C : ECx u A l env n hn kd) (S : CmpS scope kd ρ ρc x) : ECx u A l ce n hn (fun y => scope.names.lookup y) := by
  refine ⟨C.frames, C.ne, by rw [c.sc]; exact S.kind, by rw [c.gl]; exact C.glob, by rw [c.bn]; exact C.bns, fun y k e => ?_, fun y k e => ?_, C.room, C.units, C.hand⟩
  · rw [c.kindOf y, e]
    by_cases hc : (k == NameKind.free && env.scope.kind == .function && env.kindOf y == some .cell) = true
    · refine .inr ⟨?_, by simp only [Option.map_some, hc, if_true]⟩
      simp only [Bool.and_eq_true, beq_iff_eq] at hc
      exact hc.1.1
    · refine .inl ?_
      simp only [Option.map_some]
      rw [if_neg hc]
  · rw [c.kindOf y] at e
    cases e' : scope.names.lookup y with
    | none => rw [e'] at e; cases e
    | some k' =>
      have := List.all_eq_true.mp S.nodbg _ (lookup_mem' e')
      simpa using this
theorem CmpE.lo {scope : Scope} {cl : List (Str × Addr)} {Cn : Addr} {ce : Env} {ρc : Loc} {x : Str} (c : CmpE env scope cl Cn ce) (C : ECx u A l env n hn kd) (S : CmpS scope kd ρ ρc x) (cl1 : ∀ x c, cl.lookup x = some c → env.cells.lookup x = some c) (cl2 : ∀ x, (x, NameKind.free) ∈ scope.names → ∃ c, cl.lookup x = some c)
    {W : Wd} {h h' : Heap} (L : Lo W σ env h ρ) (keep : ∀ b o, h.get? b = some o → h'.get? b = some o) {m : Str → Option Value} (hn' : h'.Ns Cn m) (fC : W.F Cn = none) (nC : ∀ k, ¬ MutK W σ k Cn) : Lo W σ ce h' ρc := by
  have ic : ∀ {c w}, h.IsCell c w → h'.IsCell c w := fun ⟨o, ho, hd⟩ => ⟨o, keep _ _ ho, hd⟩
  have kc : ∀ y, (y, NameKind.free) ∈ scope.names → env.kindOf y = some .cell := fun y e => by
    rcases C.kinds y _ (S.free y e).1 with q | ⟨q, _⟩
    · exact q
    · cases q
  refine ⟨fun y w e => ?_, ⟨m, by rw [c.lc]; exact hn'⟩, by rw [c.lc]; exact ⟨fC, nC⟩, fun y d e => ?_, fun y z d e e' => ?_, fun y e => ?_⟩
  · obtain ⟨e1, e2⟩ := S.cap y w e
    have mf := lookup_mem' e2
    have v := L.var y w e1
    unfold VarAt at v ⊢
    rw [kc y mf] at v
    rw [c.kindOf y, e2]
    simp only [Option.map_some]
    rw [if_pos (by rw [C.kind, kc y mf]; rfl)]
    obtain ⟨d, w', a1, a2, a3⟩ := v
    obtain ⟨d', a4⟩ := cl2 y mf
    have := cl1 y d' a4
    rw [a1] at this; cases this
    exact ⟨d, w', by rw [c.cs]; exact a4, ic a2, a3⟩
  · rw [c.cs] at e
    obtain ⟨a1, a2, w, a3⟩ := L.cfree y d (cl1 y d e)
    exact ⟨a1, a2, w, ic a3⟩
  · rw [c.cs] at e e'
    exact L.cinj y z d (cl1 y d e) (cl1 z d e')
  · rw [c.cs]
    rw [c.kindOf y] at e
    cases e' : scope.names.lookup y with
    | none => rw [e'] at e; cases e
    | some k' =>
      rw [e'] at e
      have mf := lookup_mem' e'
      cases k' with
      | free => exact cl2 y mf
      | cell => exact absurd rfl (S.nocell _ mf)
      | _ => simp at e
/-- the loop of a comprehension, up to its end -/
theorem cmp_core {elt iter : Expr} {x : Str} {px : Pos} {scope : Scope} {pos : Pos} {ρc : Loc} {xs : List V} {cl : List (Str × Addr)} {G : List V → St → Prop} {RR : Value → Addr → Result → Shared → Prop} {E : Value → Shared → Prop} {it : Addr}
    (C : ECx u A l env n hn kd) (hh : hn = true) (S : CmpS scope kd ρ ρc x) (cl1 : ∀ x c, cl.lookup x = some c → env.cells.lookup x = some c) (cl2 : ∀ x, (x, NameKind.free) ∈ scope.names → ∃ c, cl.lookup x = some c)
    {W : Wd} {s : Shared} (H : Hp u W σ l s.heap) (L : Lo W σ env s.heap ρ) (I : ItAt W σ s.heap it xs 0) (fI : W.F it = none) (nI : ∀ k, ¬ MutK W σ k it)
    {h₀ : Heap} {W₀ : Wd} {σ₀ : St} (H₀ : Hp u W₀ σ₀ l h₀) (S₀ : Step u l noOwn W₀ σ₀ h₀ W σ s.heap) (hit : h₀.get? it = none)
    (h : CmpR u A l n hn (fun y => scope.names.lookup y) x elt ρc G xs [] σ)
    (hz : xs.length ≤ 16777216)
    (hq : ∀ ys D Cn W' σ' h' tk m, Step u l noOwn W₀ σ₀ h₀ W' σ' h' → h₀.get? D = none → h₀.get? Cn = none → D ≠ Cn → Grows W' σ' h' D ys →
      h'.Ns Cn m → W'.F Cn = none → (∀ k, ¬ MutK W' σ' k Cn) → G ys σ' → RR (.ref D) Cn (.ok .next) ⟨h', s.gens, s.drawn, tk, s.os⟩) :
    wpAny u.M A (newList []) (fun acc s₃ => wpAny u.M A (newFunctionEnv scope env.globals cl [] env.qual none .none (some env)) (fun cenv s₄ =>
      codeAny u.M A (.compStart (.ListComp elt [⟨.Name x px, iter, [], 0⟩] scope pos) 0 (.ref it) acc { cenv with scope := relabel scope env }) (RR acc cenv.locals) s₄) E s₃) E s := by
  have fr : ∀ a, h₀.objs.size ≤ a → h₀.get? a = none := fun a ha => by
    cases e : h₀.get? a with
    | none => rfl
    | some o => exact absurd (Heap.lt_size e) (Nat.not_lt.mpr ha)
  have back : ∀ a, s.heap.get? a = none → h₀.get? a = none := fun a e => none_back S₀.dm e
  refine wpAny_newObj_type (wpAny_newFunctionEnv S.nocell (by intro y hy; simp at hy) (fun h₁ hns₁ hsb₁ => ?_) S.kind)
  dsimp only at hns₁ hsb₁ ⊢
  have sD := Step.push H C.ne { cls := .type "list", dict := none, data := .seq ([] : List Value).toArray }
  have gD : (s.heap.push { cls := .type "list", dict := none, data := .seq ([] : List Value).toArray }).get? s.heap.objs.size = some { cls := .type "list", dict := none, data := .seq ([] : List Value).toArray } := Heap.get?_push_size _ rfl
  have fD := fresh_size s.heap
  have keepD : ∀ b o, s.heap.get? b = some o → (s.heap.push { cls := .type "list", dict := none, data := .seq ([] : List Value).toArray }).get? b = some o := fun b o e => Heap.get?_push_of_some _ e
  generalize s.heap.push { cls := .type "list", dict := none, data := .seq ([] : List Value).toArray } = H2 at hns₁ hsb₁ sD gD keepD ⊢
  generalize s.heap.objs.size = D at gD fD ⊢
  have fC := fresh_size H2
  have sH2 := S₀.trans sD
  have keepC : ∀ b o, H2.get? b = some o → h₁.get? b = some o := fun b o e => hsb₁.extBut b o (Nat.ne_of_lt (Heap.lt_size e)) (Heap.get?_push_of_some _ e)
  generalize H2.objs.size = Cn at hns₁ hsb₁ fC ⊢
  have hD0 : h₀.get? D = none := back D fD
  have hC0 : h₀.get? Cn = none := none_back sH2.dm fC
  have hDC : D ≠ Cn := fun q => by rw [q, fC] at gD; cases gD
  have fCn := fz_none sH2.hp fC
  have nCn := fun k => mut_none sH2.hp fC k
  have s1 : Step u l noOwn W₀ σ₀ h₀ W σ h₁ := Step.touch2 H₀ sH2 hC0 fCn nCn fun b o _ e => keepC b o e
  have keep : ∀ b o, s.heap.get? b = some o → h₁.get? b = some o := fun b o e => keepC b o (keepD b o e)
  have gr : Grows W σ h₁ D [] := ⟨⟨_, _, 0, keepC D _ gD, rfl, rfl, rfl, RepL.nil⟩, fz_none H fD, fun k => mut_none H fD k⟩
  have I₁ : ItAt W σ h₁ it xs 0 := I.mono (fun _ _ e => e) (fun _ _ r => r) (by obtain ⟨o, _, e, _⟩ := I.rec; rw [e, keep _ _ e])
  generalize hce : ({ newEnv scope Cn env.globals cl env.qual none Value.none (some env) 0 with scope := relabel scope env } : Env) = ce
  have ceq : CmpE env scope cl Cn ce := by subst hce; exact ⟨rfl, rfl, rfl, rfl, rfl⟩
  have Cc : ECx u A l ce n hn (fun y => scope.names.lookup y) := ceq.ctx (ρc := ρc) C S
  have Lc := ceq.lo C S cl1 cl2 L keep hns₁ fCn nCn
  have elc : (newEnv scope Cn env.globals cl env.qual none Value.none (some env) 0).locals = Cn := rfl
  have kx : ce.kindOf x = some .local := by rw [ceq.kindOf x, S.hx]; rfl
  have loop : ∀ tk, codeAny u.M A (.compLoop (.ListComp elt [⟨.Name x px, iter, [], 0⟩] scope pos) 0 (.ref it) (.ref D) ce) (RR (.ref D) Cn) ⟨h₁, s.gens, s.drawn, tk, s.os⟩ := fun tk => by
    refine codeAny_compK (fun k s' => ∃ W' σ' h' tk i ys, s' = ⟨h', s.gens, s.drawn, tk, s.os⟩ ∧ k = xs.length - i ∧ i ≤ xs.length ∧ ys.length = i ∧ Step u l noOwn W₀ σ₀ h₀ W' σ' h' ∧ Lo W' σ' ce h' ρc ∧
      ItAt W' σ' h' it xs i ∧ W'.F it = none ∧ (∀ k, ¬ MutK W' σ' k it) ∧ Grows W' σ' h' D ys ∧ CmpR u A l n hn (fun y => scope.names.lookup y) x elt ρc G (xs.drop i) ys σ')
      (fun k s' hI => ?_) xs.length ⟨W, σ, h₁, tk, 0, [], rfl, rfl, Nat.zero_le _, rfl, s1, Lc, I₁, fI, nI, gr, h⟩
    obtain ⟨W₂, σ₂, h₂, tk₂, i, ys, rfl, rfl, hle, hys, S₂, L₂, I₂, f₂, n₂, g₂, fr₂⟩ := hI
    intro AQ AB EE QQ hN hG
    refine It_next (s := ⟨h₂, s.gens, s.drawn, tk₂, s.os⟩) C hh S₂.hp I₂ (fun y ey v h₃ tk₃ rv I₃ sb => ?_) (fun en h₃ tk₃ kp => ?_)
    · have hlt : i < xs.length := (List.getElem?_eq_some_iff.mp ey).1
      have kp : ∀ b o, b ≠ it → h₂.get? b = some o → h₃.get? b = some o := fun b o q e => (sb.2 b q).trans e
      have S₃ := S₂.touch2 H₀ hit f₂ n₂ kp
      have L₃ := L₂.keeps I₂.rec.ns I₂.rec.cell kp
      have g₃ := g₂.same (h' := h₃) fun o e => kp _ _ (g₂.ne I₂.rec) e
      have iC : ∀ {m}, h₃.Ns Cn m → it ≠ Cn := fun nn q => I₃.rec.ns _ (q ▸ nn)
      obtain ⟨m₃, n₃⟩ := L₃.ns
      rw [ceq.lc] at n₃
      refine hG _ _ (wpAny_assign_Name (store_loc (s := ⟨h₃, s.gens, s.drawn, tk₃, s.os⟩) Cc.kind kx S₃.hp L₃ rv (fun a => a = Cn) ceq.lc fun h₄ tk₄ T₄ L₄ same => ?_))
      rw [ceq.lc] at same
      have S₄ := S₃.transF T₄ fun a q => q ▸ hC0
      have L₄ := L₄.sub (ρ' := (x, y) :: ρc) fun z w e => by rw [lk_stl]; exact e
      have I₄ := I₃.mono (h' := h₄) (fun _ _ e => e) (fun _ _ r => r) (same it (iC n₃))
      have g₄ := g₃.same (h' := h₄) fun o e => (same D hDC).trans e
      rw [List.drop_eq_getElem_cons hlt] at fr₂
      rw [List.getElem?_eq_getElem hlt] at ey
      rw [Option.some.inj ey] at fr₂
      refine fr₂ ce Cc W₂ ⟨h₄, s.gens, s.drawn, tk₄, s.os⟩ S₄.hp L₄ _ _ (fun v' y' W₅ σ₅ h₅ tk₅ T₅ r₅ q₅ => ?_) (fun _ _ _ _ _ _ _ _ q => q.elim)
      have S₅ := S₄.trans T₅
      have L₅ := (L₄.stepE T₅).sub (ρ' := ρc) fun z w e => by
        have ne : x ≠ z := fun q => by
          subst q
          have := (S.cap _ _ e).2
          rw [S.hx] at this; cases this
        show (if x = z then some y else lk ρc z) = some w
        rw [if_neg ne]; exact e
      obtain ⟨I₅, f₅, n₅⟩ := I₄.step f₂ n₂ T₅
      have g₅ := g₄.step T₅
      refine AB _ _ (g₅.push (s := ⟨h₅, s.gens, s.drawn, tk₅, s.os⟩) (by lcg_off) r₅ fun h₆ g₆ same₆ => ?_)
      have kp₆ : ∀ b o, b ≠ D → h₅.get? b = some o → h₆.get? b = some o := fun b o q e => (same₆ b q).trans e
      exact ⟨xs.length - (i + 1), by lcg_off, W₅, σ₅, h₆, tk₅, i + 1, ys ++ [y'], rfl, rfl, hlt, by simp [hys], S₅.touch2 H₀ hD0 g₅.2.1 g₅.2.2 kp₆, L₅.keeps g₅.ns g₅.cell kp₆,
        I₅.mono (fun _ _ e => e) (fun _ _ r => r) (same₆ it (Ne.symm (g₅.ne I₅.rec))), f₅, n₅, g₆, q₅⟩
    · have : xs.length ≤ i := List.getElem?_eq_none_iff.mp en
      have S₃ := S₂.touch2 H₀ hit f₂ n₂ kp
      have L₃ := L₂.keeps I₂.rec.ns I₂.rec.cell kp
      have g₃ := g₂.same (h' := h₃) fun o e => kp _ _ (g₂.ne I₂.rec) e
      obtain ⟨m₃, n₃⟩ := L₃.ns
      have lf := L₃.lfree
      rw [ceq.lc] at n₃ lf
      rw [List.drop_eq_nil_of_le this] at fr₂
      exact hN _ (hq ys D Cn W₂ σ₂ h₃ tk₃ m₃ S₃ hD0 hC0 hDC g₃ n₃ lf.1 lf.2 fr₂)
  subst hce
  exact codeAny_compStart_list (loop _) (It_again (s := ⟨h₁, s.gens, s.drawn, _, s.os⟩) I₁ (loop _))
end
section
variable {u : Uni} {A : Around} {l : List Env} {env : Env} {ρ : Loc} {σ : St} {n : Nat} {hn : Bool} {kd : Str → Option NameKind}
theorem cells_of (C : ECx u A l env n hn kd) {scope : Scope} {ρc : Loc} {x : Str} (S : CmpS scope kd ρ ρc x) {W : Wd} {h : Heap} (L : Lo W σ env h ρ) : ∀ y, (y, NameKind.free) ∈ scope.names → ∃ c, env.cells.lookup y = some c := fun y e => by
  rcases C.kinds y _ (S.free y e).1 with q | ⟨q, _⟩
  · exact L.cdef y q
  · cases q
theorem Grows.adopt {W : Wd} {h h₀ : Heap} {D : Addr} {ys : List V} {W₀ : Wd} {σ₀ : St} (H₀ : Hp u W₀ σ₀ l h₀) (g : Grows W σ h D ys) (S : Step u l noOwn W₀ σ₀ h₀ W σ h) (hD : h₀.get? D = none) :
    ∃ W', Step u l noOwn W₀ σ₀ h₀ W' σ h ∧ Rp W' σ (.lst ys) (.ref D) ∧ (∀ a, a ≠ D → W.F a = none → W'.F a = none) ∧ (∀ k a, MutK W' σ k a ↔ MutK W σ k a) := by
  obtain ⟨⟨o, arr, nn, ho, hc, hd, hdi, rl⟩, f, nm⟩ := g
  refine ⟨W.add D o, Step.adopt H₀ S hD f nm ho, rp_lst add_here hc hd hdi (RepL.mono (W := W) (W' := W.add D o) (add_le f) (fun k e => ⟨rfl, e⟩) _ _ rl), fun a q e => ?_, fun k a => mutAdd⟩
  show (if a = D then some o else W.F a) = none
  rw [if_neg q]; exact e
/-- a comprehension of one clause, over a list or a range -/
theorem E_comp {X : Exn → St → Prop} {elt iter : Expr} {x : Str} {px : Pos} {scope : Scope} {pos : Pos} {ρc : Loc} {Q : V → St → Prop} (C : ECx u A l env n hn kd) (hh : hn = true) (S : CmpS scope kd ρ ρc x)
    (h : EOk u A l env Rp (eval iter env) ρ (fun w σ₁ => ∃ xs, Items w xs ∧ xs.length ≤ 16777216 ∧ CmpR u A l n hn (fun y => scope.names.lookup y) x elt ρc (fun ys σ' => Q (.lst ys) σ') xs [] σ₁) X σ)
    (hs : ∀ x, foldedSetIterable iter env x = pure x := by intro _; rfl) :
    EOk u A l env Rp (eval (.ListComp elt [⟨.Name x px, iter, [], 0⟩] scope pos) env) ρ Q X σ := by
  intro W s H L QC EC hq he
  obtain ⟨cl, hcl, cl1, cl2⟩ := closure_ok (cells_of C S L)
  rw [eval_ListComp]
  refine wpAny_comprehension_free (use := none) rfl hs hcl S.kind S.names (h W s H L _ EC (fun v w W₁ σ₁ h₁ tk₁ st₁ r₁ q₁ => ?_) he)
  obtain ⟨xs, hI, hz, cr⟩ := q₁
  have H₁ := st₁.hp
  have fI := fresh_size h₁
  refine It_start (s := ⟨h₁, s.gens, s.drawn, tk₁, s.os⟩) C.ne hI H₁ r₁ fun h₂ st₂ kp I₂ => ?_
  refine cmp_core (s := ⟨h₂, s.gens, s.drawn, tk₁, s.os⟩) (RR := fun acc Cn => compPost u.M A EC none QC acc Cn) C hh S cl1 cl2 st₂.hp ((L.stepE st₁).stepE st₂) I₂ (fz_none H₁ fI) (fun k => mut_none H₁ fI k) H (st₁.trans st₂) (none_back st₁.dm fI) cr hz ?_
  intro ys D Cn W' σ' h' tk m st hD hC hDC g nC fC nmC q
  refine ⟨m, nC, fun h'' sb => ?_⟩
  obtain ⟨W'', st', r, fF, mu⟩ := g.adopt H st hD
  have st'' := st'.touch2 H (a := Cn) hC (fF _ (Ne.symm hDC) fC) (fun k z => nmC k ((mu k _).mp z)) (h' := h'') fun b o q e => (sb.2 b q).trans e
  exact hq (.ref D) (.lst ys) W'' σ' h'' tk st'' r q
theorem S_comp {X : Exn → Loc → St → Prop} {N : Loc → St → Prop} {R : V → St → Prop} {elt iter : Expr} {x y : Str} {px py : Pos} {scope : Scope} {pos spos : Pos} {ρc : Loc} (C : SCx u A l env n hn kd) (hh : hn = true) (S : CmpS scope kd ρ ρc x)
    (hy : kd y = some .local ∨ kd y = some .cell)
    (h : EOk u A l env Rp (eval iter env) ρ (fun w σ₁ => ∃ xs, Items w xs ∧ xs.length ≤ 16777216 ∧ CmpR u A l n hn (fun y => scope.names.lookup y) x elt ρc (fun ys σ' => N (stl ρ y (.lst ys)) σ') xs [] σ₁) (fun c σ' => X c ρ σ') σ)
    (hsw : swapsWith (.ListComp elt [⟨.Name x px, iter, [], 0⟩] scope pos) (some (.Name y py)) spos.line env = pure true)
    (hs : ∀ x, foldedSetIterable iter env x = pure x := by intro _; rfl) :
    SOk u A l env (exec (.Assign [.Name y py] (.ListComp elt [⟨.Name x px, iter, [], 0⟩] scope pos) spos) env) ρ N R X σ := by
  intro W s H L QC EC hq hr he
  obtain ⟨cl, hcl, cl1, cl2⟩ := closure_ok (cells_of C.E S L)
  rw [exec_Assign_Name_used _ _ _ _ hsw]
  refine wpAny_bind (wpAny_standAt (wpAny_bind ?_))
  show wpAny _ A (do let _ ← comprehension (.ListComp elt [⟨.Name x px, iter, [], 0⟩] scope pos) scope env _ (newList []) false (eval iter env) (some (assign (.Name y py) env))) _ _ s
  refine wpAny_bind (wpAny_mono (wpAny_comprehension_free (use := some (assign (.Name y py) env)) (Q := fun _ s' => QC .next s') rfl hs hcl S.kind S.names
    (h.use H L (fun v w W₁ σ₁ h₁ tk₁ st₁ L₁ r₁ q₁ => ?_) he)) (fun _ s' hq => wpAny_pure (wpAny_pure hq)) fun _ _ e => e)
  obtain ⟨xs, hI, hz, cr⟩ := q₁
  have H₁ := st₁.hp
  have fI := fresh_size h₁
  refine It_start (s := ⟨h₁, s.gens, s.drawn, tk₁, s.os⟩) C.ne hI H₁ r₁ fun h₂ st₂ kp I₂ => ?_
  refine cmp_core (s := ⟨h₂, s.gens, s.drawn, tk₁, s.os⟩) (RR := fun acc Cn => compPost u.M A EC (some (assign (.Name y py) env)) (fun _ s' => QC .next s') acc Cn) C.E hh S cl1 cl2 st₂.hp (L₁.stepE st₂) I₂ (fz_none H₁ fI) (fun k => mut_none H₁ fI k) H (st₁.trans st₂) (none_back st₁.dm fI) cr hz ?_
  intro ys D Cn W' σ' h' tk m st hD hC hDC g nC fC nmC q
  obtain ⟨W'', st', r, fF, mu⟩ := g.adopt H st hD
  have fC' := fF _ (Ne.symm hDC) fC
  have nC' : ∀ k, ¬ MutK W'' σ' k Cn := fun k z => nmC k ((mu k _).mp z)
  have L' := L.stepE st'
  refine wpAny_assign_Name (store_ok (s := ⟨h', s.gens, s.drawn, tk, s.os⟩) C.E hy st'.hp L' r (ownOf env) (fun _ q => q) fun h₃ tk₃ T L₃ => ?_)
  have noC : ¬ ownOf env Cn := by
    rintro (z | ⟨y', z⟩)
    · obtain ⟨_, n⟩ := L.ns
      obtain ⟨o, e, _⟩ := ns_iff.mp n
      rw [← z, hC] at e; cases e
    · obtain ⟨_, _, w, ⟨o, e, _⟩⟩ := L.cfree y' Cn z
      rw [hC] at e; cases e
  obtain ⟨oC, e1, nn⟩ := ns_iff.mp nC
  obtain ⟨oC', e2, sm⟩ := T.up Cn oC e1 nC' noC
  refine ⟨m, ns_iff.mpr ⟨oC', e2, sm.ns nn⟩, fun h₄ sb => ?_⟩
  have S₃ := (st'.wider (own' := ownOf env) fun _ => noOwn_own).trans T
  have kp : ∀ b o, b ≠ Cn → h₃.get? b = some o → h₄.get? b = some o := fun b o q e => (sb.2 b q).trans e
  have S₄ := S₃.touch2 H hC fC' nC' kp
  refine hq _ W'' σ' h₄ tk₃ S₄ ?_ q
  have icn : ∀ {a w}, h₃.IsCell a w → a ≠ Cn := fun ic q => by
    obtain ⟨o, e, d⟩ := ic
    rw [q, e2] at e; cases e
    obtain ⟨es, ep, d', _⟩ := sm.ns nn
    rw [d] at d'; cases d'
  have ncl : env.locals ≠ Cn := fun z => noC (.inl z.symm)
  have ns : ∀ {m}, h₃.Ns env.locals m → h₄.Ns env.locals m := fun {m} n => by
    obtain ⟨o, ho, n1⟩ := ns_iff.mp n
    exact ns_iff.mpr ⟨o, kp _ _ ncl ho, n1⟩
  have ic : ∀ {c w}, h₃.IsCell c w → h₄.IsCell c w := fun {c w} ic => by
    obtain ⟨o, ho, hd⟩ := id ic
    exact ⟨o, kp _ _ (icn ic) ho, hd⟩
  refine ⟨fun y z e => ?_, ?_, L₃.lfree, fun y c e => ?_, L₃.cinj, L₃.cdef⟩
  · have v := L₃.var y z e
    unfold VarAt at v ⊢
    split at v
    · obtain ⟨m, w, a, b, c⟩ := v; exact ⟨m, w, ns a, b, c⟩
    · obtain ⟨c, w, a, b, d⟩ := v; exact ⟨c, w, a, ic b, d⟩
    · obtain ⟨c, w, a, b, d⟩ := v; exact ⟨c, w, a, ic b, d⟩
    · exact v
  · obtain ⟨m, a⟩ := L₃.ns; exact ⟨m, ns a⟩
  · obtain ⟨a, b, w, c⟩ := L₃.cfree y c e; exact ⟨a, b, w, ic c⟩
end
noncomputable def Sub (ρ' ρ : Loc) : Prop := ∀ y z, lk ρ' y = some z → lk ρ y = some z
theorem Sub.nil {ρ : Loc} : Sub [] ρ := fun _ _ e => nomatch e
theorem Sub.cons {x : Str} {v : V} {r ρ : Loc} (h : lk ρ x = some v) (s : Sub r ρ) : Sub ((x, v) :: r) ρ := fun y z e => by
  simp only [lk] at e
  by_cases q : x = y
  · subst q; rw [if_pos rfl] at e; cases e; exact h
  · rw [if_neg q] at e; exact s y z e
theorem Sub.refl (ρ : Loc) : Sub ρ ρ := fun _ _ e => e
theorem Sub.trans {a b c : Loc} (x : Sub a b) (y : Sub b c) : Sub a c := fun p z e => y p z (x p z e)
section
variable {u : Uni} {A : Around} {l : List Env} {env : Env} {ρ ρ' : Loc} {σ : St} {n : Nat} {hn : Bool} {kd : Str → Option NameKind} {X : Exn → Loc → St → Prop} {N : Loc → St → Prop} {R : V → St → Prop}
theorem S_drop {t : Sem Flow} (s : Sub ρ' ρ) (h : SOk u A l env t ρ' N R X σ) : SOk u A l env t ρ N R X σ := fun W s' H L QC EC hq hr he => h W s' H (L.sub s) QC EC hq hr he
theorem A_drop {t : Value → Sem Unit} {y : V} (s : Sub ρ' ρ) (h : AsOk u A l env t y ρ' N X σ) : AsOk u A l env t y ρ N X σ := fun W s' v H L r QC EC hq he => h W s' v H (L.sub s) r QC EC hq he
theorem E_drop {τ β : Type} {rp : Wd → St → β → τ → Prop} {t : Sem τ} {Q : β → St → Prop} {X : Exn → St → Prop} (s : Sub ρ' ρ) (h : EOk u A l env rp t ρ' Q X σ) : EOk u A l env rp t ρ Q X σ := fun W s' H L QC EC hq he => h W s' H (L.sub s) QC EC hq he
theorem For_inv2 {t : Expr} {body : List Stmt} (I : List V → Loc → St → Prop)
    (step : ∀ y ys ρ σ, I (y :: ys) ρ σ → AsOk u A l env (assign t env) y ρ (fun ρ' σ' => SOk u A l env (execs body env) ρ' (fun ρ'' σ'' => ∃ ρ₁, Sub ρ₁ ρ'' ∧ I ys ρ₁ σ'') R X σ') X σ) (done : ∀ ρ ρ₁ σ, Sub ρ₁ ρ → I [] ρ₁ σ → N ρ σ)
    (xs : List V) (h : ∃ ρ₁, Sub ρ₁ ρ ∧ I xs ρ₁ σ) : ForR u A l env t body N R X xs ρ σ :=
  For_inv (fun xs ρ σ => ∃ ρ₁, Sub ρ₁ ρ ∧ I xs ρ₁ σ) (fun y ys ρ σ q => by obtain ⟨ρ₁, s, q⟩ := q; exact A_drop s (step y ys ρ₁ σ q)) (fun ρ σ q => by obtain ⟨ρ₁, s, q⟩ := q; exact done ρ ρ₁ σ s q) xs h
theorem ForR_inv2 {t : Expr} {body : List Stmt} {lo hi : Int} (I : Int → Loc → St → Prop) (hl : lo ≤ hi)
    (step : ∀ i ρ σ, lo ≤ i → i < hi → I i ρ σ → AsOk u A l env (assign t env) (.int i) ρ (fun ρ' σ' => SOk u A l env (execs body env) ρ' (fun ρ'' σ'' => ∃ ρ₁, Sub ρ₁ ρ'' ∧ I (i + 1) ρ₁ σ'') R X σ') X σ) (done : ∀ ρ ρ₁ σ, Sub ρ₁ ρ → I hi ρ₁ σ → N ρ σ)
    (h : ∃ ρ₁, Sub ρ₁ ρ ∧ I lo ρ₁ σ) : ForR u A l env t body N R X (rngL lo hi) ρ σ :=
  ForR_inv (fun i ρ σ => ∃ ρ₁, Sub ρ₁ ρ ∧ I i ρ₁ σ) hl (fun i ρ σ h1 h2 q => by obtain ⟨ρ₁, s, q⟩ := q; exact A_drop s (step i ρ₁ σ h1 h2 q)) (fun ρ σ q => by obtain ⟨ρ₁, s, q⟩ := q; exact done ρ ρ₁ σ s q) h
theorem Wh_inv2 {t : Expr} {body : List Stmt} (I : Nat → Loc → St → Prop)
    (step : ∀ k ρ σ, I k ρ σ → EOk u A l env Bl (isTrue t env (eval t env)) ρ (fun c σ₁ => (c = true → SOk u A l env (execs body env) ρ (fun ρ'' σ' => ∃ ρ₁, Sub ρ₁ ρ'' ∧ ∃ k', k' < k ∧ I k' ρ₁ σ') R X σ₁) ∧ (c = false → ∀ ρ'', Sub ρ ρ'' → N ρ'' σ₁)) (fun c σ' => X c ρ σ') σ)
    (hX : ∀ c ρ ρ' σ, Sub ρ ρ' → X c ρ σ → X c ρ' σ)
    {k : Nat} (h : ∃ ρ₁, Sub ρ₁ ρ ∧ I k ρ₁ σ) : ∃ k, WhR u A l env t body N R X k ρ σ :=
  Wh_inv (fun k ρ σ => ∃ ρ₁, Sub ρ₁ ρ ∧ I k ρ₁ σ) (fun k ρ σ q => by
    obtain ⟨ρ₁, s, q⟩ := q
    refine E_drop s ((step k ρ₁ σ q).mono (fun c σ₁ q => ⟨fun e => S_drop s ((q.1 e).mono (fun _ _ q => ?_) (fun _ _ q => q) fun _ _ _ q => q), fun e => q.2 e ρ s⟩) fun c σ' q => hX c _ _ _ s q)
    obtain ⟨ρ₁, s, k', h1, h2⟩ := q
    exact ⟨k', h1, ρ₁, s, h2⟩) h
end
section
variable {u : Uni} {A : Around} {l : List Env} {env : Env} {ρ : Loc} {X : Exn → St → Prop} {σ : St} {n : Nat} {hn : Bool} {kd : Str → Option NameKind}
/-- a new list that will be turned: it comes to life as the cell k -/
theorem E_listC {k : Hd} {p : Bool} {es : List Expr} {pos : Pos} {Q : V → St → Prop} (C : ECx u A l env n hn kd)
    (h : EsOk u A l env pos es ρ (fun xs σ₁ => xs.length ≤ 16777216 ∧ σ₁.get k = .dead ∧ Q (.ref k) (σ₁.set k (.lst p xs))) X σ) :
    EOk u A l env Rp (eval (.List es pos) env) ρ Q X σ := by
  intro W s H L QC EC hq he
  refine List_ (h W s H L _ EC (fun vs xs W₁ σ₁ h₁ tk₁ st₁ r₁ q₁ => ?_) he)
  obtain ⟨hz, hk, q⟩ := q₁
  refine wpAny_newList ?_ (line_le (by rw [RepL.length r₁]; exact hz))
  have H₁ := st₁.hp
  obtain ⟨Lf, m, F, fL, nL⟩ := frame_at H₁ C.ne
  have fr := fresh_size h₁
  have gx : (h₁.push { cls := .type "list", data := .seq vs.toArray }).get? h₁.objs.size = some { cls := .type "list", data := .seq vs.toArray } := Heap.get?_push_size _ rfl
  have lv : live (σ₁.set k (.lst p xs)) k := by unfold live; rw [St.get_set_same]; trivial
  have mono : ∀ x v, RpL W₁ σ₁ x v → RpL (W₁.put k h₁.objs.size 0) (σ₁.set k (.lst p xs)) x v := fun x v r =>
    RepL.mono (W := W₁) (W' := W₁.put k h₁.objs.size 0) (fun _ _ e => e) (fun j e => by
      have ne : j ≠ k := fun q => by subst q; unfold live at e; rw [hk] at e; exact e
      exact ⟨(Wd.put_ne ne).1, by unfold live; rw [St.get_set_ne _ _ ne]; exact e⟩) x v r
  have st := Step.new (u := u) (c := .lst p xs) (x := h₁.objs.size) (dx := 0) H₁ hk F.ns fL nL (F.ns.push { cls := .type "list", data := .seq vs.toArray }) (fun b o _ e => Heap.get?_push_of_some _ e) fr (fun ⟨_, _, q⟩ => nomatch q)
    ⟨_, vs.toArray, 0, by rw [Wd.put_al]; exact gx, rfl, rfl, fun _ => rfl, mono _ _ r₁⟩
  have rx : Rp (W₁.put k h₁.objs.size 0) (σ₁.set k (.lst p xs)) (.ref k) (.ref h₁.objs.size) := by
    have := rp_ref (W := W₁.put k h₁.objs.size 0) lv
    rwa [Wd.put_al] at this
  exact hq _ (.ref k) _ _ _ tk₁ (st₁.trans st) rx q
theorem B_mulS {x y : Int} {Q : V → St → Prop} (h1 : y.natAbs < 2 ^ 64) (q : Q (.int (x * y)) σ) : BinP u A l (binaryOp .Mult) (.int x) (.int y) Q X σ :=
  .gives (fun W v w h₁ h₂ QC EC s k => by
    obtain ⟨t, rfl⟩ := rp_intI h₁; obtain ⟨t', rfl⟩ := rp_intI h₂
    with_reducible refine mul_int (k _ _ rp_int) ?_
    have := intBits_le_64 (k := y) (by lcg_off) (by lcg_off)
    unfold IntMulOk
    rw [decide_eq_false (show ¬ Builtin.Int.intBits y > shortFactorBits by unfold shortFactorBits; lcg_off)]
    simp) q
/-- a class without an __init__ -/
theorem call_class0 {c : Cls} {k : Hd} {Q : V → St → Prop} (hk : σ.get k = .dead) (hm : makesIn u.K (u.cls c) = true) (hi : findIn u.K (.ref (u.cls c)) "__init__" = some (some (.builtin "object.__init__")))
    (q : Q (.ref k) (σ.set k (.inst c []))) : SemV u (n + 1) hn (.ref (u.cls c)) [] Q X σ := by
  intro A l C W s H vals r R hq he
  simp only [RpL, RepL] at r
  subst r
  obtain ⟨L, m, F, fL, nL⟩ := frame_at H C.ne
  refine PySem.W.make_K0 F (newsA u.g₀ s.heap L) H.K hm hi fun x dx h' F' N' l1 l2 => ?_
  have gx := (N' (x, instObj (u.cls c) dx) (.head _)).1
  have gd := (N' (dx, emptyDict) (.tail _ (.head _))).1
  have keep := news_keep (more := [(x, instObj (u.cls c) dx), (dx, emptyDict)]) H F' N'
  have fresh : ∀ a, (∀ o, (a, o) ∈ allOf u.g₀ s.heap L → False) → a ≠ L → u.g₀.get? a = none → s.heap.get? a = none := fun a h1 h2 h3 => by
    cases e : s.heap.get? a with
    | none => rfl
    | some o => exact (h1 o (mem_allOf.mpr ⟨h2, h3, e⟩)).elim
  have fd := fresh dx (fun o ho => absurd (l1 _ ho) (Nat.lt_irrefl _)) (N' (dx, emptyDict) (.tail _ (.head _))).2.1 (N' (dx, emptyDict) (.tail _ (.head _))).2.2
  have fx := fresh x (fun o ho => absurd (Nat.lt_trans (l1 _ ho) l2) (Nat.lt_irrefl _)) (N' (x, instObj (u.cls c) dx) (.head _)).2.1 (N' (x, instObj (u.cls c) dx) (.head _)).2.2
  have st := Step.new (c := .inst c []) (x := x) (dx := dx) H hk F.ns fL nL F'.ns keep fx (fun _ => ⟨fd, Nat.ne_of_gt l2⟩) ⟨[], 0, by rw [Wd.put_al, Wd.put_dl]; exact gx, by rw [Wd.put_dl]; exact gd, rfl, Nat.zero_le _⟩
  have lk' : live (σ.set k (.inst c [])) k := by unfold live; rw [St.get_set_same]; trivial
  have rx : Rp (W.put k x dx) (σ.set k (.inst c [])) (.ref k) (.ref x) := by
    have := rp_ref (W := W.put k x dx) lk'
    rwa [Wd.put_al] at this
  exact hq _ (.ref k) _ _ h' s.toks st rx q
end
section
variable {elt tgt iter t2 iter2 tst : Expr} {scope : Scope} {pos : Pos}
noncomputable abbrev comp2 (elt tgt iter t2 iter2 tst : Expr) (scope : Scope) (pos : Pos) : Expr := .ListComp elt [⟨tgt, iter, [], 0⟩, ⟨t2, iter2, [tst], 0⟩] scope pos
theorem compTurn_0 (it acc : Value) (env : Env) : compTurn (comp2 elt tgt iter t2 iter2 tst scope pos) 0 it acc env = (standAt iter.pos >>= fun _ => pyNext it >>= fun r => match r with
      | none => pure (.done .next)
      | some v => letOwnedTupleGo tgt it v >>= fun _ => assign tgt env v >>= fun _ =>
        (eval iter2 env >>= fun x => standAt iter2.pos >>= fun _ => foldedSetIterable iter2 env x >>= fun x => holding [x] (pyIter x) >>= fun it2 => runOwn (.compStart (comp2 elt tgt iter t2 iter2 tst scope pos) 1 it2 acc env) env >>= fun _ =>
          again (.compLoop (comp2 elt tgt iter t2 iter2 tst scope pos) 0 it acc env))) := by rfl
theorem compTurn_1 (it acc : Value) (env : Env) : compTurn (comp2 elt tgt iter t2 iter2 tst scope pos) 1 it acc env = (standAt iter2.pos >>= fun _ => pyNext it >>= fun r => match r with
      | none => pure (.done .next)
      | some v => letOwnedTupleGo t2 it v >>= fun _ => assign t2 env v >>= fun _ =>
        (forIn [tst] true fun c r => if r = true then do let ok ← isTrue c env (eval c env); pure (ForInStep.yield ok) else pure (ForInStep.yield r)) >>= fun ok =>
        (if ok = true then (eval elt env >>= fun x => call (.builtin "list.append") [acc, x] >>= fun _ => pure ()) >>= fun _ => again (.compLoop (comp2 elt tgt iter t2 iter2 tst scope pos) 1 it acc env)
          else again (.compLoop (comp2 elt tgt iter t2 iter2 tst scope pos) 1 it acc env))) := by rfl
end
section
variable {prog : Program} {w : World} {A : Around} {R : Result → Shared → Prop} {s : Shared} {elt tgt iter t2 iter2 tst : Expr} {scope : Scope} {pos : Pos}
theorem codeAny_start1 {it acc : Value} {env : Env}
    (h0 : codeAny (model prog w) A (.compLoop (comp2 elt tgt iter t2 iter2 tst scope pos) 1 it acc env) R s)
    (h : wpAny (model prog w) A (pyIter it) (fun it' s' => codeAny (model prog w) A (.compLoop (comp2 elt tgt iter t2 iter2 tst scope pos) 1 it' acc env) R s')
      (notedBy (model prog w) A env fun x s' => R (.error x) s') s) :
    codeAny (model prog w) A (.compStart (comp2 elt tgt iter t2 iter2 tst scope pos) 1 it acc env) R s := by
  refine codeAny_of_tree ?_
  show wpAny _ _ ((compStart (comp2 elt tgt iter t2 iter2 tst scope pos) 1 it acc env).onRaise (fun x => do noteFrame x env; standAt theWindowsPlace)) _ _ s
  refine wpAny_notedAt ?_
  unfold compStart
  show wpAny _ _ (ask >>= _) _ _ s
  refine wpAny_bind (wpAny_askSetting (wpAny_ite ?_))
  split
  · first
      | exact wpAny_bind (wpAny_pure (wpAny_pure (And.intro rfl h0)))
      | exact wpAny_pure (And.intro rfl h0)
  · first
      | exact wpAny_bind (wpAny_rule (wpAny_bind (wpAny_standAt (wpAny_bind (wpAny_mono h (fun it' s' h' => wpAny_pure (And.intro rfl h')) fun _ _ x => x)))))
      | (refine wpAny_bind (wpAny_rule ?_); show wpAny _ _ (standAt iter2.pos >>= _) _ _ s; exact wpAny_bind (wpAny_standAt (wpAny_bind (wpAny_mono h (fun it' s' h' => wpAny_pure (And.intro rfl h')) fun _ _ x => x))))
end
section
variable {u : Uni} {A : Around} {l : List Env} {σ : St} {n : Nat} {hn : Bool} {elt tgt iter iter2 tst : Expr} {scope : Scope} {pos : Pos}
/-- the inner loop, all pure: xs gone through, the second clause's name x2 -/
theorem cmp_inner {x2 : Str} {px : Pos} {ce : Env} {Cn it it2 D : Addr} {ρ2 : Loc} {kc : Str → Option NameKind} {f : V → Bool} {g : V → V} {os xs ys : List V} {io : Nat} {R : Result → Shared → Prop}
    (Cc : ECx u A l ce n hn kc) (hh : hn = true) (elc : ce.locals = Cn) (kx : ce.kindOf x2 = some .local) (nx : ∀ w, lk ρ2 x2 ≠ some w)
    {h₀ : Heap} {W₀ : Wd} {σ₀ : St} (H₀ : Hp u W₀ σ₀ l h₀) (hit2 : h₀.get? it2 = none) (hD0 : h₀.get? D = none) (hC0 : h₀.get? Cn = none) (hDC : D ≠ Cn) (hII : it ≠ it2)
    {W : Wd} {s : Shared} (S : Step u l noOwn W₀ σ₀ h₀ W σ s.heap) (L : Lo W σ ce s.heap ρ2) (I : ItAt W σ s.heap it2 xs 0) (fI : W.F it2 = none) (nI : ∀ k, ¬ MutK W σ k it2)
    (IO : ItAt W σ s.heap it os io) (fO : W.F it = none) (nO : ∀ k, ¬ MutK W σ k it) (G : Grows W σ s.heap D ys) (hz : ys.length + xs.length ≤ 16777216)
    (ev : ∀ v ∈ xs, EOk u A l ce Bl (isTrue tst ce (eval tst ce)) ((x2, v) :: ρ2) (fun c σ' => c = f v ∧ σ' = σ) (fun _ _ => False) σ)
    (el : ∀ v ∈ xs, EOk u A l ce Rp (eval elt ce) ((x2, v) :: ρ2) (fun y σ' => y = g v ∧ σ' = σ) (fun _ _ => False) σ)
    (hq : ∀ W' h' tk, Step u l noOwn W₀ σ₀ h₀ W' σ h' → Lo W' σ ce h' ρ2 → Grows W' σ h' D (ys ++ (xs.filter f).map g) → ItAt W' σ h' it os io → W'.F it = none → (∀ k, ¬ MutK W' σ k it) → R (.ok .next) ⟨h', s.gens, s.drawn, tk, s.os⟩) :
    codeAny u.M A (.compLoop (comp2 elt tgt iter (.Name x2 px) iter2 tst scope pos) 1 (.ref it2) (.ref D) ce) R s := by
  refine codeAny_loopK rfl (fun k s' => ∃ W' h' tk i, s' = ⟨h', s.gens, s.drawn, tk, s.os⟩ ∧ k = xs.length - i ∧ i ≤ xs.length ∧ Step u l noOwn W₀ σ₀ h₀ W' σ h' ∧ Lo W' σ ce h' ρ2 ∧
      ItAt W' σ h' it2 xs i ∧ W'.F it2 = none ∧ (∀ k, ¬ MutK W' σ k it2) ∧ Grows W' σ h' D (ys ++ ((xs.take i).filter f).map g) ∧ ItAt W' σ h' it os io ∧ W'.F it = none ∧ (∀ k, ¬ MutK W' σ k it))
      (fun k s' hI => ?_) xs.length ⟨W, s.heap, s.toks, 0, rfl, rfl, Nat.zero_le _, S, L, I, fI, nI, by simpa using G, IO, fO, nO⟩
  obtain ⟨W₂, h₂, tk₂, i, rfl, rfl, hle, S₂, L₂, I₂, f₂, n₂, g₂, O₂, fo₂, no₂⟩ := hI
  intro QQ hD hA
  show wpAny _ A ((compTurn (comp2 elt tgt iter (.Name x2 px) iter2 tst scope pos) 1 (.ref it2) (.ref D) ce).onRaise (fun x => do noteFrame x ce; theTreesLotGoes x)) _ _ _
  refine wpAny_noted ?_
  rw [compTurn_1]
  refine wpAny_bind (wpAny_standAt (wpAny_bind ?_))
  refine It_next (s := ⟨h₂, s.gens, s.drawn, tk₂, s.os⟩) Cc hh S₂.hp I₂ (fun y ey v h₃ tk₃ rv I₃ sb => ?_) (fun en h₃ tk₃ kp => ?_)
  · have hlt : i < xs.length := (List.getElem?_eq_some_iff.mp ey).1
    have kp : ∀ b o, b ≠ it2 → h₂.get? b = some o → h₃.get? b = some o := fun b o q e => (sb.2 b q).trans e
    have S₃ := S₂.touch2 H₀ hit2 f₂ n₂ kp
    have L₃ := L₂.keeps I₂.rec.ns I₂.rec.cell kp
    have g₃ := g₂.same (h' := h₃) fun o e => kp _ _ (g₂.ne I₂.rec) e
    have O₃ := O₂.mono (h' := h₃) (fun _ _ e => e) (fun _ _ r => r) (sb.2 it hII)
    obtain ⟨m₃, n₃⟩ := L₃.ns
    rw [elc] at n₃
    have iC : it2 ≠ Cn := fun q => I₃.rec.ns _ (q ▸ n₃)
    have oC : it ≠ Cn := fun q => O₃.rec.ns _ (q ▸ n₃)
    have hy : y = xs[i] := by rw [List.getElem?_eq_getElem hlt] at ey; exact (Option.some.inj ey).symm
    have hmem : y ∈ xs := hy ▸ List.getElem_mem hlt
    refine wpAny_bind (wpAny_pure (wpAny_bind ?_))
    refine wpAny_assign_Name (store_loc (s := ⟨h₃, s.gens, s.drawn, tk₃, s.os⟩) Cc.kind kx S₃.hp L₃ rv (fun a => a = Cn) elc fun h₄ tk₄ T₄ L₄ same => ?_)
    rw [elc] at same
    have S₄ := S₃.transF T₄ fun a q => q ▸ hC0
    have L₄ := L₄.sub (ρ' := (x2, y) :: ρ2) fun z w e => by rw [lk_stl]; exact e
    have I₄ := I₃.mono (h' := h₄) (fun _ _ e => e) (fun _ _ r => r) (same it2 iC)
    have O₄ := O₃.mono (h' := h₄) (fun _ _ e => e) (fun _ _ r => r) (same it oC)
    have g₄ := g₃.same (h' := h₄) fun o e => (same D hDC).trans e
    have back : ∀ {W' h'}, Lo W' σ ce h' ((x2, y) :: ρ2) → Lo W' σ ce h' ρ2 := fun L' => L'.sub (ρ' := ρ2) fun z w e => by
      have ne : x2 ≠ z := fun q => by subst q; exact nx w e
      show (if x2 = z then some y else lk ρ2 z) = some w
      rw [if_neg ne]; exact e
    refine wpAny_bind (wpAny_tests_one ?_)
    refine ev y hmem W₂ ⟨h₄, s.gens, s.drawn, tk₄, s.os⟩ S₄.hp L₄ _ _ (fun v' c W₅ σ₅ h₅ tk₅ T₅ r₅ q₅ => ?_) (fun _ _ _ _ _ _ _ _ q => q.elim)
    obtain ⟨rfl, rfl⟩ := q₅
    obtain rfl := r₅
    have S₅ := S₄.trans T₅
    have L₅ := L₄.stepE T₅
    obtain ⟨I₅, f₅, n₅⟩ := I₄.step f₂ n₂ T₅
    obtain ⟨O₅, fo₅, no₅⟩ := O₄.step fo₂ no₂ T₅
    have g₅ := g₄.step T₅
    have tk1 : (xs.take (i + 1)).filter f = (xs.take i).filter f ++ (if f y then [y] else []) := take_succ_filter f xs i y ey
    cases hf : f y with
    | false =>
      rw [if_neg (by decide)]
      rw [hf, if_neg (by decide), List.append_nil] at tk1
      exact wpAny_pure (hA (xs.length - (i + 1)) _ (by lcg_off) ⟨W₅, h₅, tk₅, i + 1, rfl, rfl, hlt, S₅, back L₅, I₅, f₅, n₅, by rw [tk1]; exact g₅, O₅, fo₅, no₅⟩)
    | true =>
      rw [if_pos rfl]
      rw [hf, if_pos rfl] at tk1
      refine wpAny_bind (wpAny_bind ?_)
      refine el y hmem W₅ ⟨h₅, s.gens, s.drawn, tk₅, s.os⟩ S₅.hp L₅ _ _ (fun v' y' W₆ σ₆ h₆ tk₆ T₆ r₆ q₆ => ?_) (fun _ _ _ _ _ _ _ _ q => q.elim)
      obtain ⟨rfl, rfl⟩ := q₆
      have S₆ := S₅.trans T₆
      have L₆ := L₅.stepE T₆
      obtain ⟨I₆, f₆, n₆⟩ := I₅.step f₅ n₅ T₆
      obtain ⟨O₆, fo₆, no₆⟩ := O₅.step fo₅ no₅ T₆
      have g₆ := g₅.step T₆
      refine wpAny_bind (g₆.push (s := ⟨h₆, s.gens, s.drawn, tk₆, s.os⟩) ?_ r₆ fun h₇ g₇ same₇ => ?_)
      · rw [List.length_append, List.length_map]
        have := List.length_filter_le f (xs.take i)
        rw [List.length_take] at this
        lcg_off
      have kp₇ : ∀ b o, b ≠ D → h₆.get? b = some o → h₇.get? b = some o := fun b o q e => (same₇ b q).trans e
      refine wpAny_pure (wpAny_pure (hA (xs.length - (i + 1)) _ (by lcg_off) ⟨W₆, h₇, tk₆, i + 1, rfl, rfl, hlt, S₆.touch2 H₀ hD0 g₆.2.1 g₆.2.2 kp₇, (back L₆).keeps g₆.ns g₆.cell kp₇,
        I₆.mono (fun _ _ e => e) (fun _ _ r => r) (same₇ it2 (Ne.symm (g₆.ne I₆.rec))), f₆, n₆, ?_, O₆.mono (fun _ _ e => e) (fun _ _ r => r) (same₇ it (Ne.symm (g₆.ne O₆.rec))), fo₆, no₆⟩))
      rw [tk1, List.map_append, ← List.append_assoc]; exact g₇
  · have hn : xs.length ≤ i := List.getElem?_eq_none_iff.mp en
    have S₃ := S₂.touch2 H₀ hit2 f₂ n₂ kp
    have L₃ := L₂.keeps I₂.rec.ns I₂.rec.cell kp
    have g₃ := g₂.same (h' := h₃) fun o e => kp _ _ (g₂.ne I₂.rec) e
    obtain ⟨oo, vv, ho, hd⟩ := O₂.rec
    have O₃ := O₂.mono (h' := h₃) (fun _ _ e => e) (fun _ _ r => r) (by rw [ho]; exact kp _ _ hII ho)
    rw [List.take_of_length_le hn] at g₃
    exact wpAny_pure (hD _ _ (hq W₂ h₃ tk₃ S₃ L₃ g₃ O₃ fo₂ no₂))
end
section
variable {u : Uni} {A : Around} {l : List Env} {env : Env} {ρ : Loc} {σ : St} {n : Nat} {hn : Bool} {kd : Str → Option NameKind} {elt iter tst : Expr} {scope : Scope} {pos : Pos}
noncomputable abbrev pairV (p : List V × V) : V := .tup [.lst p.1, p.2]
noncomputable def cmpOut (f : V → Bool) (g : V → V) (ps : List (List V × V)) : List V := ps.flatMap fun p => (p.1.filter f).map g
theorem cmpOut_snoc {f : V → Bool} {g : V → V} {ps : List (List V × V)} {p : List V × V} : cmpOut f g (ps ++ [p]) = cmpOut f g ps ++ (p.1.filter f).map g := by unfold cmpOut; simp
theorem cmp_core2 {xa xb x2 : Str} {pa pb px p2 tp : Pos} {kt : Nat} {ρc : Loc} {ps : List (List V × V)} {cl : List (Str × Addr)} {f : V → Bool} {g : V → V} {RR : Value → Addr → Result → Shared → Prop} {E : Value → Shared → Prop} {it : Addr}
    (C : ECx u A l env n hn kd) (hh : hn = true) (Sa : CmpS scope kd ρ ρc xa) (Sb : CmpS scope kd ρ ρc xb) (S2 : CmpS scope kd ρ ρc x2) (hab : xa ≠ xb) (ha2 : xa ≠ x2) (hb2 : xb ≠ x2)
    (cl1 : ∀ x c, cl.lookup x = some c → env.cells.lookup x = some c) (cl2 : ∀ x, (x, NameKind.free) ∈ scope.names → ∃ c, cl.lookup x = some c)
    {W : Wd} {s : Shared} (H : Hp u W σ l s.heap) (L : Lo W σ env s.heap ρ) (I : ItAt W σ s.heap it (ps.map pairV) 0) (fI : W.F it = none) (nI : ∀ k, ¬ MutK W σ k it)
    {h₀ : Heap} {W₀ : Wd} {σ₀ : St} (H₀ : Hp u W₀ σ₀ l h₀) (S₀ : Step u l noOwn W₀ σ₀ h₀ W σ s.heap) (hit : h₀.get? it = none)
    (hz : ∀ qs, (cmpOut f g qs).length + 1000 ≤ 16777216 ∨ ¬ qs.length ≤ ps.length ∨ ¬ (∃ r, ps = qs ++ r)) (hzp : ∀ p ∈ ps, p.1.length ≤ 1000)
    (ev : ∀ p ∈ ps, ∀ v ∈ p.1, ∀ ce, ECx u A l ce n hn (fun y => scope.names.lookup y) → EOk u A l ce Bl (isTrue tst ce (eval tst ce)) ((x2, v) :: (xa, .lst p.1) :: (xb, p.2) :: ρc) (fun c σ' => c = f v ∧ σ' = σ) (fun _ _ => False) σ)
    (el : ∀ p ∈ ps, ∀ v ∈ p.1, ∀ ce, ECx u A l ce n hn (fun y => scope.names.lookup y) → EOk u A l ce Rp (eval elt ce) ((x2, v) :: (xa, .lst p.1) :: (xb, p.2) :: ρc) (fun y σ' => y = g v ∧ σ' = σ) (fun _ _ => False) σ)
    (hq : ∀ D Cn W' h' tk m, Step u l noOwn W₀ σ₀ h₀ W' σ h' → h₀.get? D = none → h₀.get? Cn = none → D ≠ Cn → Grows W' σ h' D (cmpOut f g ps) →
      h'.Ns Cn m → W'.F Cn = none → (∀ k, ¬ MutK W' σ k Cn) → RR (.ref D) Cn (.ok .next) ⟨h', s.gens, s.drawn, tk, s.os⟩) :
    wpAny u.M A (newList []) (fun acc s₃ => wpAny u.M A (newFunctionEnv scope env.globals cl [] env.qual none .none (some env)) (fun cenv s₄ =>
      codeAny u.M A (.compStart (comp2 elt (.Tuple [.Name xa pa, .Name xb pb] kt tp) iter (.Name x2 px) (.Name xa p2) tst scope pos) 0 (.ref it) acc { cenv with scope := relabel scope env }) (RR acc cenv.locals) s₄) E s₃) E s := by
  have back : ∀ a, s.heap.get? a = none → h₀.get? a = none := fun a e => none_back S₀.dm e
  refine wpAny_newObj_type (wpAny_newFunctionEnv Sa.nocell (by intro y hy; simp at hy) (fun h₁ hns₁ hsb₁ => ?_) Sa.kind)
  dsimp only at hns₁ hsb₁ ⊢
  have sD := Step.push H C.ne { cls := .type "list", dict := none, data := .seq ([] : List Value).toArray }
  have gD : (s.heap.push { cls := .type "list", dict := none, data := .seq ([] : List Value).toArray }).get? s.heap.objs.size = some { cls := .type "list", dict := none, data := .seq ([] : List Value).toArray } := Heap.get?_push_size _ rfl
  have fD := fresh_size s.heap
  have keepD : ∀ b o, s.heap.get? b = some o → (s.heap.push { cls := .type "list", dict := none, data := .seq ([] : List Value).toArray }).get? b = some o := fun b o e => Heap.get?_push_of_some _ e
  generalize s.heap.push { cls := .type "list", dict := none, data := .seq ([] : List Value).toArray } = H2 at hns₁ hsb₁ sD gD keepD ⊢
  generalize s.heap.objs.size = D at gD fD ⊢
  have fC := fresh_size H2
  have sH2 := S₀.trans sD
  have keepC : ∀ b o, H2.get? b = some o → h₁.get? b = some o := fun b o e => hsb₁.extBut b o (Nat.ne_of_lt (Heap.lt_size e)) (Heap.get?_push_of_some _ e)
  generalize H2.objs.size = Cn at hns₁ hsb₁ fC ⊢
  have hD0 : h₀.get? D = none := back D fD
  have hC0 : h₀.get? Cn = none := none_back sH2.dm fC
  have hDC : D ≠ Cn := fun q => by rw [q, fC] at gD; cases gD
  have fCn := fz_none sH2.hp fC
  have nCn := fun k => mut_none sH2.hp fC k
  have s1 : Step u l noOwn W₀ σ₀ h₀ W σ h₁ := Step.touch2 H₀ sH2 hC0 fCn nCn fun b o _ e => keepC b o e
  have keep : ∀ b o, s.heap.get? b = some o → h₁.get? b = some o := fun b o e => keepC b o (keepD b o e)
  have gr : Grows W σ h₁ D [] := ⟨⟨_, _, 0, keepC D _ gD, rfl, rfl, rfl, RepL.nil⟩, fz_none H fD, fun k => mut_none H fD k⟩
  have I₁ : ItAt W σ h₁ it (ps.map pairV) 0 := I.mono (fun _ _ e => e) (fun _ _ r => r) (by obtain ⟨o, _, e, _⟩ := I.rec; rw [e, keep _ _ e])
  generalize hce : ({ newEnv scope Cn env.globals cl env.qual none Value.none (some env) 0 with scope := relabel scope env } : Env) = ce
  have ceq : CmpE env scope cl Cn ce := by subst hce; exact ⟨rfl, rfl, rfl, rfl, rfl⟩
  have Cc : ECx u A l ce n hn (fun y => scope.names.lookup y) := ceq.ctx (ρc := ρc) C Sa
  have Lc := ceq.lo C Sa cl1 cl2 L keep hns₁ fCn nCn
  have elc : (newEnv scope Cn env.globals cl env.qual none Value.none (some env) 0).locals = Cn := rfl
  have ka : ce.kindOf xa = some .local := by rw [ceq.kindOf xa, Sa.hx]; rfl
  have kb : ce.kindOf xb = some .local := by rw [ceq.kindOf xb, Sb.hx]; rfl
  have k2 : ce.kindOf x2 = some .local := by rw [ceq.kindOf x2, S2.hx]; rfl
  have nloc : ∀ {x}, scope.names.lookup x = some .local → ∀ w, lk ρc x ≠ some w := fun hx w e => by
    have := (Sa.cap _ _ e).2
    rw [hx] at this; cases this
  have loop : ∀ tk, codeAny u.M A (.compLoop (comp2 elt (.Tuple [.Name xa pa, .Name xb pb] kt tp) iter (.Name x2 px) (.Name xa p2) tst scope pos) 0 (.ref it) (.ref D) ce) (RR (.ref D) Cn) ⟨h₁, s.gens, s.drawn, tk, s.os⟩ := fun tk => by
    refine codeAny_loopK rfl (fun k s' => ∃ W' h' tk i, s' = ⟨h', s.gens, s.drawn, tk, s.os⟩ ∧ k = ps.length - i ∧ i ≤ ps.length ∧ Step u l noOwn W₀ σ₀ h₀ W' σ h' ∧ Lo W' σ ce h' ρc ∧
      ItAt W' σ h' it (ps.map pairV) i ∧ W'.F it = none ∧ (∀ k, ¬ MutK W' σ k it) ∧ Grows W' σ h' D (cmpOut f g (ps.take i)))
      (fun k s' hI => ?_) ps.length ⟨W, h₁, tk, 0, rfl, rfl, Nat.zero_le _, s1, Lc, I₁, fI, nI, gr⟩
    obtain ⟨W₂, h₂, tk₂, i, rfl, rfl, hle, S₂, L₂, I₂, f₂, n₂, g₂⟩ := hI
    intro QQ hD hA
    show wpAny _ A ((compTurn (comp2 elt (.Tuple [.Name xa pa, .Name xb pb] kt tp) iter (.Name x2 px) (.Name xa p2) tst scope pos) 0 (.ref it) (.ref D) ce).onRaise (fun x => do noteFrame x ce; theTreesLotGoes x)) _ _ _
    refine wpAny_noted ?_
    rw [compTurn_0]
    refine wpAny_bind (wpAny_standAt (wpAny_bind ?_))
    refine It_next (s := ⟨h₂, s.gens, s.drawn, tk₂, s.os⟩) C hh S₂.hp I₂ (fun y ey v h₃ tk₃ rv I₃ sb => ?_) (fun en h₃ tk₃ kp => ?_)
    · have hlt : i < ps.length := by have := (List.getElem?_eq_some_iff.mp ey).1; rwa [List.length_map] at this
      have hy : y = pairV ps[i] := by rw [List.getElem?_map, List.getElem?_eq_getElem hlt] at ey; exact (Option.some.inj ey).symm
      have hmem : ps[i] ∈ ps := List.getElem_mem hlt
      have htk : cmpOut f g (ps.take (i + 1)) = cmpOut f g (ps.take i) ++ (ps[i].1.filter f).map g := by rw [List.take_succ_eq_append_getElem hlt, cmpOut_snoc]
      have hzi : (cmpOut f g (ps.take i)).length + 1000 ≤ 16777216 := by
        rcases hz (ps.take i) with q | q | q
        · exact q
        · exact absurd (by rw [List.length_take]; lcg_off) q
        · exact absurd ⟨ps.drop i, (List.take_append_drop i ps).symm⟩ q
      have hz1 := hzp _ hmem
      have ev' := ev _ hmem
      have el' := el _ hmem
      generalize ps[i] = p at hy hmem htk hz1 ev' el'
      subst hy
      have kp : ∀ b o, b ≠ it → h₂.get? b = some o → h₃.get? b = some o := fun b o q e => (sb.2 b q).trans e
      have S₃ := S₂.touch2 H₀ hit f₂ n₂ kp
      have L₃ := L₂.keeps I₂.rec.ns I₂.rec.cell kp
      have g₃ := g₂.same (h' := h₃) fun o e => kp _ _ (g₂.ne I₂.rec) e
      obtain ⟨ad, oT, arr, nT, rfl, hF, hc, hd, rl⟩ := rp_tupI rv
      simp only [RpL, RepL] at rl
      obtain ⟨va, r1, ea, ra, vb, r2, rfl, rb, rfl⟩ := rl
      have hsz : arr.size = 2 := by rw [← Array.length_toList, ea]; rfl
      have ili : ∃ ad' j, h₃.IsListIter it ad' j := by
        rcases I₃ with ⟨ad', _, _, _, _, _, _, _, z⟩ | ⟨lo, hi, e, _⟩
        · exact ⟨_, _, z⟩
        · have hmm : pairV p ∈ ps.map pairV := List.mem_of_getElem? ey
          rw [e] at hmm
          unfold rngL at hmm
          obtain ⟨a, _, q⟩ := List.mem_map.mp hmm
          cases q
      obtain ⟨ad', j', ili⟩ := ili
      refine wpAny_bind (wpAny_letOwnedTupleGo_listiter (s := ⟨h₃, s.gens, s.drawn, tk₃, s.os⟩) ili (wpAny_bind ?_))
      refine wpAny_assign_Tuple (s := ⟨h₃, s.gens, s.drawn, tk₃, s.os⟩) (C.hand hh) ⟨oT, S₃.hp.froz _ _ hF, hc, nT, hd⟩ (by rw [hsz]; rfl) rfl fun hT eT => ?_
      have kT : ∀ b o, h₃.get? b = some o → hT.get? b = some o := fun b o e => eT b o (Nat.ne_of_lt (Heap.lt_size e)) e
      rw [ea]
      have ST := S₃.touch2 (h' := hT) H₀ hit f₂ n₂ fun b o _ e => kT b o e
      obtain ⟨oI, vI, hoI, hdI⟩ := I₃.rec
      obtain ⟨m3', nn3⟩ := L₃.ns
      have lf3 := L₃.lfree
      rw [ceq.lc] at nn3 lf3
      have LT : Lo W₂ σ ce hT ρc := L₃.stepE (Step.grow S₃.hp Cn _ nn3 (nn3.keeps kT) lf3.1 lf3.2 fun b o _ e => kT b o e)
      have IT := I₃.mono (h' := hT) (fun _ _ e => e) (fun _ _ r => r) (by rw [hoI]; exact kT _ _ hoI)
      have gT := g₃.same (h' := hT) fun o e => kT _ _ e
      obtain ⟨m₃, n₃⟩ := LT.ns
      rw [ceq.lc] at n₃
      have oC : it ≠ Cn := fun q => IT.rec.ns _ (q ▸ n₃)
      refine wpAny_assignInOrder_more (wpAny_assign_Name (store_loc (s := ⟨hT, s.gens, s.drawn, tk₃, s.os⟩) Cc.kind ka ST.hp LT ra (fun a => a = Cn) ceq.lc fun h₄ tk₄ T₄ L₄ same₄ => ?_))
      rw [ceq.lc] at same₄
      have S₄ := ST.transF T₄ fun a q => q ▸ hC0
      refine wpAny_assignInOrder_more (wpAny_assign_Name (store_loc (s := ⟨h₄, s.gens, s.drawn, tk₄, s.os⟩) Cc.kind kb S₄.hp L₄ rb (fun a => a = Cn) ceq.lc fun h₅ tk₅ T₅ L₅ same₅ => ?_))
      rw [ceq.lc] at same₅
      have S₅ := S₄.transF T₅ fun a q => q ▸ hC0
      refine wpAny_assignInOrder_none ?_
      have L₅ := L₅.sub (ρ' := (xa, .lst p.1) :: (xb, p.2) :: ρc) fun z w e => by
        rw [lk_stl, lk_stl]
        simp only [lk] at e
        by_cases q1 : xa = z
        · subst q1; rw [if_pos rfl] at e; rw [if_neg (Ne.symm hab), if_pos rfl]; exact e
        · rw [if_neg q1] at e
          by_cases q2 : xb = z
          · rw [if_pos q2] at e ⊢; exact e
          · rw [if_neg q2] at e ⊢; rw [if_neg q1]; exact e
      have I₅ := IT.mono (h' := h₅) (fun _ _ e => e) (fun _ _ r => r) ((same₅ it oC).trans (same₄ it oC))
      have g₅ := gT.same (h' := h₅) fun o e => ((same₅ D hDC).trans (same₄ D hDC)).trans e
      refine wpAny_bind ?_
      refine E_local (ρ := (xa, .lst p.1) :: (xb, p.2) :: ρc) (X := fun _ _ => False) (Q := fun z σ₁ => z = .lst p.1 ∧ σ₁ = σ) Cc (by simp only [lk, if_true]) ⟨rfl, rfl⟩ W₂ ⟨h₅, s.gens, s.drawn, tk₅, s.os⟩ S₅.hp L₅ _ _ (fun vv z W₆ σ₆ h₆ tk₆ T₆ r₆ q₆ => ?_) (fun _ _ _ _ _ _ _ _ q => q.elim)
      obtain ⟨rfl, rfl⟩ := q₆
      have S₆ := S₅.trans T₆
      have L₆ := L₅.stepE T₆
      obtain ⟨I₆, f₆, n₆⟩ := I₅.step f₂ n₂ T₆
      have g₆ := g₅.step T₆
      refine wpAny_bind (wpAny_standAt (wpAny_bind (wpAny_of_eq (a := vv) rfl (wpAny_bind (wpAny_holding ?_)))))
      have fr2 := fresh_size h₆
      refine It_start (s := ⟨h₆, s.gens, s.drawn, tk₆, s.os⟩) C.ne (.inl rfl) S₆.hp r₆ fun h₇ T₇ kp₇ J₇ => ?_
      have fJ := fz_none S₆.hp fr2
      have nJ := fun k => mut_none S₆.hp fr2 k
      have hJ0 : h₀.get? h₆.objs.size = none := none_back S₆.dm fr2
      have hII : it ≠ h₆.objs.size := fun q => by
        obtain ⟨o, _, e, _⟩ := I₆.rec
        rw [q, fr2] at e; cases e
      dsimp only at J₇ ⊢
      generalize h₆.objs.size = it2 at J₇ fJ nJ hJ0 hII ⊢
      have S₇ := S₆.trans T₇
      have L₇ := L₆.stepE T₇
      obtain ⟨I₇, f₇, n₇⟩ := I₆.step f₆ n₆ T₇
      have g₇ := g₆.step T₇
      have inn : ∀ tk, codeAny u.M A (.compLoop (comp2 elt (.Tuple [.Name xa pa, .Name xb pb] kt tp) iter (.Name x2 px) (.Name xa p2) tst scope pos) 1 (.ref it2) (.ref D) ce) (fun r s' => match r with
          | .ok _ => wpAny u.M A (again (.compLoop (comp2 elt (.Tuple [.Name xa pa, .Name xb pb] kt tp) iter (.Name x2 px) (.Name xa p2) tst scope pos) 0 (.ref it) (.ref D) ce)) QQ (notedBy u.M A ce fun e s' => RR (.ref D) Cn (.error e) s') s'
          | .error e => cameBackBy u.M A ce (notedBy u.M A ce fun e s' => RR (.ref D) Cn (.error e) s') e s') ⟨h₇, s.gens, s.drawn, tk, s.os⟩ := fun tk => by
        refine cmp_inner (s := ⟨h₇, s.gens, s.drawn, tk, s.os⟩) (f := f) (g := g) (ρ2 := (xa, .lst p.1) :: (xb, p.2) :: ρc) Cc hh ceq.lc k2 (fun w e => ?_) H₀ hJ0 hD0 hC0 hDC hII S₇ L₇ J₇ fJ nJ I₇ f₇ n₇ g₇ (by lcg_off)
          (fun v hv => ev' v hv ce Cc) (fun v hv => el' v hv ce Cc) fun W' h' tk st Lo' gg II ff nn => ?_
        · simp only [lk] at e
          rw [if_neg ha2, if_neg hb2] at e
          exact nloc S2.hx w e
        · refine wpAny_pure (hA (ps.length - (i + 1)) _ (by lcg_off) ⟨W', h', tk, i + 1, rfl, rfl, hlt, st, Lo'.sub (ρ' := ρc) (fun z w e => ?_), II, ff, nn, by rw [htk]; exact gg⟩)
          have n1 : xa ≠ z := fun q => by subst q; exact nloc Sa.hx w e
          have n2 : xb ≠ z := fun q => by subst q; exact nloc Sb.hx w e
          simp only [lk]
          rw [if_neg n1, if_neg n2]; exact e
      refine wpAny_bind (wpAny_runOwn ?_)
      exact codeAny_start1 (inn _) (It_again (s := ⟨h₇, s.gens, s.drawn, _, s.os⟩) J₇ (inn _))
    · have hle' : ps.length ≤ i := by have := List.getElem?_eq_none_iff.mp en; rwa [List.length_map] at this
      have S₃ := S₂.touch2 H₀ hit f₂ n₂ kp
      have L₃ := L₂.keeps I₂.rec.ns I₂.rec.cell kp
      have g₃ := g₂.same (h' := h₃) fun o e => kp _ _ (g₂.ne I₂.rec) e
      obtain ⟨m₃, n₃⟩ := L₃.ns
      have lf := L₃.lfree
      rw [ceq.lc] at n₃ lf
      rw [List.take_of_length_le hle'] at g₃
      exact wpAny_pure (hD _ _ (hq D Cn W₂ h₃ tk₃ m₃ S₃ hD0 hC0 hDC g₃ n₃ lf.1 lf.2))
  subst hce
  exact codeAny_compStart_list (loop _) (It_again (s := ⟨h₁, s.gens, s.drawn, _, s.os⟩) I₁ (loop _))
theorem E_comp2 {X : Exn → St → Prop} {xa xb x2 : Str} {pa pb px p2 tp : Pos} {kt : Nat} {ρc : Loc} {f : V → Bool} {g : V → V} {Q : V → St → Prop} {ps : List (List V × V)}
    (C : ECx u A l env n hn kd) (hh : hn = true) (Sa : CmpS scope kd ρ ρc xa) (Sb : CmpS scope kd ρ ρc xb) (S2 : CmpS scope kd ρ ρc x2) (hab : xa ≠ xb) (ha2 : xa ≠ x2) (hb2 : xb ≠ x2)
    (hz : ∀ qs, (cmpOut f g qs).length + 1000 ≤ 16777216 ∨ ¬ qs.length ≤ ps.length ∨ ¬ (∃ r, ps = qs ++ r)) (hzp : ∀ p ∈ ps, p.1.length ≤ 1000)
    (h : EOk u A l env Rp (eval iter env) ρ (fun w σ₁ => w = .lst (ps.map pairV) ∧
      (∀ p ∈ ps, ∀ v ∈ p.1, ∀ ce, ECx u A l ce n hn (fun y => scope.names.lookup y) → EOk u A l ce Bl (isTrue tst ce (eval tst ce)) ((x2, v) :: (xa, .lst p.1) :: (xb, p.2) :: ρc) (fun c σ' => c = f v ∧ σ' = σ₁) (fun _ _ => False) σ₁) ∧
      (∀ p ∈ ps, ∀ v ∈ p.1, ∀ ce, ECx u A l ce n hn (fun y => scope.names.lookup y) → EOk u A l ce Rp (eval elt ce) ((x2, v) :: (xa, .lst p.1) :: (xb, p.2) :: ρc) (fun y σ' => y = g v ∧ σ' = σ₁) (fun _ _ => False) σ₁) ∧ Q (.lst (cmpOut f g ps)) σ₁) X σ)
    (hs : ∀ x, foldedSetIterable iter env x = pure x := by intro _; rfl) :
    EOk u A l env Rp (eval (comp2 elt (.Tuple [.Name xa pa, .Name xb pb] kt tp) iter (.Name x2 px) (.Name xa p2) tst scope pos) env) ρ Q X σ := by
  intro W s H L QC EC hq he
  obtain ⟨cl, hcl, cl1, cl2⟩ := closure_ok (cells_of C Sa L)
  rw [eval_ListComp]
  refine wpAny_comprehension_free (use := none) rfl hs hcl Sa.kind Sa.names (h W s H L _ EC (fun v w W₁ σ₁ h₁ tk₁ st₁ r₁ q₁ => ?_) he)
  obtain ⟨rfl, ev, el, q⟩ := q₁
  have H₁ := st₁.hp
  have fI := fresh_size h₁
  refine It_start (s := ⟨h₁, s.gens, s.drawn, tk₁, s.os⟩) C.ne (.inl rfl) H₁ r₁ fun h₂ st₂ kp I₂ => ?_
  refine cmp_core2 (s := ⟨h₂, s.gens, s.drawn, tk₁, s.os⟩) (RR := fun acc Cn => compPost u.M A EC none QC acc Cn) C hh Sa Sb S2 hab ha2 hb2 cl1 cl2 st₂.hp ((L.stepE st₁).stepE st₂) I₂ (fz_none H₁ fI) (fun k => mut_none H₁ fI k) H (st₁.trans st₂) (none_back st₁.dm fI) hz hzp ev el ?_
  intro D Cn W' h' tk m st hD hC hDC g nC fC nmC
  refine ⟨m, nC, fun h'' sb => ?_⟩
  obtain ⟨W'', st', r, fF, mu⟩ := g.adopt H st hD
  have st'' := st'.touch2 H (a := Cn) hC (fF _ (Ne.symm hDC) fC) (fun k z => nmC k ((mu k _).mp z)) (h' := h'') fun b o q e => (sb.2 b q).trans e
  exact hq (.ref D) (.lst _) W'' σ₁ h'' tk st'' r q
end
/-- a goal twice: once to find the answer, once to be shown shortly (the first proof falls away) -/
@[reducible] noncomputable def dup (p : Prop) : Prop := p → p
structure Hy where
  w : World
  g₀ : Heap
  mean : ExcName → Option Value
  mg : Str → Option Value
  mb : Str → Option Value
  T : Top hd.view_39 (looseW hd.view_39 []) mean mg mb g₀
  X : (hd.heap_39 w.params).In g₀

noncomputable def clsA : Cls → Addr
  | .order => 337
  | .block => 148
  | .iter => 260
noncomputable def excA : Exn → Addr
  | .corrupt => 56
  | .short => 68
  | .misuse => 80
section
variable (P : Params)
theorem a_getA (c : Cls) (x : Str) : plainGet (hd.heap_39 P) (clsA c) x = true := by cases c <;> kernel_rfl
theorem a_hasD (c : Cls) : hasDictIn (hd.heap_39 P) (clsA c) = true := by cases c <;> kernel_rfl
theorem a_setA (c : Cls) : findIn (hd.heap_39 P) (.ref (clsA c)) "__setattr__" = some (some (.builtin "object.__setattr__")) ∧ plainOver (hd.heap_39 P) (clsA c) = true := by
  cases c <;> exact ⟨by kernel_rfl, by kernel_rfl⟩
theorem a_fld (c : Cls) : ∀ x ∈ fldNames, findIn (hd.heap_39 P) (.ref (clsA c)) x = some none := by
  have h : (fldNames.all fun x => findIn (hd.heap_39 P) (.ref (clsA c)) x == some none) = true := by cases c <;> kernel_rfl
  intro x hx
  simpa using List.all_eq_true.mp h x hx
theorem a_sub (c d : Exn) : mroIn (hd.heap_39 P) (excA c) (.ref (excA d)) = some (exnSub c d) := by cases c <;> cases d <;> kernel_rfl
theorem a_exg (c : Exn) : nsIn (hd.heap_39 P) mainGlobals (exnName c) = some (some (.ref (excA c))) := by cases c <;> kernel_rfl
theorem a_exc (c : Exn) : excIn (hd.heap_39 P) (excA c) excBm "Exception.__new__" = true := by cases c <;> kernel_rfl
theorem a_len : nsIn (hd.heap_39 P) mainGlobals "len" = some none := by kernel_rfl
theorem a_sum : nsIn (hd.heap_39 P) mainGlobals "sum" = some none := by kernel_rfl
theorem a_sorted : nsIn (hd.heap_39 P) mainGlobals "sorted" = some none := by kernel_rfl
theorem a_range : nsIn (hd.heap_39 P) mainGlobals "range" = some none := by kernel_rfl
theorem a_bytes : nsIn (hd.heap_39 P) mainGlobals "bytes" = some none := by kernel_rfl
end
theorem bt {H : Hy} {x : Str} {v : Value} (e : nsIn (hd.heap_39 H.w.params) mainGlobals x = some none) (hv : bootBuiltins x = some v) (hn : x ≠ "__name__") : H.mg x = none ∧ H.mb x = some v :=
  ⟨mg_none_of H.X H.T.g e, (H.T.builtins x hn).trans hv⟩
noncomputable def uni (H : Hy) : Uni where
  prog := PySem.Challenge.pw_no0408_01
  w := H.w
  K := hd.heap_39 H.w.params
  g₀ := H.g₀
  p := hd.view_39
  loose := looseW hd.view_39 []
  mean := H.mean
  mg := H.mg
  mb := H.mb
  T := H.T
  X := H.X
  cls := clsA
  exc := excA
  getA := a_getA _
  hasD := a_hasD _
  setA := a_setA _
  fld := a_fld _
  exn := fun c => own_of_in H.X (topRead_of H.T) (a_exg _ c) (a_exc _ c)
  sub := a_sub _
  len := bt (a_len _) (by boot_fast) (by decide)
  sum := bt (a_sum _) (by boot_fast) (by decide)
  sorted := bt (a_sorted _) (by boot_fast) (by decide)
  range := bt (a_range _) (by boot_fast) (by decide)
  bytes := bt (a_bytes _) (by boot_fast) (by decide)

/-- a def's text, brought into sight (its first statement written out) -/
noncomputable def headF : FuncBody → List Stmt → Prop
  | .stmts [], b => b = []
  | .stmts (s :: r), b => b = s :: r
  | .expr _, _ => False
theorem headF_eq {f : FuncBody} {b : List Stmt} (h : headF f b) : f = .stmts b := by
  match f, h with
  | .stmts [], h => exact congrArg _ (Eq.symm h)
  | .stmts (s :: r), h => exact congrArg _ (Eq.symm h)
noncomputable def fnMisc (fd : FuncData) (ps : List Str) : Bool :=
  fd.closure.isEmpty && fd.globals == mainGlobals && fd.builtins == builtinsNs && fd.scope.kind == .function && !fd.scope.isCoroutine && !fd.scope.isGenerator && decide ps.Nodup &&
  ps.all (fun x => fd.scope.names.lookup x == some .local || fd.scope.names.lookup x == some .cell) && fd.scope.names.all (fun p => !((p.1 == ("__debug__" : Str)) || (p.1 == ("__classdict__" : Str))))
section
variable {H : Hy} {n : Nat} {hn : Bool} {f : Addr} {o : Obj} {fd : FuncData} {body : List Stmt} {ps : List Str} {names : List (Str × NameKind)} {args : List V} {Q : V → St → Prop} {X : Exn → St → Prop} {σ : St}
theorem fnOk_of (h2 : List.lookup f (hd.heap_39 H.w.params) = some o) (h3 : o.data = .func fd) (h4 : headF fd.body body) (h5 : codeIn (hd.heap_39 H.w.params) fd.code fd.qualname = true)
    (h6 : fnMisc fd ps = true) (h7 : ∀ vals : List Value, vals.length = ps.length → bindArgs fd ⟨vals, []⟩ = pure (ps.zip vals)) : FnOk (uni H) f fd body ps := by
  unfold fnMisc at h6
  simp only [Bool.and_eq_true, Bool.not_eq_true', beq_iff_eq, decide_eq_true_eq, List.isEmpty_iff] at h6
  obtain ⟨⟨⟨⟨⟨⟨⟨⟨a1, a2⟩, a3⟩, a4⟩, a5⟩, a6⟩, a7⟩, a8⟩, a9⟩ := h6
  exact ⟨⟨o, H.X _ _ h2, h3⟩, codeRec_of H.X h5, headF_eq h4, a1, a2, a3, a4, a5, a6, a7, a8, a9, h7⟩
theorem semV_fn {ρ : Loc} (h2 : List.lookup f (hd.heap_39 H.w.params) = some o) (h3 : o.data = .func fd) (h4 : headF fd.body body) (h4' : fd.scope.names = names) (h5 : codeIn (hd.heap_39 H.w.params) fd.code fd.qualname = true)
    (h6 : fnMisc fd ps = true) (h7 : ∀ vals : List Value, vals.length = ps.length → bindArgs fd ⟨vals, []⟩ = pure (ps.zip vals)) (ha : args.length = ps.length) (hρ : ps.zip args = ρ)
    (hb : ∀ A l env, SCx (uni H) A l env n hn (fun x => names.lookup x) → SOk (uni H) A l env (execs body env) ρ (fun _ σ' => Q .none σ') Q (fun c _ σ' => X c σ') σ) : SemV (uni H) (n + 1) hn (.ref f) args Q X σ := by
  subst h4' hρ
  exact call_fn (fnOk_of h2 h3 h4 h5 h6 h7) ha hb
theorem semG_of {x : Str} (h1 : nsIn (hd.heap_39 H.w.params) mainGlobals x = some (some (.ref f))) (h : SemV (uni H) (n + 1) hn (.ref f) args Q X σ) : SemG (uni H) (n + 1) hn x args Q X σ := fun v hv => by
  have e : H.mg x = some (.ref f) := mg_of H.X H.T.g h1
  have : v = .ref f := by
    have hv' : H.mg x = some v := hv
    rw [e] at hv'; exact (Option.some.inj hv').symm
  subst this; exact h
theorem gl_of {x : Str} (h1 : nsIn (hd.heap_39 H.w.params) mainGlobals x = some (some (.ref f))) (h2 : keepIn (hd.heap_39 H.w.params) (.ref f) = true) : Gl (uni H) x := ⟨.ref f, mg_of H.X H.T.g h1, h2⟩
end
theorem len1 {vals : List Value} (h : vals.length = 1) : ∃ a, vals = [a] := List.length_eq_one_iff.mp h
theorem len2 {vals : List Value} (h : vals.length = 2) : ∃ a b, vals = [a, b] := by
  cases vals with
  | nil => cases h
  | cons a t =>
    obtain ⟨b, rfl⟩ := len1 (Nat.succ.inj h)
    exact ⟨a, b, rfl⟩
theorem len3 {vals : List Value} (h : vals.length = 3) : ∃ a b c, vals = [a, b, c] := by
  cases vals with
  | nil => cases h
  | cons a t =>
    obtain ⟨b, c, rfl⟩ := len2 (Nat.succ.inj h)
    exact ⟨a, b, c, rfl⟩
theorem len4 {vals : List Value} (h : vals.length = 4) : ∃ a b c d, vals = [a, b, c, d] := by
  cases vals with
  | nil => cases h
  | cons a t =>
    obtain ⟨b, c, d, rfl⟩ := len3 (Nat.succ.inj h)
    exact ⟨a, b, c, d, rfl⟩
theorem semM_of {H : Hy} {n : Nat} {hn : Bool} {f : Addr} {c : Cls} {x : Str} {args : List V} {Q : V → St → Prop} {X : Exn → St → Prop} {σ : St} (h1 : findIn (hd.heap_39 H.w.params) (.ref (clsA c)) x = some (some (.ref f))) (h : SemV (uni H) (n + 1) hn (.ref f) args Q X σ) :
    SemM (uni H) (n + 1) hn c x args Q X σ := fun f' m => by
  have e : findIn (hd.heap_39 H.w.params) (.ref (clsA c)) x = some (some (.ref f')) := m.1
  rw [h1] at e; cases e; exact h
theorem mt_of {H : Hy} {c : Cls} {x : Str} (h : (match findIn (hd.heap_39 H.w.params) (.ref (clsA c)) x with | some (some (.ref f)) => isFn (hd.heap_39 H.w.params) (.ref f) && keepIn (hd.heap_39 H.w.params) (.ref f) | _ => false) = true) : ∃ f, Mt (uni H) c x f := by
  split at h
  · rename_i f e
    rw [Bool.and_eq_true] at h
    exact ⟨f, e, h.1, h.2⟩
  · cases h
theorem gl_any {H : Hy} {x : Str} (h : (match nsIn (hd.heap_39 H.w.params) mainGlobals x with | some (some v) => keepIn (hd.heap_39 H.w.params) v | _ => false) = true) : Gl (uni H) x := by
  split at h
  · rename_i v e
    exact ⟨v, mg_of H.X H.T.g e, h⟩
  · cases h
theorem fmem {x : Str} (h : fldNames.elem x = true) : x ∈ fldNames := by simpa using h
theorem brD {p : Prop} [Decidable p] {α β : Prop} (h1 : p → α) (h2 : ¬ p → β) : (decide p = true → α) ∧ (decide p = false → β) := ⟨fun e => h1 (of_decide_eq_true e), fun e => h2 (of_decide_eq_false e)⟩
theorem brN {p : Prop} [Decidable p] {α β : Prop} (h1 : ¬ p → α) (h2 : p → β) : ((!decide p) = true → α) ∧ ((!decide p) = false → β) :=
  ⟨fun e => h1 (by simpa using e), fun e => h2 (by simpa using e)⟩
theorem brY {p : Prop} [Decidable p] {α β : Prop} (h : p) (q : α) : (decide p = true → α) ∧ (decide p = false → β) := ⟨fun _ => q, fun e => absurd h (of_decide_eq_false e)⟩
theorem brX {p : Prop} [Decidable p] {α β : Prop} (h : ¬ p) (q : β) : (decide p = true → α) ∧ (decide p = false → β) := ⟨fun e => absurd (of_decide_eq_true e) h, fun _ => q⟩
theorem brNY {p : Prop} [Decidable p] {α β : Prop} (h : ¬ p) (q : α) : ((!decide p) = true → α) ∧ ((!decide p) = false → β) := brN (fun _ => q) fun e => absurd e h
theorem brNX {p : Prop} [Decidable p] {α β : Prop} (h : p) (q : β) : ((!decide p) = true → α) ∧ ((!decide p) = false → β) := brN (fun e => absurd h e) fun _ => q
theorem fp_nil {ρ : Loc} : ∀ e ∈ ([] : List Expr), FPart ρ e := fun _ h => nomatch h
theorem fp_lit {ρ : Loc} {x : Str} {k : Nat} {pos : Pos} {r : List Expr} (h : x.length ≤ 300) (t : ∀ e ∈ r, FPart ρ e) : ∀ e ∈ Expr.Constant (.str x) k pos :: r, FPart ρ e := fun e he => by
  rcases List.mem_cons.mp he with q | q
  · subst q; exact .lit x k pos h
  · exact t e q
theorem fp_val {ρ : Loc} {x : Str} {p pos : Pos} {i : Int} {r : List Expr} (h : lk ρ x = some (.int i)) (hi : i.natAbs < 10 ^ 40) (t : ∀ e ∈ r, FPart ρ e) : ∀ e ∈ Expr.FormattedValue (.Name x p) (-1) none pos :: r, FPart ρ e := fun e he => by
  rcases List.mem_cons.mp he with q | q
  · subst q; exact .val x p pos i h hi
  · exact t e q
theorem gi_any {H : Hy} {x : Str} {i : Int} (h : (match nsIn (hd.heap_39 H.w.params) mainGlobals x with | some (some (.int j _)) => j == i | _ => false) = true) : ∃ t, (uni H).mg x = some (.int i t) := by
  split at h
  · rename_i j t e
    obtain rfl := eq_of_beq h
    exact ⟨t, mg_of H.X H.T.g e⟩
  · cases h
section
variable {u : Uni} {A : Around} {l : List Env} {env : Env} {ρ : Loc} {X : Exn → Loc → St → Prop} {N : Loc → St → Prop} {R : V → St → Prop} {σ : St}
/-- an if whose test is a plain proposition -/
theorem S_ifT (P : Prop) [Decidable P] {t : Expr} {a b : List Stmt} {pos : Pos} (h : EOk u A l env Bl (isTrue t env (eval t env)) ρ (fun c σ' => c = decide P ∧ σ' = σ) (xR X ρ) σ)
    (h1 : P → SOk u A l env (execs a env) ρ N R X σ) (h2 : ¬ P → SOk u A l env (execs b env) ρ N R X σ) : SOk u A l env (exec (.If t a b pos) env) ρ N R X σ :=
  S_if (h.mono (fun c σ' q => by obtain ⟨rfl, rfl⟩ := q; exact brD h1 h2) fun _ _ q => q)
end
section
variable {u : Uni} {A : Around} {l : List Env} {env : Env} {ρ : Loc} {X : Exn → Loc → St → Prop} {N : Loc → St → Prop} {σ : St}
@[reducible] noncomputable def kL (u : Uni) (A : Around) (l : List Env) (env : Env) (ts : List Expr) (ys : List V) (N : Loc → St → Prop) (X : Exn → Loc → St → Prop) : Loc → St → Prop := fun ρ' σ' => AsL u A l env ts ys ρ' N X σ'
theorem AsL_c {t : Expr} {ts : List Expr} {y : V} {ys : List V} (h : AsOk u A l env (assign t env) y ρ (kL u A l env ts ys N X) X σ) : AsL u A l env (t :: ts) (y :: ys) ρ N X σ := by unfold AsL; exact h
theorem AsL_n (h : N ρ σ) : AsL u A l env [] [] ρ N X σ := by unfold AsL; exact h
end
theorem S_rstart {u : Uni} {A : Around} {l : List Env} {env : Env} {ρ : Loc} {X : Exn → Loc → St → Prop} {N : Loc → St → Prop} {R : V → St → Prop} {σ σ' : St} {n : Nat} {hn : Bool} {kd : Str → Option NameKind} {o : Expr} {p lp pos : Pos} (C : ECx u A l env n hn kd) (hd : σ.get .rst = .dead)
    (hσ : σ.set .rst (.lst true []) = σ') (h : AsOk u A l env (assign (.Attribute o "restarts" p) env) (.ref .rst) ρ N X σ') : SOk u A l env (exec (.Assign [.Attribute o "restarts" p] (.List [] lp) pos) env) ρ N R X σ := by
  subst hσ
  exact S_assign (E_listC (p := true) C (Es_nil ⟨Nat.zero_le _, hd, h⟩)) (by with_unfolding_all exact rfl) (by with_unfolding_all exact rfl) (by with_unfolding_all exact rfl)
theorem S_atstart {u : Uni} {A : Around} {l : List Env} {env : Env} {ρ : Loc} {X : Exn → Loc → St → Prop} {N : Loc → St → Prop} {R : V → St → Prop} {σ σ' : St} {n : Nat} {hn : Bool} {kd : Str → Option NameKind} {np lp cp pos : Pos} {k : Nat} (C : ECx u A l env n hn kd) (hd : σ.get .cnt = .dead)
    (hσ : σ.set .cnt (.lst false [.int 0]) = σ') (h : AsOk u A l env (assign (.Name "at" np) env) (.ref .cnt) ρ N X σ') : SOk u A l env (exec (.Assign [.Name "at" np] (.List [.Constant (.int 0) k cp] lp) pos) env) ρ N R X σ := by
  subst hσ
  exact S_assign (E_listC (p := false) C (Es_cons (E_int (Es_nil ⟨Nat.le_add_left _ _, hd, h⟩)) (by with_unfolding_all exact rfl))) (by with_unfolding_all exact rfl) (by with_unfolding_all exact rfl) (by with_unfolding_all exact rfl)
theorem semG_cls {H : Hy} {n : Nat} {hn : Bool} {c : Cls} {k : Hd} {x : Str} {args : List V} {Q : V → St → Prop} {X : Exn → St → Prop} {σ σ' : St} (h1 : nsIn (hd.heap_39 H.w.params) mainGlobals x = some (some (.ref (clsA c)))) (hk : σ.get k = .dead)
    (hm : makesIn (hd.heap_39 H.w.params) (clsA c) = true) (mi : ∃ f, Mt (uni H) c "__init__" f) (hσ : σ.set k (.inst c []) = σ') (h : SemM (uni H) n hn c "__init__" (.ref k :: args) (fun v σ' => v = .none ∧ Q (.ref k) σ') X σ') : SemG (uni H) (n + 1) hn x args Q X σ := fun v hv => by
  subst hσ
  have e : H.mg x = some (.ref (clsA c)) := mg_of H.X H.T.g h1
  have : v = .ref (clsA c) := by
    have hv' : H.mg x = some v := hv
    rw [e] at hv'; exact (Option.some.inj hv').symm
  subst this
  obtain ⟨f, m⟩ := mi
  exact call_class (u := uni H) hk hm m h
theorem semG_ord {H : Hy} {n : Nat} {hn : Bool} {Q : V → St → Prop} {X : Exn → St → Prop} {σ σ' : St} (hk : σ.get .ord = .dead) (hσ : σ.set .ord (.inst .order []) = σ') (q : Q (.ref .ord) σ') : SemG (uni H) (n + 1) hn "BytesOrder" [] Q X σ := fun v hv => by
  subst hσ
  have e : H.mg "BytesOrder" = some (.ref (clsA .order)) := mg_of H.X H.T.g (by kernel_rfl)
  have : v = .ref (clsA .order) := by
    have hv' : H.mg "BytesOrder" = some v := hv
    rw [e] at hv'; exact (Option.some.inj hv').symm
  subst this
  exact call_class0 (u := uni H) (c := .order) hk (show makesIn (hd.heap_39 H.w.params) (clsA .order) = true by kernel_rfl) (show findIn (hd.heap_39 H.w.params) (.ref (clsA .order)) "__init__" = some (some (.builtin "object.__init__")) by kernel_rfl) q
theorem S_seq {u : Uni} {A : Around} {l : List Env} {env : Env} {ρ : Loc} {X : Exn → Loc → St → Prop} {N : Loc → St → Prop} {R : V → St → Prop} {σ : St} {st : Stmt} {rest : List Stmt} (P : Prop) (ρ' : Loc) (σ' : St)
    (h : SOk u A l env (exec st env) ρ (fun ρ₁ σ₁ => ρ₁ = ρ' ∧ σ₁ = σ' ∧ P) R X σ) (k : P → SOk u A l env (execs rest env) ρ' N R X σ') : SOk u A l env (execs (st :: rest) env) ρ N R X σ :=
  S_cons (h.mono (fun ρ₁ σ₁ q => by obtain ⟨rfl, rfl, q⟩ := q; exact k q) (fun _ _ q => q) fun _ _ _ q => q)
theorem S_same {u : Uni} {A : Around} {l : List Env} {env : Env} {ρ : Loc} {X : Exn → Loc → St → Prop} {N : Loc → St → Prop} {R : V → St → Prop} {σ : St} {st : Stmt} {rest : List Stmt} (P : Prop)
    (h : SOk u A l env (exec st env) ρ (fun ρ₁ σ₁ => ρ₁ = ρ ∧ σ₁ = σ ∧ P) R X σ) (k : P → SOk u A l env (execs rest env) ρ N R X σ) : SOk u A l env (execs (st :: rest) env) ρ N R X σ := S_seq P ρ σ h k
@[reducible] noncomputable def kFG (F G : St → Prop) : Bool → St → Prop := fun c σ₁ => (c = true → F σ₁) ∧ (c = false → G σ₁)
theorem T_P {u : Uni} {A : Around} {l : List Env} {env : Env} {ρ : Loc} {X : Exn → St → Prop} {σ : St} {t : Sem Bool} {F G : St → Prop} (P : Prop) [Decidable P] (h : EOk u A l env Bl t ρ (fun c σ' => c = decide P ∧ σ' = σ) X σ) (h1 : P → F σ) (h2 : ¬ P → G σ) :
    EOk u A l env Bl t ρ (kFG F G) X σ := h.mono (fun c σ' q => by obtain ⟨rfl, rfl⟩ := q; exact brD h1 h2) fun _ _ q => q
theorem S_join {u : Uni} {A : Around} {l : List Env} {env : Env} {ρ : Loc} {X : Exn → Loc → St → Prop} {N : Loc → St → Prop} {R : V → St → Prop} {σ : St} {st : Stmt} {rest : List Stmt} {α : Type} (P : α → Prop) (f : α → Loc)
    (h : SOk u A l env (exec st env) ρ (fun ρ₁ σ₁ => ∃ a, P a ∧ ρ₁ = f a ∧ σ₁ = σ) R X σ) (k : ∀ a, P a → SOk u A l env (execs rest env) (f a) N R X σ) : SOk u A l env (execs (st :: rest) env) ρ N R X σ :=
  S_cons (h.mono (fun ρ₁ σ₁ q => by obtain ⟨a, p, rfl, rfl⟩ := q; exact k a p) (fun _ _ q => q) fun _ _ _ q => q)
theorem lc_of {o : Option NameKind} (h : (match o with | some .local => true | some .cell => true | _ => false) = true) : o = some .local ∨ o = some .cell := by
  split at h
  · exact .inl rfl
  · exact .inr rfl
  · cases h
theorem le_and {a b : Nat} {P : Prop} (h : a ≤ b) (p : P) : a ≤ b ∧ P := ⟨h, p⟩
theorem brT {α β : Prop} (h1 : α) : (true = true → α) ∧ (true = false → β) := ⟨fun _ => h1, (fun e => nomatch e)⟩
theorem brF {α β : Prop} (h1 : β) : (false = true → α) ∧ (false = false → β) := ⟨(fun e => nomatch e), fun _ => h1⟩
theorem as_name {u : Uni} {A : Around} {l : List Env} {env : Env} {ρ ρ' : Loc} {X : Exn → Loc → St → Prop} {N : Loc → St → Prop} {σ : St} {n : Nat} {hn : Bool} {kd : Str → Option NameKind} {x : Str} {pos : Pos} {y : V} (C : ECx u A l env n hn kd) (hk : kd x = some .local ∨ kd x = some .cell)
    (hρ : stl ρ x y = ρ') (q : N ρ' σ) : AsOk u A l env (assign (.Name x pos) env) y ρ N X σ := As_name C hk (hρ ▸ q)
section
variable {u : Uni} {A : Around} {l : List Env} {env : Env} {ρ ρ' : Loc} {X : Exn → Loc → St → Prop} {N : Loc → St → Prop} {R : V → St → Prop} {σ σ' : St} {n : Nat} {hn : Bool} {kd : Str → Option NameKind}
@[reducible] noncomputable def kQ1 (x : Str) (ρ : Loc) (N : Loc → St → Prop) : V → St → Prop := fun r σ₂ => ∃ ρ', stl ρ x r = ρ' ∧ N ρ' σ₂
theorem s_aug {x : Str} {np pos : Pos} {op : Operator} {e : Expr} {y : V} (C : ECx u A l env n hn kd) (hk : kd x = some .local ∨ kd x = some .cell) (hl : lk ρ x = some y)
    (h : EOk u A l env Rp (eval e env) ρ (kB u A l (inplaceOp op) (kQ1 x ρ N) (xR X ρ) y) (xR X ρ) σ) :
    SOk u A l env (exec (.AugAssign (.Name x np) op e pos) env) ρ N R X σ :=
  S_aug C hk hl (h.mono (fun v σ₁ q W a b s H ra rb QC EC hq he => q W a b s H ra rb QC EC (fun v b W' σ' h' tk st r q => hq v b W' σ' h' tk st r (by obtain ⟨ρ', rfl, q⟩ := q; exact q)) he) fun _ _ q => q)
theorem at_set {k : Hd} {c : Cls} {fs fs' : List (Str × V)} {x : Str} {y : V} {P : St → Prop} (hc : σ.get k = .inst c fs) (hf : fldNames.elem x = true) (hs : stl fs x y = fs') (hz : fs'.length ≤ 100) (hσ : σ.set k (.inst c fs') = σ') (q : P σ') :
    ∃ k' c' fs'', V.ref k = .ref k' ∧ σ.get k' = .inst c' fs'' ∧ x ∈ fldNames ∧ (stl fs'' x y).length ≤ 100 ∧ P (σ.set k' (.inst c' (stl fs'' x y))) := by
  subst hs hσ
  exact ⟨k, c, fs, rfl, hc, fmem hf, hz, q⟩
theorem au_get {k : Hd} {c : Cls} {fs : List (Str × V)} {x : Str} {y : V} {P : V → Cls → Hd → Prop} (hc : σ.get k = .inst c fs) (hf : fldNames.elem x = true) (hl : lk fs x = some y) (q : P y c k) :
    ∃ k' c' fs'' y', V.ref k = .ref k' ∧ σ.get k' = .inst c' fs'' ∧ x ∈ fldNames ∧ lk fs'' x = some y' ∧ P y' c' k' := ⟨k, c, fs, y, rfl, hc, fmem hf, hl, q⟩
theorem au_set {k : Hd} {c : Cls} {fs fs' : List (Str × V)} {x : Str} {y : V} {P : St → Prop} (hc : σ.get k = .inst c fs) (hs : stl fs x y = fs') (hz : fs'.length ≤ 100) (hσ : σ.set k (.inst c fs') = σ') (q : P σ') :
    ∃ fs'', σ.get k = .inst c fs'' ∧ (stl fs'' x y).length ≤ 100 ∧ P (σ.set k (.inst c (stl fs'' x y))) := by
  subst hs hσ
  exact ⟨fs, hc, hz, q⟩
theorem me_th {H : Hy} {k : Hd} {c : Cls} {fs : List (Str × V)} {x : Str} {P : Cls → Prop} (hc : σ.get k = .inst c fs) (hl : lk fs x = none)
    (hm : (match findIn (hd.heap_39 H.w.params) (.ref (clsA c)) x with | some (some (.ref f)) => isFn (hd.heap_39 H.w.params) (.ref f) && keepIn (hd.heap_39 H.w.params) (.ref f) | _ => false) = true) (q : P c) :
    ∃ k' c' fs', V.ref k = .ref k' ∧ σ.get k' = .inst c' fs' ∧ lk fs' x = none ∧ (∃ f, Mt (uni H) c' x f) ∧ P c' := ⟨k, c, fs, rfl, hc, hl, mt_of hm, q⟩
end
/-- the fields of a block, of an iterator -/
@[reducible] noncomputable def fsB (d : List UInt8) (lim : Int) : List (Str × V) := [("data", .bytes d), ("order", .ref .ord), ("limit", .int lim), ("restarts", .ref .rst)]
@[reducible] noncomputable def fsI (cur ahead turn : Int) (key : List UInt8) (vf : Int) : List (Str × V) :=
  [("block", .ref .blk), ("order", .ref .ord), ("current", .int cur), ("ahead", .int ahead), ("turn", .int turn), ("held_key", .bytes key), ("value_from", .int vf)]
@[reducible] noncomputable def nI (ms : List Nat) : List V := ms.map fun m => V.int (m : Nat)
/-- the state: the block's octets, limit and restarts; the iterator's fields -/
@[reducible] noncomputable def mk (cnt : Cell) (d : List UInt8) (lim : Int) (ms : List Nat) (cur ahead turn : Int) (key : List UInt8) (vf : Int) : St :=
  ⟨cnt, .inst .order [], .inst .block (fsB d lim), .lst true (nI ms), .inst .iter (fsI cur ahead turn key vf)⟩
theorem S_mid {u : Uni} {A : Around} {l : List Env} {env : Env} {ρ : Loc} {X : Exn → Loc → St → Prop} {N : Loc → St → Prop} {R : V → St → Prop} {σ : St} {st : Stmt} {rest : List Stmt} (M : Loc → St → Prop)
    (h : SOk u A l env (exec st env) ρ M R X σ) (k : ∀ ρ₁ σ₁, M ρ₁ σ₁ → SOk u A l env (execs rest env) ρ₁ N R X σ₁) : SOk u A l env (execs (st :: rest) env) ρ N R X σ :=
  S_cons (h.mono (fun ρ₁ σ₁ q => k ρ₁ σ₁ q) (fun _ _ q => q) fun _ _ _ q => q)
theorem mk_inj {cnt : Cell} {d : List UInt8} {lim : Int} {ms : List Nat} {cur ahead turn vf cur' ahead' turn' vf' : Int} {key key' : List UInt8} (h : mk cnt d lim ms cur ahead turn key vf = mk cnt d lim ms cur' ahead' turn' key' vf') :
    cur = cur' ∧ ahead = ahead' ∧ turn = turn' ∧ key = key' ∧ vf = vf' := by
  unfold mk fsI at h
  simp only [St.mk.injEq, Cell.inst.injEq, List.cons.injEq, Prod.mk.injEq, V.int.injEq, V.bytes.injEq, true_and, and_true] at h
  exact h
local macro_rules | `(tactic| nest_room) => `(tactic| first | (exact SCx.E (by assumption)) | assumption)
local macro_rules | `(tactic| lcg_src) => `(tactic| (refine (?lf : dup _) ?la; (case la => (simp only [fsB, fsI, lk, ofString_inj, String.reduceEq, ↓reduceIte]; try with_unfolding_all exact rfl)); (case lf => (intro _; kernel_rfl))))
local macro_rules | `(tactic| one_sign) => `(tactic| first | (refine (?lf : dup _) ?la; (case la => (simp only [fsB, fsI, stl, ofString_inj, String.reduceEq, ↓reduceIte]; with_unfolding_all exact rfl)); (case lf => (intro _; kernel_rfl))) | with_unfolding_all exact rfl)
local macro_rules | `(tactic| kt_ors) => `(tactic| first | (refine (?lf : dup _) ?la; (case la => (simp only [St.set]; with_unfolding_all exact rfl)); (case lf => (intro _; kernel_rfl))) | with_unfolding_all exact rfl)
local macro_rules | `(tactic| lcg_sub) => `(tactic| first | kernel_rfl | with_unfolding_all rfl)
local macro_rules | `(tactic| tlg_ne) => `(tactic| with_reducible first
  | (refine (?_ : SOk _ _ _ _ _ _ _ _ _ _); k_extra "# S_cons:? S_nil:? S_if:? S_ret:? S_rstart:CRU? S_atstart:CRU? S_assign:?RRR S_ret0:? S_expr:A?R S_pass:? s_aug:ClL? S_augA:C?")
  | (refine (?_ : EOk _ _ _ _ _ (eval _ _) _ _ _ _); first | k_extra "# E_local:CL? E_int:? E_attr:?R E_bin:? E_slice:C? E_sub:? E_bool:? E_none:? E_str:? E_byt:? E_cmp:?R E_tuple:C? E_list:C? E_neg:? len range bytes sum sorted E_callG:CKG?R E_append:C?RP E_meth:C?RP" | (refine E_fstr (by nest_room) (by kt_eqs) (by repeat (first | exact fp_nil | refine fp_lit (Nat.le_of_ble_eq_true (by kernel_rfl)) ?_ | refine fp_val (by lcg_src) (by omega) ?_)) (Nat.le_of_ble_eq_true (by kernel_rfl)) ?_) | refine E_gint (i := 4294967295) (by nest_room) (by lcg_sub) (gi_any (by kernel_rfl)) ?_)
  | (refine (?_ : EOk _ _ _ _ Bl _ _ _ _ _); k_extra "# T_cmp:?R T_bop:? T_and:? T_or:? T_andN:? T_orN:? T_not:? T_val:?R")
  | (refine (?_ : EOk _ _ _ _ _ _ _ _ _ _); k_extra "# Es_cons:?R Es_nil:? Part_none:? Part_some:?")
  | (refine (?_ : BinP _ _ _ _ _ _ _ _ _); k_extra "# C_lt:? C_le:? C_gt:? C_ge:? C_eq:? C_ne:? B_add:? B_sub:? I_add:? I_sub:? B_or:? B_and:? I_or:? C_ltB:? C_gtB:? C_geB:? C_eqB:? C_is:? C_isnot:? B_mod:o? B_fdiv:oo? B_pow:ooo? B_shl:ooo? B_mul:Z? B_mulS:Z?")
  | (refine (?_ : BuiltP _ _ _ _ _ _ _ _); k_extra "# Len_bytes:Z? Len_cell:RZ? Len_list:Z? Bytes_bytes:?")
  | (refine (?_ : AsOk _ _ _ _ _ _ _ _ _ _); k_extra "# as_name:ClS? As_attr:C? As_tuple:Cr?RR")
  | (refine (?_ : AttrP _ _ _ _ _ _ _ _); k_extra "# Attr_get:CRfL?")
  | k_extra "# le_and:Z? AsL_c:? AsL_n:? me_th:RLk? at_set:RkSZU? au_get:RkL? au_set:RSZU? brT:? brF:?"
  | refine ⟨_, (by one_sign), ?_⟩
  | refine ⟨_, rfl, ?_⟩)
section
variable {H : Hy} {cnt : Cell} {d : List UInt8} {lim cur ahead turn vf : Int} {ms : List Nat} {key : List UInt8} {n : Nat} {hn : Bool} {Q : V → St → Prop} {X : Exn → St → Prop}
theorem nI_len : (nI ms).length = ms.length := by unfold nI; simp
theorem nI_get {i : Nat} (h : i < ms.length) : (nI ms)[i]? = some (.int (mkAt ms i : Nat)) := by
  unfold nI mkAt
  rw [List.getElem?_map, List.getElem?_eq_getElem h, List.getD_eq_getElem?_getD, List.getElem?_eq_getElem h]; rfl
theorem Sub_rst {u : Uni} {A : Around} {l : List Env} {v i : Expr} {k : Int} {j : Nat} {σ : St} (hσ : σ.rst = .lst true (nI ms)) (hk : k = j) (hj : j < ms.length) (hm : ms.length ≤ 1000) (q : Q (.int (mkAt ms j : Nat)) σ) (hi : noSlice i = true := by rfl) :
    BinP u A l (subscriptTail v i) (.ref .rst) (.int k) Q X σ := by
  subst hk
  exact Sub_cell (p := true) (xs := nI ms) hσ (by lcg_off) (by rw [nI_len]; lcg_off) (nI_get (by lcg_off)) q hi
theorem Len_rst {u : Uni} {A : Around} {l : List Env} {σ : St} (hσ : σ.rst = .lst true (nI ms)) (hm : ms.length ≤ 1000) (q : Q (.int (ms.length : Nat)) σ) : BuiltP u A l (.builtin "len") [.ref .rst] Q X σ :=
  Len_cell (p := true) (xs := nI ms) hσ (by rw [nI_len]; lcg_off) (by rw [nI_len]; exact q)
theorem c_lose (q : Q .none (mk cnt d lim ms lim lim turn [] vf)) : SemM (uni H) (n + 1) hn .iter "lose" [.ref .itr] Q X (mk cnt d lim ms cur ahead turn key vf) := by
  refine semM_of (f := 173) (by kernel_rfl) (semV_fn rfl rfl rfl rfl (by kernel_rfl) (ps := ["self"]) (ρ := [("self", .ref .itr)]) (by kernel_rfl) (fun vals h => by obtain ⟨a, rfl⟩ := len1 h; rfl) rfl rfl fun A l env C => ?_)
  dsimp only at C
  repeat tlg_ne
  exact q
theorem c_valid (q : Q (.bool (decide (cur < lim))) (mk cnt d lim ms cur ahead turn key vf)) : SemM (uni H) (n + 1) hn .iter "valid" [.ref .itr] Q X (mk cnt d lim ms cur ahead turn key vf) := by
  refine semM_of (f := 187) (by kernel_rfl) (semV_fn rfl rfl rfl rfl (by kernel_rfl) (ps := ["self"]) (ρ := [("self", .ref .itr)]) (by kernel_rfl) (fun vals h => by obtain ⟨a, rfl⟩ := len1 h; rfl) rfl rfl fun A l env C => ?_)
  dsimp only at C
  repeat tlg_ne
  exact q
theorem c_need (h1 : cur < lim → Q .none (mk cnt d lim ms cur ahead turn key vf)) (h2 : ¬ cur < lim → X .misuse (mk cnt d lim ms cur ahead turn key vf)) :
    SemM (uni H) (n + 1) true .iter "need" [.ref .itr] Q X (mk cnt d lim ms cur ahead turn key vf) := by
  refine semM_of (f := 180) (by kernel_rfl) (semV_fn rfl rfl rfl rfl (by kernel_rfl) (ps := ["self"]) (ρ := [("self", .ref .itr)]) (by kernel_rfl) (fun vals h => by obtain ⟨a, rfl⟩ := len1 h; rfl) rfl rfl fun A l env C => ?_)
  dsimp only at C
  repeat tlg_ne
  refine brD (fun h => ?_) (fun h => ?_)
  · repeat tlg_ne
    refine S_raise (c := .misuse) C rfl (by kernel_rfl) (by kernel_rfl) (by kt_eqs) ?_
    repeat tlg_ne
    exact h2 (by lcg_off)
  · repeat tlg_ne
    exact h1 (by lcg_off)
theorem c_key (h1 : cur < lim → Q (.bytes key) (mk cnt d lim ms cur ahead turn key vf)) (h2 : ¬ cur < lim → X .misuse (mk cnt d lim ms cur ahead turn key vf)) :
    SemM (uni H) (n + 2) true .iter "key" [.ref .itr] Q X (mk cnt d lim ms cur ahead turn key vf) := by
  refine semM_of (f := 194) (by kernel_rfl) (semV_fn rfl rfl rfl rfl (by kernel_rfl) (ps := ["self"]) (ρ := [("self", .ref .itr)]) (by kernel_rfl) (fun vals h => by obtain ⟨a, rfl⟩ := len1 h; rfl) rfl rfl fun A l env C => ?_)
  dsimp only at C
  repeat tlg_ne
  refine c_need (fun h => ?_) (fun h => ?_)
  · repeat tlg_ne
    exact h1 h
  · exact h2 h
theorem c_value {vf ahead : Nat} (hz : d.length ≤ 16777216) (h1 : cur < lim → Q (.bytes (sl d vf ahead)) (mk cnt d lim ms cur ahead turn key vf)) (h2 : ¬ cur < lim → X .misuse (mk cnt d lim ms cur ahead turn key vf)) :
    SemM (uni H) (n + 2) true .iter "value" [.ref .itr] Q X (mk cnt d lim ms cur ahead turn key vf) := by
  refine semM_of (f := 201) (by kernel_rfl) (semV_fn rfl rfl rfl rfl (by kernel_rfl) (ps := ["self"]) (ρ := [("self", .ref .itr)]) (by kernel_rfl) (fun vals h => by obtain ⟨a, rfl⟩ := len1 h; rfl) rfl rfl fun A l env C => ?_)
  dsimp only at C
  repeat tlg_ne
  refine c_need (fun h => ?_) (fun h => ?_)
  · repeat tlg_ne
    refine Sl_bytes C.E (i := some vf) (j := some ahead) ?_ ?_ hz ?_
    · simp [endOf]
    · simp [endOf]
    · exact h1 h
  · exact h2 h
theorem c_go {turn' : Nat} (hz : ms.length ≤ 1000) (ht : turn' < ms.length) (q : Q .none (mk cnt d lim ms lim (mkAt ms turn' : Nat) turn' [] vf)) : SemM (uni H) (n + 2) hn .iter "go_restart" [.ref .itr, .int turn'] Q X (mk cnt d lim ms cur ahead turn key vf) := by
  refine semM_of (f := 208) (by kernel_rfl) (semV_fn rfl rfl rfl rfl (by kernel_rfl) (ps := ["self", "turn"]) (ρ := [("self", .ref .itr), ("turn", .int turn')]) (by kernel_rfl) (fun vals h => by obtain ⟨a, b, rfl⟩ := len2 h; rfl) rfl rfl fun A l env C => ?_)
  dsimp only at C
  repeat tlg_ne
  refine c_lose ?_
  repeat tlg_ne
  refine Sub_rst rfl rfl ht hz ?_ rfl
  repeat tlg_ne
  exact q
theorem c_cmp {a b : List UInt8} {σ : St} (q : Q (.int (if a < b then -1 else if b < a then 1 else 0)) σ) : SemM (uni H) (n + 1) hn .order "compare" [.ref .ord, .bytes a, .bytes b] Q X σ := by
  refine semM_of (f := 278) (by kernel_rfl) (semV_fn rfl rfl rfl rfl (by kernel_rfl) (ps := ["self", "a", "b"]) (ρ := [("self", .ref .ord), ("a", .bytes a), ("b", .bytes b)]) (by kernel_rfl) (fun vals h => by obtain ⟨a, b, c, rfl⟩ := len3 h; rfl) rfl rfl fun A l env C => ?_)
  dsimp only at C
  repeat tlg_ne
  refine brD (fun h => ?_) (fun h => ?_)
  · repeat tlg_ne
    rw [if_pos h] at q
    exact q
  · repeat tlg_ne
    rw [if_neg h] at q
    refine brD (fun h => ?_) (fun h => ?_)
    · repeat tlg_ne
      rw [if_pos h] at q
      exact q
    · repeat tlg_ne
      rw [if_neg h] at q
      exact q
end
section
theorem bor_nat (a b : Nat) : Builtin.bitOr (a : Int) (b : Int) = ((a ||| b : Nat) : Int) := by
  unfold Builtin.bitOr Builtin.bitAnd Builtin.bitNot
  rw [decide_eq_false (by lcg_off), decide_eq_false (by lcg_off)]
  simp only
  rw [show (-(-(a : Int) - 1) - 1).toNat = a by lcg_off, show (-(-(b : Int) - 1) - 1).toNat = b by lcg_off]
  lcg_off
theorem band_nat (a b : Nat) : Builtin.bitAnd (a : Int) (b : Int) = ((a &&& b : Nat) : Int) := by
  unfold Builtin.bitAnd
  rw [decide_eq_true (by lcg_off), decide_eq_true (by lcg_off)]
  simp
theorem bor_shift {a b k : Nat} (h : a < 2 ^ k) : a ||| (b * 2 ^ k) = a + b * 2 ^ k := by
  have := Nat.shiftLeft_add_eq_or_of_lt h b
  rw [Nat.shiftLeft_eq] at this
  rw [Nat.or_comm, ← this, Nat.add_comm]
theorem and127 (x : Nat) : x &&& 127 = x % 128 := Nat.and_two_pow_sub_one_eq_mod x 7
theorem bor_sh {a b k : Nat} (h : a < 2 ^ k) : Builtin.bitOr (a : Int) ((b : Int) * 2 ^ k) = ((a + b * 2 ^ k : Nat) : Int) := by
  rw [← bor_shift h, ← bor_nat]; push_cast; rfl
end
section
variable {H : Hy} {d : List UInt8} {n : Nat} {hn : Bool} {Q : V → St → Prop} {X : Exn → St → Prop} {σ : St}
theorem Sub_oc {u : Uni} {A : Around} {l : List Env} {v i : Expr} {k : Int} {j : Nat} {Q : V → St → Prop} {X : Exn → St → Prop} (hk : k = j) (hk' : j < d.length) (hz : d.length ≤ 16777216) (q : Q (.int (oc d j : Nat)) σ) (hi : noSlice i = true := by rfl) :
    BinP u A l (subscriptTail v i) (.bytes d) (.int k) Q X σ := by
  subst hk
  exact Sub_bytes (by lcg_off) (by lcg_off) hz (by simpa [oc] using q) hi
theorem c_rf {at' : Nat} {k : Int} (hk : k = at') (hz : d.length ≤ 16777216) (ha : at' + 4 ≤ d.length) (q : Q (.int (fx d at' : Nat)) σ) : SemG (uni H) (n + 1) hn "read_fixed32" [.bytes d, .int k] Q X σ := by
  subst hk
  refine semG_of (f := 103) (by kernel_rfl) (semV_fn rfl rfl rfl rfl (by kernel_rfl) (ps := ["data", "at"]) (ρ := [("data", .bytes d), ("at", .int at')]) (by kernel_rfl) (fun vals h => by obtain ⟨a, b, rfl⟩ := len2 h; rfl) rfl rfl fun A l env C => ?_)
  dsimp only at C
  repeat tlg_ne
  refine ⟨fun h => ?_, fun _ => ?_⟩
  · simp at h; k_lenW
  repeat tlg_ne
  refine brX (by k_lenW) ?_
  repeat tlg_ne
  refine Sub_oc rfl (by k_lenW) hz ?_ rfl
  repeat tlg_ne
  refine Sub_oc (j := at' + 1) (by push_cast; rfl) (by k_lenW) hz ?_ rfl
  repeat tlg_ne
  refine B_shl (by k_lenW) (by k_lenW) (by have := oc_lt d (at' + 1); k_lenW) ?_
  repeat tlg_ne
  refine Sub_oc (j := at' + 2) (by push_cast; rfl) (by k_lenW) hz ?_ rfl
  repeat tlg_ne
  refine B_shl (by k_lenW) (by k_lenW) (by have := oc_lt d (at' + 2); k_lenW) ?_
  repeat tlg_ne
  refine Sub_oc (j := at' + 3) (by push_cast; rfl) (by k_lenW) hz ?_ rfl
  repeat tlg_ne
  refine B_shl (by k_lenW) (by k_lenW) (by have := oc_lt d (at' + 3); k_lenW) ?_
  repeat tlg_ne
  have b0 := oc_lt d at'
  have b1 := oc_lt d (at' + 1)
  have b2 := oc_lt d (at' + 2)
  have e : Builtin.bitOr (Builtin.bitOr (Builtin.bitOr (oc d at' : Nat) ((oc d (at' + 1) : Nat) * 2 ^ (8 : Int).toNat)) ((oc d (at' + 2) : Nat) * 2 ^ (16 : Int).toNat)) ((oc d (at' + 3) : Nat) * 2 ^ (24 : Int).toNat) = ((fx d at' : Nat) : Int) := by
    rw [show (8 : Int).toNat = 8 from rfl, show (16 : Int).toNat = 16 from rfl, show (24 : Int).toNat = 24 from rfl]
    rw [bor_sh (k := 8) (by k_lenW), bor_sh (k := 16) (by k_lenW), bor_sh (k := 24) (by k_lenW)]
    unfold fx
    norm_cast
  rw [e]; exact q
theorem c_rg {at' : Nat} (hz : d.length ≤ 16777216) (h1 : ∀ v p, var d d.length at' = some (v, p) → Q (.tup [.int (v : Nat), .int (p : Nat)]) σ) (h2 : var d d.length at' = none → X .corrupt σ ∧ X .short σ) :
    SemG (uni H) (n + 1) true "read_groups" [.bytes d, .int at', .int 5, .int 4294967295] Q X σ := by
  refine semG_of (f := 89) (by kernel_rfl) (semV_fn rfl rfl rfl rfl (by kernel_rfl) (ps := ["data", "at", "octets", "most"]) (ρ := [("data", .bytes d), ("at", .int at'), ("octets", .int 5), ("most", .int 4294967295)]) (by kernel_rfl) (fun vals h => by obtain ⟨a, b, c, e, rfl⟩ := len4 h; rfl) rfl rfl fun A l env C => ?_)
  dsimp only at C
  repeat tlg_ne
  refine brX (by lcg_off) ?_
  repeat tlg_ne
  refine S_forR C rfl ?_
  repeat tlg_ne
  refine Range_1 C.ne ?_
  refine ⟨0, 5, rfl, by lcg_off, ?_⟩
  generalize hR : var d d.length at' = R at h1 h2
  have p128 : ∀ k : Nat, 128 ^ k = 2 ^ (7 * k) := fun k => by rw [Nat.pow_mul]
  refine ForR_inv2 (fun i ρ σ' => ∃ k m a : Nat, i = k ∧ k ≤ 5 ∧ σ' = σ ∧ ρ = ([("data", .bytes d), ("at", .int a), ("octets", .int 5), ("most", .int 4294967295), ("n", .int m), ("shift", .int (7 * k : Nat))] : Loc) ∧ m < 2 ^ (7 * k) ∧ vr d d.length (5 - k) a k m = R) (by lcg_off)
    (fun i ρ σ' _ hi I => ?_) (fun ρ ρ₁ σ' sb I => ?_) ⟨_, Sub.refl _, 0, 0, at', rfl, by lcg_off, rfl, rfl, by lcg_off, hR⟩
  · revert hi
    obtain ⟨k, m, a, rfl, hk, rfl, rfl, hm, hv⟩ := I
    intro hi
    have hk4 : k < 5 := by lcg_off
    rw [show 5 - k = (4 - k) + 1 by lcg_off] at hv
    unfold vr at hv
    repeat tlg_ne
    refine brD (fun h => ?_) (fun h => ?_)
    · repeat tlg_ne
      rw [if_neg (by lcg_off)] at hv
      refine S_raise (c := .short) C rfl (by kernel_rfl) (by kernel_rfl) (by kt_eqs) ?_
      repeat tlg_ne
      exact (h2 hv.symm).2
    have ha : a < d.length := by lcg_off
    rw [if_pos ha] at hv
    have ho := oc_lt d a
    repeat tlg_ne
    refine Sub_oc rfl ha hz ?_ rfl
    repeat tlg_ne
    rw [show (127 : Int) = ((127 : Nat) : Int) from rfl, band_nat, and127]
    refine B_shl (by lcg_off) (by lcg_off) (by lcg_off) ?_
    repeat tlg_ne
    rw [Int.toNat_natCast, bor_sh hm]
    have hm' : m + oc d a % 128 * 2 ^ (7 * k) < 2 ^ (7 * (k + 1)) := by
      rw [show 7 * (k + 1) = 7 + 7 * k by lcg_off, Nat.pow_add]
      have : oc d a % 128 * 2 ^ (7 * k) ≤ 127 * 2 ^ (7 * k) := Nat.mul_le_mul_right _ (by lcg_off)
      lcg_off
    have hbig : m + oc d a % 128 * 2 ^ (7 * k) < 2 ^ 35 := Nat.lt_of_lt_of_le hm' (Nat.pow_le_pow_right (by lcg_off) (by lcg_off))
    rw [p128] at hv
    generalize hM : m + oc d a % 128 * 2 ^ (7 * k) = M at hm' hbig hv ⊢
    refine brD (fun h => ?_) (fun h => ?_)
    · have h' : oc d a < 128 := by lcg_off
      rw [if_pos h', ← Nat.mod_eq_of_lt h', hM] at hv
      repeat tlg_ne
      refine brD (fun h => ?_) (fun h => ?_)
      · rw [if_neg (by lcg_off)] at hv
        repeat tlg_ne
        refine S_raise (c := .corrupt) C rfl (by kernel_rfl) (by kernel_rfl) (by kt_eqs) ?_
        repeat tlg_ne
        exact (h2 hv.symm).1
      · rw [if_pos (by lcg_off)] at hv
        repeat tlg_ne
        exact h1 _ _ hv.symm
    · rw [if_neg (by lcg_off)] at hv
      repeat tlg_ne
      refine ⟨_, ?_, k + 1, M, a + 1, by push_cast; lcg_off, by lcg_off, rfl, rfl, hm', ?_⟩
      · repeat (first | exact Sub.nil | refine Sub.cons (by lcg_src) ?_)
      · rw [show 5 - (k + 1) = 4 - k by lcg_off]; exact hv
  · obtain ⟨k, m, a, e, hk, rfl, rfl, hm, hv⟩ := I
    obtain rfl : k = 5 := by lcg_off
    refine S_drop sb ?_
    repeat tlg_ne
    refine S_raise (c := .corrupt) C rfl (by kernel_rfl) (by kernel_rfl) (by kt_eqs) ?_
    repeat tlg_ne
    exact (h2 hv.symm).1
theorem c_rv {at' : Nat} (hz : d.length ≤ 16777216) (h1 : ∀ v p, var d d.length at' = some (v, p) → Q (.tup [.int (v : Nat), .int (p : Nat)]) σ) (h2 : var d d.length at' = none → X .corrupt σ ∧ X .short σ) :
    SemG (uni H) (n + 2) true "read_varint32" [.bytes d, .int at'] Q X σ := by
  refine semG_of (f := 96) (by kernel_rfl) (semV_fn rfl rfl rfl rfl (by kernel_rfl) (ps := ["data", "at"]) (ρ := [("data", .bytes d), ("at", .int at')]) (by kernel_rfl) (fun vals h => by obtain ⟨a, b, rfl⟩ := len2 h; rfl) rfl rfl fun A l env C => ?_)
  dsimp only at C
  refine S_cons (S_ifT (at' < d.length ∧ oc d at' < 128) ?_ (fun h => ?_) (fun h => ?_))
  · repeat tlg_ne
    refine brY (by lcg_off) ?_
    repeat tlg_ne
    refine brD (fun h => ?_) (fun h => ?_)
    · repeat tlg_ne
      refine Sub_oc rfl (by lcg_off) hz ?_ rfl
      repeat tlg_ne
      refine brD (fun h2 => ?_) (fun h2 => ?_)
      · repeat tlg_ne
        exact ⟨by rw [decide_eq_true (by lcg_off)], rfl⟩
      · exact ⟨by rw [decide_eq_false (by lcg_off)], rfl⟩
    · exact ⟨by rw [decide_eq_false (by lcg_off)], rfl⟩
  · repeat tlg_ne
    refine Sub_oc rfl h.1 hz ?_ rfl
    repeat tlg_ne
    refine h1 (oc d at') (at' + 1) ?_
    unfold var vr
    rw [if_pos h.1, if_pos h.2, if_pos (by lcg_off)]
    simp
  · repeat tlg_ne
    exact c_rg hz h1 h2
end
section
variable {H : Hy} {cnt : Cell} {d : List UInt8} {lim : Nat} {cur ahead turn vf : Int} {ms : List Nat} {key : List UInt8} {n : Nat} {hn : Bool} {Q : V → St → Prop} {X : Exn → St → Prop}
theorem c_ent {at' : Nat} (hz : d.length ≤ 16777216) (h1 : ∀ s p va en, pent d lim at' = some (s, p, va, en) → Q (.tup [.int (s : Nat), .int (p : Nat), .int (va : Nat), .int (en : Nat)]) (mk cnt d lim ms cur ahead turn key vf))
    (h2 : pent d lim at' = none → X .corrupt (mk cnt d lim ms cur ahead turn key vf) ∧ X .short (mk cnt d lim ms cur ahead turn key vf)) :
    SemM (uni H) (n + 3) true .block "entry_at" [.ref .blk, .int at'] Q X (mk cnt d lim ms cur ahead turn key vf) := by
  refine semM_of (f := 138) (by kernel_rfl) (semV_fn rfl rfl rfl rfl (by kernel_rfl) (ps := ["self", "at"]) (ρ := [("self", .ref .blk), ("at", .int at')]) (by kernel_rfl) (fun vals h => by obtain ⟨a, b, rfl⟩ := len2 h; rfl) rfl rfl fun A l env C => ?_)
  dsimp only at C
  unfold pent hd3 at h1 h2
  repeat tlg_ne
  refine c_rv hz (fun s p1 e1 => ?_) (fun e => h2 (by rw [e]))
  rw [e1] at h1 h2
  repeat tlg_ne
  refine c_rv hz (fun u p2 e2 => ?_) (fun e => h2 (by simp only [e]))
  simp only [e2] at h1 h2
  repeat tlg_ne
  refine c_rv hz (fun v p3 e3 => ?_) (fun e => h2 (by simp only [e]))
  simp only [e3] at h1 h2
  repeat tlg_ne
  refine brD (fun h => ?_) (fun h => ?_)
  · rw [if_neg (by lcg_off)] at h2
    repeat tlg_ne
    refine S_raise (c := .corrupt) C rfl (by kernel_rfl) (by kernel_rfl) (by kt_eqs) ?_
    repeat tlg_ne
    exact (h2 rfl).1
  · rw [if_pos (by lcg_off)] at h1
    repeat tlg_ne
    exact h1 _ _ _ _ rfl
theorem c_rk {i : Nat} (hz : d.length ≤ 16777216) (hm : ms.length ≤ 1000) (hi : i < ms.length) (h1 : ∀ k, rkey d lim ms i = some k → Q (.bytes k) (mk cnt d lim ms cur ahead turn key vf))
    (h2 : rkey d lim ms i = none → X .corrupt (mk cnt d lim ms cur ahead turn key vf) ∧ X .short (mk cnt d lim ms cur ahead turn key vf)) :
    SemM (uni H) (n + 4) true .block "restart_key" [.ref .blk, .int i] Q X (mk cnt d lim ms cur ahead turn key vf) := by
  refine semM_of (f := 145) (by kernel_rfl) (semV_fn rfl rfl rfl rfl (by kernel_rfl) (ps := ["self", "turn"]) (ρ := [("self", .ref .blk), ("turn", .int i)]) (by kernel_rfl) (fun vals h => by obtain ⟨a, b, rfl⟩ := len2 h; rfl) rfl rfl fun A l env C => ?_)
  dsimp only at C
  unfold rkey at h1 h2
  repeat tlg_ne
  refine Sub_rst rfl rfl hi hm ?_ rfl
  repeat tlg_ne
  refine c_ent hz (fun s p va en e => ?_) (fun e => h2 (by rw [e]))
  simp only [e] at h1 h2
  repeat tlg_ne
  refine brD (fun h => ?_) (fun h => ?_)
  · rw [if_pos (by lcg_off)] at h2
    repeat tlg_ne
    refine S_raise (c := .corrupt) C rfl (by kernel_rfl) (by kernel_rfl) (by kt_eqs) ?_
    repeat tlg_ne
    exact (h2 rfl).1
  · rw [if_neg (by lcg_off)] at h1
    repeat tlg_ne
    refine Sl_bytes C.E (i := some p) (j := some va) (by simp [endOf]) (by simp [endOf]) hz ?_
    exact h1 _ rfl
theorem c_cr (hm : ms.length ≤ 1000) (q : Q (.int (ms.length : Nat)) (mk cnt d lim ms cur ahead turn key vf)) : SemM (uni H) (n + 1) hn .block "count_restarts" [.ref .blk] Q X (mk cnt d lim ms cur ahead turn key vf) := by
  refine semM_of (f := 124) (by kernel_rfl) (semV_fn rfl rfl rfl rfl (by kernel_rfl) (ps := ["self"]) (ρ := [("self", .ref .blk)]) (by kernel_rfl) (fun vals h => by obtain ⟨a, rfl⟩ := len1 h; rfl) rfl rfl fun A l env C => ?_)
  dsimp only at C
  repeat tlg_ne
  refine Len_rst rfl hm ?_
  exact q
theorem c_iinit {σ : St} (hσ : σ = ⟨cnt, .inst .order [], .inst .block (fsB d lim), .lst true (nI ms), .inst .iter []⟩) (q : Q .none (mk cnt d lim ms lim lim 0 [] 0)) : SemM (uni H) (n + 1) hn .iter "__init__" [.ref .itr, .ref .blk] Q X σ := by
  subst hσ
  refine semM_of (f := 166) (by kernel_rfl) (semV_fn rfl rfl rfl rfl (by kernel_rfl) (ps := ["self", "block"]) (ρ := [("self", .ref .itr), ("block", .ref .blk)]) (by kernel_rfl) (fun vals h => by obtain ⟨a, b, rfl⟩ := len2 h; rfl) rfl rfl fun A l env C => ?_)
  dsimp only at C
  repeat tlg_ne
  exact q
theorem c_walk {σ : St} (hσ : σ = ⟨cnt, .inst .order [], .inst .block (fsB d lim), .lst true (nI ms), .dead⟩) (q : Q (.ref .itr) (mk cnt d lim ms lim lim 0 [] 0)) : SemM (uni H) (n + 3) hn .block "walk" [.ref .blk] Q X σ := by
  subst hσ
  refine semM_of (f := 131) (by kernel_rfl) (semV_fn rfl rfl rfl rfl (by kernel_rfl) (ps := ["self"]) (ρ := [("self", .ref .blk)]) (by kernel_rfl) (fun vals h => by obtain ⟨a, rfl⟩ := len1 h; rfl) rfl rfl fun A l env C => ?_)
  dsimp only at C
  repeat tlg_ne
  refine semG_cls (c := .iter) (k := .itr) (by kernel_rfl) rfl (by kernel_rfl) (mt_of (by kernel_rfl)) rfl ?_
  exact c_iinit rfl ⟨rfl, q⟩
theorem c_binit {σ : St} (hz : d.length ≤ 1000) (hσ : σ = ⟨cnt, .inst .order [], .inst .block [], .dead, .dead⟩) (h1 : ∀ (lim : Nat) ms, Opens d lim ms → Q .none ⟨cnt, .inst .order [], .inst .block (fsB d lim), .lst true (nI ms), .dead⟩)
    (h2 : (¬ ∃ lim ms, Opens d lim ms) → ∀ σ', X .corrupt σ' ∧ X .short σ') : SemM (uni H) (n + 2) true .block "__init__" [.ref .blk, .bytes d, .ref .ord] Q X σ := by
  subst hσ
  refine semM_of (f := 117) (by kernel_rfl) (semV_fn rfl rfl rfl rfl (by kernel_rfl) (ps := ["self", "data", "order"]) (ρ := [("self", .ref .blk), ("data", .bytes d), ("order", .ref .ord)]) (by kernel_rfl) (fun vals h => by obtain ⟨a, b, c, rfl⟩ := len3 h; rfl) rfl rfl fun A l env C => ?_)
  dsimp only at C
  repeat tlg_ne
  refine brD (fun h => ?_) (fun h => ?_)
  · repeat tlg_ne
    refine S_raise (c := .short) C rfl (by kernel_rfl) (by kernel_rfl) (by kt_eqs) ?_
    repeat tlg_ne
    exact (h2 (fun ⟨lim, ms, o⟩ => by have := o.blk.size; lcg_off) _).2
  repeat tlg_ne
  refine c_rf (at' := d.length - 4) (by lcg_off) (by lcg_off) (by lcg_off) ?_
  generalize hc : fx d (d.length - 4) = c
  have inv := fun lim ms (o : Opens d lim ms) => o.eq
  have inv2 := fun lim ms (o : Opens d lim ms) => opens_inv hc o
  rw [hc] at inv
  repeat tlg_ne
  refine brD (fun h => ?_) (fun h => ?_)
  · repeat tlg_ne
    refine S_raise (c := .corrupt) C rfl (by kernel_rfl) (by kernel_rfl) (by kt_eqs) ?_
    repeat tlg_ne
    exact (h2 (fun ⟨lim, ms, o⟩ => by have := inv lim ms o; lcg_off) _).1
  repeat tlg_ne
  refine brD (fun h => ?_) (fun h => ?_)
  · repeat tlg_ne
    refine S_raise (c := .corrupt) C rfl (by kernel_rfl) (by kernel_rfl) (by kt_eqs) ?_
    repeat tlg_ne
    exact (h2 (fun ⟨lim, ms, o⟩ => by have := inv lim ms o; lcg_off) _).1
  repeat tlg_ne
  have hlim : (d.length : Int) - 4 * ((c : Int) + 1) = ((d.length - 4 * (c + 1) : Nat) : Int) := by lcg_off
  rw [hlim]
  generalize hL : d.length - 4 * (c + 1) = lim at inv inv2
  refine S_forR C rfl ?_
  repeat tlg_ne
  refine Range_1 C.ne ?_
  refine ⟨0, c, rfl, by lcg_off, ?_⟩
  refine ForR_inv2 (fun i ρ σ' => ∃ k : Nat, i = k ∧ k ≤ c ∧ σ' = ⟨cnt, .inst .order [], .inst .block (fsB d lim), .lst true (nI ((marks d lim c).take k)), .dead⟩ ∧ ρ = ([("self", .ref .blk), ("data", .bytes d), ("order", .ref .ord), ("size", .int d.length), ("count", .int c)] : Loc) ∧
      (0 < k → fx d lim = 0) ∧ ∀ j, j + 1 < k → fx d (lim + 4 * j) < fx d (lim + 4 * (j + 1)) ∧ fx d (lim + 4 * (j + 1)) < lim) (by lcg_off)
    (fun i ρ σ' _ hi I => ?_) (fun ρ ρ₁ σ' sb I => ?_) ⟨_, Sub.refl _, 0, rfl, by lcg_off, rfl, rfl, by lcg_off, by lcg_off⟩
  · revert hi
    obtain ⟨k, rfl, hk, rfl, rfl, hz0, hup⟩ := I
    intro hi
    have hk' : k < c := by lcg_off
    repeat tlg_ne
    refine c_rf (at' := lim + 4 * k) (by push_cast; rfl) (by lcg_off) (by lcg_off) ?_
    have tk : nI ((marks d lim c).take k) ++ [.int (fx d (lim + 4 * k) : Nat)] = nI ((marks d lim c).take (k + 1)) := by
      have hl : k < (marks d lim c).length := by rw [marks_len]; exact hk'
      have e : (marks d lim c)[k] = fx d (lim + 4 * k) := by
        have := marks_at (d := d) (lim := lim) hk'
        unfold mkAt at this
        rwa [List.getD_eq_getElem?_getD, List.getElem?_eq_getElem hl, Option.getD_some] at this
      unfold nI
      rw [List.take_succ_eq_append_getElem hl, List.map_append, e]; rfl
    have tl : (nI ((marks d lim c).take k)).length = k := by rw [nI_len, List.length_take, marks_len]; lcg_off
    refine as_name C.E (.inl (by lcg_sub)) (by one_sign) ?_
    refine S_same ((k = 0 → fx d lim = 0) ∧ (0 < k → fx d (lim + 4 * (k - 1)) < fx d (lim + 4 * k) ∧ fx d (lim + 4 * k) < lim)) (S_ifT (k = 0) ?_ (fun hk0 => ?_) (fun hk0 => ?_)) (fun hP => ?_)
    · repeat tlg_ne
      exact ⟨decide_eq_decide.mpr (by lcg_off), rfl⟩
    · subst hk0
      repeat tlg_ne
      refine brD (fun h => ?_) (fun h => ?_)
      · repeat tlg_ne
        refine S_raise (c := .corrupt) C rfl (by kernel_rfl) (by kernel_rfl) (by kt_eqs) ?_
        repeat tlg_ne
        exact (h2 (fun ⟨lim, ms, o⟩ => by have := (inv2 lim ms o).1; rw [Nat.mul_zero, Nat.add_zero] at h; lcg_off) _).1
      · repeat tlg_ne
        exact ⟨rfl, rfl, fun _ => by rw [Nat.mul_zero, Nat.add_zero] at h; lcg_off, by lcg_off⟩
    · refine S_cons (S_ifT (¬ (fx d (lim + 4 * (k - 1)) < fx d (lim + 4 * k) ∧ fx d (lim + 4 * k) < lim)) ?_ (fun h => ?_) (fun h => ?_))
      · repeat tlg_ne
        have gt : (nI ((marks d lim c).take k))[k - 1]? = some (.int (fx d (lim + 4 * (k - 1)) : Nat)) := by
          rw [nI_get (by rw [nI_len] at tl; lcg_off)]
          unfold mkAt
          rw [List.getD_eq_getElem?_getD, List.getElem?_take_of_lt (by lcg_off), ← List.getD_eq_getElem?_getD]
          have := marks_at (d := d) (lim := lim) (c := c) (i := k - 1) (by lcg_off)
          unfold mkAt at this
          rw [this]
        refine Sub_cell (p := true) (xs := nI ((marks d lim c).take k)) rfl (by lcg_off) (by lcg_off) (show _[((k : Int) - 1).toNat]? = _ from by rw [show ((k : Int) - 1).toNat = k - 1 by lcg_off]; exact gt) ?_ rfl
        repeat tlg_ne
        refine brD (fun h => ?_) (fun h => ?_)
        · exact ⟨by rw [decide_eq_true (by lcg_off)], rfl⟩
        · repeat tlg_ne
          refine brD (fun h => ?_) (fun h => ?_)
          · exact ⟨by rw [decide_eq_true (by lcg_off)], rfl⟩
          · repeat tlg_ne
            exact ⟨by rw [decide_eq_false (by lcg_off)], rfl⟩
      · repeat tlg_ne
        refine S_raise (c := .corrupt) C rfl (by kernel_rfl) (by kernel_rfl) (by kt_eqs) ?_
        repeat tlg_ne
        refine (h2 (fun ⟨lim, ms, o⟩ => h ?_) _).1
        have := (inv2 lim ms o).2 (k - 1) (by lcg_off)
        rwa [show k - 1 + 1 = k by lcg_off] at this
      · repeat tlg_ne
        exact ⟨rfl, rfl, by lcg_off, fun _ => Classical.not_not.mp h⟩
    · repeat tlg_ne
      refine ⟨.rst, _, rfl, rfl, ?_⟩
      repeat tlg_ne
      refine ⟨_, ?_, k + 1, by push_cast; rfl, hk', ?_, rfl, fun _ => ?_, fun j hj => ?_⟩
      · repeat (first | exact Sub.nil | refine Sub.cons (by lcg_src) ?_)
      · rw [← tk]; rfl
      · by_cases q : k = 0
        · exact hP.1 q
        · exact hz0 (by lcg_off)
      · by_cases q : j + 1 < k
        · exact hup j q
        · obtain rfl : k = j + 1 := by lcg_off
          have := hP.2 (by lcg_off)
          rwa [show j + 1 - 1 = j by lcg_off] at this
  · obtain ⟨k, e, hk, rfl, rfl, hz0, hup⟩ := I
    obtain rfl : k = c := by lcg_off
    refine S_drop sb ?_
    repeat tlg_ne
    rw [List.take_of_length_le (by rw [marks_len]; lcg_off)]
    refine h1 lim _ ?_
    subst hL
    exact opens_of hc (by lcg_off) (by lcg_off) (hz0 (by lcg_off)) hup
end
section
variable {H : Hy} {cnt : Cell} {d : List UInt8} {lim : Nat} {cur ahead turn vf : Int} {ms : List Nat} {key : List UInt8} {n : Nat} {hn : Bool} {Q : V → St → Prop} {X : Exn → St → Prop}
theorem c_parse {start tn : Nat} (hz : d.length ≤ 16777216) (hm : ms.length ≤ 1000) (ht : tn < ms.length) (hk : key.length ≤ 1000000) (hd : d.length ≤ 1000000) (h0 : ¬ start < lim → Q (.bool false) (mk cnt d lim ms lim lim tn [] vf))
    (h1 : ∀ (i : Nat) r, start < lim → prs d lim ms tn start key = some (i, r) → Q (.bool true) (mk cnt d lim ms (r.st : Nat) (r.en : Nat) i r.key (r.va : Nat)))
    (h2 : start < lim → prs d lim ms tn start key = none → ∀ t : Nat, X .corrupt (mk cnt d lim ms lim lim t [] vf) ∧ X .short (mk cnt d lim ms lim lim t [] vf)) :
    SemM (uni H) (n + 4) true .iter "parse" [.ref .itr] Q X (mk cnt d lim ms cur start tn key vf) := by
  refine semM_of (f := 215) (by kernel_rfl) (semV_fn rfl rfl rfl rfl (by kernel_rfl) (ps := ["self"]) (ρ := [("self", .ref .itr)]) (by kernel_rfl) (fun vals h => by obtain ⟨a, rfl⟩ := len1 h; rfl) rfl rfl fun A l env C => ?_)
  dsimp only at C
  repeat tlg_ne
  refine c_lose ?_
  repeat tlg_ne
  refine brD (fun h => ?_) (fun h => ?_)
  · repeat tlg_ne
    exact h0 (by lcg_off)
  have hs : start < lim := by lcg_off
  replace h1 := fun i r => h1 i r hs
  replace h2 := h2 hs
  unfold prs at h1 h2
  repeat tlg_ne
  refine c_ent hz (fun s p va en e => ?_) (fun e => h2 (by rw [e]) tn)
  simp only [e] at h1 h2
  repeat tlg_ne
  refine brD (fun h => ?_) (fun h => ?_)
  · rw [if_pos (show key.length < s by lcg_off)] at h2
    repeat tlg_ne
    refine S_raise (c := .corrupt) C rfl (by kernel_rfl) (by kernel_rfl) (by kt_eqs) ?_
    repeat tlg_ne
    exact (h2 rfl tn).1
  rw [if_neg (show ¬ key.length < s by lcg_off)] at h1 h2
  generalize hT : adv ms start ms.length tn = T at h1 h2
  repeat tlg_ne
  refine S_while C ?_
  refine Wh_inv2 (fun k ρ σ' => ∃ t : Nat, σ' = mk cnt d lim ms lim lim t [] vf ∧ t < ms.length ∧ ms.length ≤ t + k ∧ adv ms start k t = T ∧ ρ = ([("self", .ref .itr), ("start", .int start), ("before", .bytes key), ("shared", .int s), ("place", .int p), ("value_at", .int va), ("end", .int en), ("restarts", .ref .rst)] : Loc))
    (fun k ρ σ' I => ?_) (fun _ _ _ _ _ q => q) ⟨_, Sub.refl _, tn, rfl, ht, Nat.le_add_left _ _, hT, rfl⟩
  obtain ⟨t, rfl, ht', hk', hadv, rfl⟩ := I
  refine T_P (t + 1 < ms.length ∧ mkAt ms (t + 1) ≤ start) ?_ (fun hP => ?_) (fun hP => ?_)
  · repeat tlg_ne
    refine Len_rst rfl hm ?_
    repeat tlg_ne
    refine brD (fun h => ?_) (fun h => ?_)
    · repeat tlg_ne
      refine Sub_rst (j := t + 1) rfl (by lcg_off) (by lcg_off) hm ?_ rfl
      repeat tlg_ne
      refine brD (fun h => ?_) (fun h => ?_)
      · repeat tlg_ne
        exact ⟨by rw [decide_eq_true (by lcg_off)], rfl⟩
      · exact ⟨by rw [decide_eq_false (by lcg_off)], rfl⟩
    · exact ⟨by rw [decide_eq_false (by lcg_off)], rfl⟩
  · cases k with
    | zero => lcg_off
    | succ k =>
      unfold adv at hadv
      rw [if_pos hP] at hadv
      repeat tlg_ne
      exact ⟨_, Sub.refl _, k, Nat.lt_succ_self k, t + 1, rfl, hP.1, by lcg_off, hadv, rfl⟩
  have hadv' : t = T := by
    cases k with
    | zero => exact hadv
    | succ k => unfold adv at hadv; rw [if_neg hP] at hadv; exact hadv
  subst hadv'
  intro ρ'' sb
  refine S_drop sb ?_
  refine S_cons (S_ifT (start = mkAt ms t ∧ s ≠ 0) ?_ (fun hP => ?_) (fun hP => ?_))
  · repeat tlg_ne
    refine Sub_rst (j := t) rfl (by lcg_off) (by lcg_off) hm ?_ rfl
    repeat tlg_ne
    refine brD (fun h => ?_) (fun h => ?_)
    · repeat tlg_ne
      refine brD (fun h => ?_) (fun h => ?_)
      · repeat tlg_ne
        exact ⟨by rw [decide_eq_true (by lcg_off)], rfl⟩
      · exact ⟨by rw [decide_eq_false (by lcg_off)], rfl⟩
    · exact ⟨by rw [decide_eq_false (by lcg_off)], rfl⟩
  · rw [if_pos hP] at h2
    repeat tlg_ne
    refine S_raise (c := .corrupt) C rfl (by kernel_rfl) (by kernel_rfl) (by kt_eqs) ?_
    repeat tlg_ne
    exact (h2 rfl t).1
  rw [if_neg hP] at h1 h2
  refine S_nil ?_
  refine S_cons (S_ifT (t + 1 < ms.length ∧ mkAt ms (t + 1) < en) ?_ (fun hP => ?_) (fun hP => ?_))
  · repeat tlg_ne
    refine Len_rst rfl hm ?_
    repeat tlg_ne
    refine brD (fun h => ?_) (fun h => ?_)
    · repeat tlg_ne
      refine Sub_rst (j := t + 1) rfl (by lcg_off) (by lcg_off) hm ?_ rfl
      repeat tlg_ne
      refine brD (fun h => ?_) (fun h => ?_)
      · repeat tlg_ne
        exact ⟨by rw [decide_eq_true (by lcg_off)], rfl⟩
      · exact ⟨by rw [decide_eq_false (by lcg_off)], rfl⟩
    · exact ⟨by rw [decide_eq_false (by lcg_off)], rfl⟩
  · rw [if_pos hP] at h2
    repeat tlg_ne
    refine S_raise (c := .corrupt) C rfl (by kernel_rfl) (by kernel_rfl) (by kt_eqs) ?_
    repeat tlg_ne
    exact (h2 rfl t).1
  rw [if_neg hP] at h1
  have hq := h1 _ _ rfl
  repeat tlg_ne
  refine Sl_bytes C.E (i := none) (j := some s) (by simp [endOf]) (by simp [endOf]) (by lcg_off) ?_
  repeat tlg_ne
  refine Sl_bytes C.E (i := some p) (j := some va) (by simp [endOf]) (by simp [endOf]) (by lcg_off) ?_
  refine B_addB ?_ ?_
  · have a1 : (cut key none (some s)).length ≤ key.length := by simp [cut]; lcg_off
    have a2 : (cut d (some p) (some va)).length ≤ d.length := by simp [cut]; lcg_off
    lcg_off
  repeat tlg_ne
  exact hq
end
section
/-- where the iterator stands -/
noncomputable def Sd (cnt : Cell) (d : List UInt8) (lim : Nat) (ms : List Nat) : Option (Nat × Nat) → St → Prop
  | none, σ => ∃ (ah t vf : Int) (key : List UInt8), σ = mk cnt d lim ms lim ah t key vf
  | some (i, j), σ => i < ms.length ∧ ∃ r, rowAt (runs d lim ms) i j = some r ∧ σ = mk cnt d lim ms (r.st : Nat) (r.en : Nat) i r.key (r.va : Nat)
/-- what a move's outcome asks -/
noncomputable def Post (cnt : Cell) (d : List UInt8) (lim : Nat) (ms : List Nat) (res : Res) (Q : V → St → Prop) (X : Exn → St → Prop) : Prop :=
  ∀ σ', Sd cnt d lim ms res.1 σ' → (res.2 = 0 → Q .none σ') ∧ (res.2 = 1 → X .corrupt σ' ∧ X .short σ') ∧ (res.2 = 2 → X .misuse σ')
variable {H : Hy} {cnt : Cell} {d : List UInt8} {lim : Nat} {cur ahead turn vf : Int} {ms : List Nat} {key : List UInt8} {n : Nat} {hn : Bool} {Q : V → St → Prop} {X : Exn → St → Prop}
theorem Blk.msz (B : Blk d lim ms) (hz : d.length ≤ 1000) : ms.length ≤ 1000 ∧ lim ≤ 1000 := by have := B.size; lcg_off
theorem c_parseR (B : Blk d lim ms) (hz : d.length ≤ 1000) {start tn : Nat} (ht : tn < ms.length) (hk : key.length ≤ 1000) {res : Res} (pr : PR d lim ms tn start key res)
    (h : ∀ σ', Sd cnt d lim ms res.1 σ' → (res.2 = 0 → Q (.bool res.1.isSome) σ') ∧ (res.2 = 1 → X .corrupt σ' ∧ X .short σ')) :
    SemM (uni H) (n + 4) true .iter "parse" [.ref .itr] Q X (mk cnt d lim ms cur start tn key vf) := by
  obtain ⟨h1, h2⟩ := B.msz hz
  obtain ⟨pl, c⟩ := res
  match pl, c, pr with
  | some (i, j), c, pr =>
    obtain ⟨rfl, hs, r, hr, hp, hst, hi⟩ := pr
    refine c_parse (by lcg_off) (by lcg_off) ht (by lcg_off) (by lcg_off) (fun q => absurd hs q) (fun i' r' _ e => ?_) (fun _ e => ?_)
    · rw [hp] at e; cases e
      exact (h _ ⟨hi, r, hr, rfl⟩).1 rfl
    · rw [hp] at e; cases e
  | none, 0, pr =>
    exact c_parse (by lcg_off) (by lcg_off) ht (by lcg_off) (by lcg_off) (fun q => (h _ ⟨_, _, _, _, rfl⟩).1 rfl) (fun i' r' q e => absurd q pr) (fun q e => absurd q pr)
  | none, c + 1, pr =>
    obtain ⟨hc, hs, hp⟩ := pr
    exact c_parse (by lcg_off) (by lcg_off) ht (by lcg_off) (by lcg_off) (fun q => absurd hs q) (fun i' r' q e => by rw [hp] at e; cases e) (fun q e t => (h _ ⟨_, _, _, _, rfl⟩).2 hc)
theorem front2 {R : Rs} {i : Nat} : (front R i).2 ≤ 1 := by unfold front; split; exact Nat.zero_le _; dsimp only; split <;> lcg_off
theorem c_first (B : Blk d lim ms) (hz : d.length ≤ 1000) (h : Post cnt d lim ms (front (runs d lim ms) 0) Q X) : SemM (uni H) (n + 5) true .iter "seek_first" [.ref .itr] Q X (mk cnt d lim ms cur ahead turn key vf) := by
  obtain ⟨hm, hl⟩ := B.msz hz
  refine semM_of (f := 222) (by kernel_rfl) (semV_fn rfl rfl rfl rfl (by kernel_rfl) (ps := ["self"]) (ρ := [("self", .ref .itr)]) (by kernel_rfl) (fun vals h => by obtain ⟨a, rfl⟩ := len1 h; rfl) rfl rfl fun A l env C => ?_)
  dsimp only at C
  repeat tlg_ne
  refine c_go (turn' := 0) hm B.ne ?_
  repeat tlg_ne
  refine c_parseR B hz B.ne (by simp) (PR_front B B.ne (Nat.le_refl _) []) fun σ' sd => ⟨fun q => ?_, fun q => (h σ' sd).2.1 q⟩
  repeat tlg_ne
  exact (h σ' sd).1 q
theorem c_last (B : Blk d lim ms) (hz : d.length ≤ 1000) (h : Post cnt d lim ms (rear (runs d lim ms) (ms.length - 1)) Q X) : SemM (uni H) (n + 5) true .iter "seek_last" [.ref .itr] Q X (mk cnt d lim ms cur ahead turn key vf) := by
  obtain ⟨hm, hl⟩ := B.msz hz
  have hne := B.ne
  have hk : ms.length - 1 < ms.length := by lcg_off
  refine semM_of (f := 229) (by kernel_rfl) (semV_fn rfl rfl rfl rfl (by kernel_rfl) (ps := ["self"]) (ρ := [("self", .ref .itr)]) (by kernel_rfl) (fun vals h => by obtain ⟨a, rfl⟩ := len1 h; rfl) rfl rfl fun A l env C => ?_)
  dsimp only at C
  repeat tlg_ne
  refine Len_rst rfl hm ?_
  repeat tlg_ne
  rw [show (ms.length : Int) - 1 = ((ms.length - 1 : Nat) : Int) by lcg_off]
  refine c_go hm hk ?_
  repeat tlg_ne
  generalize hK : ms.length - 1 = k at hk h ⊢
  have fr := @front_rear (runs d lim ms) k
  refine c_parseR B hz hk (by simp) (PR_front B hk (Nat.le_refl _) []) fun σ' sd => ⟨fun q => ?_, fun q => ?_⟩
  · have hfin : fin lim ms k = lim := by unfold fin; rw [if_neg (by lcg_off)]
    refine S_cons (S_while C ?_)
    refine Wh_inv2 (fun m ρ σ' => ρ = ([("self", .ref .itr)] : Loc) ∧ ((∃ j, Sd cnt d lim ms (some (k, j)) σ' ∧ m = (rws (runs d lim ms) k).length - j) ∨ (Sd cnt d lim ms none σ' ∧ rear (runs d lim ms) k = (none, 0))))
      (fun m ρ σ' I => ?_) (fun _ _ _ _ _ q => q) (k := (rws (runs d lim ms) k).length) ⟨_, Sub.refl _, ?_⟩
    · obtain ⟨rfl, ⟨j, ⟨_, r, hr, rfl⟩, hmj⟩ | ⟨⟨ah, t, vf, key, rfl⟩, hrr⟩⟩ := I
      · have ro := B.row hk hr
        have rl := ro.lm
        have ru := ro.up
        have kl := ro.kl
        obtain ⟨e1, e2⟩ := B.toEnd hk hr
        rw [hfin] at e1 e2
        refine T_P (r.en < lim) ?_ (fun hP => ?_) (fun hP => ?_)
        · repeat tlg_ne
          refine c_valid ?_
          refine ⟨true, by rw [decide_eq_true (by lcg_off)], ?_⟩
          repeat tlg_ne
          refine brD (fun h => ?_) (fun h => ?_)
          · repeat tlg_ne
            exact ⟨by rw [decide_eq_true (by lcg_off)], rfl⟩
          · exact ⟨by rw [decide_eq_false (by lcg_off)], rfl⟩
        · repeat tlg_ne
          refine c_parseR B hz hk (by lcg_off) (PR_nxt B hk hr) fun σ' sd => ⟨fun q => ?_, fun q => ?_⟩
          · repeat tlg_ne
            rcases e1 hP with e | ⟨e, _⟩
            · rw [e] at sd
              have := row_lt hr
              exact ⟨_, Sub.refl _, _, by lcg_off, rfl, .inl ⟨j + 1, sd, rfl⟩⟩
            · rw [e] at q; cases q
          · rcases e1 hP with e | ⟨e, e'⟩
            · rw [e] at q; cases q
            · rw [e] at sd
              rw [e'] at h
              exact (h σ' sd).2.1 rfl
        · intro ρ'' sb
          refine S_nil ?_
          rw [e2 hP] at h
          exact (h _ ⟨hk, r, hr, rfl⟩).1 rfl
      · refine T_P False ?_ (fun hP => hP.elim) (fun hP => ?_)
        · repeat tlg_ne
          refine c_valid ?_
          refine ⟨false, by rw [decide_eq_false (by lcg_off)], ?_⟩
          repeat tlg_ne
          exact ⟨rfl, rfl⟩
        · intro ρ'' sb
          refine S_nil ?_
          rw [hrr] at h
          exact (h _ ⟨_, _, _, _, rfl⟩).1 rfl
    · refine ⟨rfl, ?_⟩
      generalize hF : front (runs d lim ms) k = F at sd q fr
      obtain ⟨pl, c⟩ := F
      dsimp only at q sd
      subst q
      match pl, hF, sd with
      | none, hF, sd => exact .inr ⟨sd, fr.1 rfl⟩
      | some (a, b), hF, sd =>
        have : a = k ∧ b = 0 := by
          unfold front at hF
          split at hF
          · cases hF; exact ⟨rfl, rfl⟩
          · cases hF
        obtain ⟨rfl, rfl⟩ := this
        exact .inl ⟨0, sd, rfl⟩
  · have hF : front (runs d lim ms) k = (none, 1) := by
      unfold front at q ⊢
      split at q
      · cases q
      · dsimp only at q
        rw [if_neg (by assumption), q]
    rw [hF] at sd
    rw [fr.2 hF] at h
    exact (h σ' sd).2.1 rfl
theorem c_step (B : Blk d lim ms) (hz : d.length ≤ 1000) {pl : Option (Nat × Nat)} {σ : St} (sd : Sd cnt d lim ms pl σ) (h : Post cnt d lim ms (after (runs d lim ms) pl 3 []) Q X) : SemM (uni H) (n + 5) true .iter "step" [.ref .itr] Q X σ := by
  obtain ⟨hm, hl⟩ := B.msz hz
  have hσ : ∃ cur ahead turn vf key, σ = mk cnt d lim ms cur ahead turn key vf := by
    match pl, sd with
    | none, ⟨ah, t, vf, key, e⟩ => exact ⟨_, _, _, _, _, e⟩
    | some (i, j), ⟨_, r, _, e⟩ => exact ⟨_, _, _, _, _, e⟩
  obtain ⟨cur, ahead, turn, vf, key, e⟩ := hσ
  subst e
  refine semM_of (f := 250) (by kernel_rfl) (semV_fn rfl rfl rfl rfl (by kernel_rfl) (ps := ["self"]) (ρ := [("self", .ref .itr)]) (by kernel_rfl) (fun vals h => by obtain ⟨a, rfl⟩ := len1 h; rfl) rfl rfl fun A l env C => ?_)
  dsimp only at C
  repeat tlg_ne
  match pl, sd with
  | none, ⟨ah, t, vf', key', e⟩ =>
    have h' := (h _ ⟨ah, t, vf', key', rfl⟩).2.2 rfl
    rw [e]
    exact c_need (fun q => absurd q (by lcg_off)) fun _ => h'
  | some (i, j), ⟨hi, r, hr, e⟩ =>
    have ro := B.row hi hr
    have rl := ro.lm
    have ru := ro.up
    have kl := ro.kl
    rw [e]
    refine c_need (fun q => ?_) (fun q => absurd q (by lcg_off))
    repeat tlg_ne
    refine c_parseR B hz hi (by lcg_off) (PR_nxt B hi hr) fun σ' sd => ⟨fun q => ?_, fun q => (h σ' sd).2.1 q⟩
    repeat tlg_ne
    exact (h σ' sd).1 q
theorem c_back (B : Blk d lim ms) (hz : d.length ≤ 1000) {pl : Option (Nat × Nat)} {σ : St} (sd : Sd cnt d lim ms pl σ) (h : Post cnt d lim ms (after (runs d lim ms) pl 4 []) Q X) : SemM (uni H) (n + 5) true .iter "back" [.ref .itr] Q X σ := by
  obtain ⟨hm, hl⟩ := B.msz hz
  have hσ : ∃ cur ahead turn vf key, σ = mk cnt d lim ms cur ahead turn key vf := by
    match pl, sd with
    | none, ⟨ah, t, vf, key, e⟩ => exact ⟨_, _, _, _, _, e⟩
    | some (i, j), ⟨_, r, _, e⟩ => exact ⟨_, _, _, _, _, e⟩
  obtain ⟨cur, ahead, turn, vf, key, e⟩ := hσ
  subst e
  refine semM_of (f := 257) (by kernel_rfl) (semV_fn rfl rfl rfl rfl (by kernel_rfl) (ps := ["self"]) (ρ := [("self", .ref .itr)]) (by kernel_rfl) (fun vals h => by obtain ⟨a, rfl⟩ := len1 h; rfl) rfl rfl fun A l env C => ?_)
  dsimp only at C
  repeat tlg_ne
  match pl, sd with
  | none, ⟨ah, t, vf', key', e⟩ =>
    have h' := (h _ ⟨ah, t, vf', key', rfl⟩).2.2 rfl
    rw [e]
    exact c_need (fun q => absurd q (by lcg_off)) fun _ => h'
  | some (i, j), ⟨hi, r, hr, e⟩ =>
    have ro := B.row hi hr
    have rl := ro.lm
    have ru := ro.up
    have kl := ro.kl
    rw [e]
    refine c_need (fun q => ?_) (fun q => absurd q (by lcg_off))
    repeat tlg_ne
    have h' : Post cnt d lim ms (prv (runs d lim ms) i j) Q X := h
    refine S_while C ?_
    refine Wh_inv2 (fun m ρ σ' => ∃ t : Nat, t = m ∧ σ' = mk cnt d lim ms (r.st : Nat) (r.en : Nat) i r.key (r.va : Nat) ∧ (t = i ∨ (t + 1 = i ∧ j = 0)) ∧ ρ = ([("self", .ref .itr), ("original", .int r.st), ("turn", .int t)] : Loc))
      (fun m ρ σ' I => ?_) (fun _ _ _ _ _ q => q) (k := i) ⟨_, Sub.refl _, i, rfl, rfl, .inl rfl, rfl⟩
    obtain ⟨t, rfl, rfl, ht, rfl⟩ := I
    have htl : t < ms.length := by lcg_off
    refine T_P (r.st ≤ mkAt ms t) ?_ (fun hP => ?_) (fun hP => ?_)
    · repeat tlg_ne
      refine Sub_rst (j := t) rfl rfl htl hm ?_ rfl
      repeat tlg_ne
      exact ⟨decide_eq_decide.mpr (by lcg_off), rfl⟩
    · have hti : t = i ∧ j = 0 := by
        rcases ht with ht | ⟨ht, hj⟩
        · subst ht
          refine ⟨rfl, ?_⟩
          by_cases z : 0 < j
          · have := ro.pos z; lcg_off
          · lcg_off
        · exfalso
          have := ro.z hj
          have := B.rise (i := t) (j := i) (by lcg_off) hi
          lcg_off
      obtain ⟨rfl, hj⟩ := hti
      repeat tlg_ne
      refine brD (fun hz0 => ?_) (fun hz0 => ?_)
      · repeat tlg_ne
        refine c_lose ?_
        repeat tlg_ne
        have e : prv (runs d lim ms) t j = (none, 0) := by unfold prv; rw [if_neg (by lcg_off), if_neg (by lcg_off)]
        rw [e] at h'
        exact (h' _ ⟨_, _, _, _, rfl⟩).1 rfl
      · repeat tlg_ne
        refine ⟨_, Sub.refl _, t - 1, by lcg_off, t - 1, rfl, rfl, .inr ⟨by lcg_off, hj⟩, ?_⟩
        rw [show (t : Int) - 1 = ((t - 1 : Nat) : Int) by lcg_off]
    · intro ρ'' sb
      refine S_drop sb ?_
      have h2 : (t = i ∧ 0 < j) ∨ (t + 1 = i ∧ j = 0) := by
        rcases ht with ht | ht
        · subst ht
          refine .inl ⟨rfl, ?_⟩
          by_cases z : 0 < j
          · exact z
          · have := ro.z (by lcg_off); lcg_off
        · exact .inr ht
      obtain ⟨bf, bn⟩ := B.backs hi hr htl (by lcg_off) h2
      generalize prv (runs d lim ms) i j = T at bf bn h'
      repeat tlg_ne
      refine c_go hm htl ?_
      repeat tlg_ne
      refine c_parseR B hz htl (by simp) (PR_front B htl (Nat.le_refl _) []) fun σ' sd => ⟨fun q => ?_, fun q => ?_⟩
      · rcases bf with ⟨e, hg⟩ | ⟨e, e'⟩
        · rw [e] at sd
          repeat tlg_ne
          refine S_while C ?_
          refine Wh_inv2 (fun m ρ σ' => ρ = ([("self", .ref .itr), ("original", .int r.st)] : Loc) ∧ ∃ j', Sd cnt d lim ms (some (t, j')) σ' ∧ (t = i → j' < j) ∧ m = (rws (runs d lim ms) t).length - j')
            (fun m ρ σ' I => ?_) (fun _ _ _ _ _ q => q) (k := (rws (runs d lim ms) t).length) ⟨_, ?_, rfl, 0, sd, hg, rfl⟩
          · obtain ⟨rfl, j', ⟨_, r', hr', rfl⟩, hj', hmj⟩ := I
            have ro' := B.row htl hr'
            have rl' := ro'.lm
            have ru' := ro'.up
            have kl' := ro'.kl
            obtain ⟨b1, b2⟩ := bn j' r' hr' hj'
            refine T_P (r'.en < r.st) ?_ (fun hP => ?_) (fun hP => ?_)
            · repeat tlg_ne
              refine c_valid ?_
              refine ⟨true, by rw [decide_eq_true (by lcg_off)], ?_⟩
              repeat tlg_ne
              refine brD (fun h => ?_) (fun h => ?_)
              · repeat tlg_ne
                exact ⟨by rw [decide_eq_true (by lcg_off)], rfl⟩
              · exact ⟨by rw [decide_eq_false (by lcg_off)], rfl⟩
            · repeat tlg_ne
              refine c_parseR B hz htl (by lcg_off) (PR_nxt B htl hr') fun σ' sd => ⟨fun q => ?_, fun q => ?_⟩
              · repeat tlg_ne
                rcases b1 hP with ⟨e, hg'⟩ | ⟨e, _⟩
                · rw [e] at sd
                  have := row_lt hr'
                  exact ⟨_, Sub.refl _, _, by lcg_off, rfl, j' + 1, sd, hg', rfl⟩
                · rw [e] at q; cases q
              · rcases b1 hP with ⟨e, _⟩ | ⟨e, e'⟩
                · rw [e] at q; cases q
                · rw [e] at sd
                  rw [e'] at h'
                  exact (h' σ' sd).2.1 rfl
            · intro ρ'' sb
              refine S_nil ?_
              rw [b2 hP] at h'
              exact (h' _ ⟨htl, r', hr', rfl⟩).1 rfl
          · repeat (first | exact Sub.nil | refine Sub.cons (by lcg_src) ?_)
        · rw [e] at q; cases q
      · rcases bf with ⟨e, hg⟩ | ⟨e, e'⟩
        · rw [e] at q; cases q
        · rw [e] at sd
          rw [e'] at h'
          exact (h' σ' sd).2.1 rfl
end
section
variable {H : Hy} {cnt : Cell} {d : List UInt8} {lim : Nat} {ms : List Nat} {n : Nat} {hn : Bool} {Q : V → St → Prop} {X : Exn → St → Prop}
theorem keyAt_of {R : Rs} {i j : Nat} {r : Row} (h : rowAt R i j = some r) : keyAt R i j = r.key := by unfold keyAt; rw [h]
theorem c_narrow (B : Blk d lim ms) (hz : d.length ≤ 1000) {pl : Option (Nat × Nat)} {σ : St} (sd : Sd cnt d lim ms pl σ) {t : List UInt8} {T : Res} (hT : nar (rkey d lim ms) (runs d lim ms) (lim + 1) pl t = T)
    (h0 : T.2 = 0 → ∀ σ', Sd cnt d lim ms T.1 σ' → Q .none σ') (h1 : T.2 = 1 → ∀ cur ahead turn key vf, X .corrupt (mk cnt d lim ms cur ahead turn key vf) ∧ X .short (mk cnt d lim ms cur ahead turn key vf)) :
    SemM (uni H) (n + 5) true .iter "narrow" [.ref .itr, .bytes t] Q X σ := by
  obtain ⟨hm, hl⟩ := B.msz hz
  have hne := B.ne
  have hσ : ∃ (cur ahead turn vf : Int) (key : List UInt8), σ = mk cnt d lim ms cur ahead turn key vf ∧ ((pl = none ∧ cur = lim) ∨ ∃ i j r, pl = some (i, j) ∧ i < ms.length ∧ rowAt (runs d lim ms) i j = some r ∧ cur = r.st ∧ ahead = r.en ∧ turn = i ∧ key = r.key ∧ vf = r.va) := by
    match pl, sd with
    | none, ⟨ah, t, vf, key, e⟩ => exact ⟨_, _, _, _, _, e, .inl ⟨rfl, rfl⟩⟩
    | some (i, j), ⟨hi, r, hr, e⟩ => exact ⟨_, _, _, _, _, e, .inr ⟨i, j, r, rfl, hi, hr, rfl, rfl, rfl, rfl, rfl⟩⟩
  obtain ⟨cur, ahead, turn, vf, key, e, hpl⟩ := hσ
  subst e
  clear sd
  refine semM_of (f := 243) (by kernel_rfl) (semV_fn rfl rfl rfl rfl (by kernel_rfl) (ps := ["self", "target"]) (ρ := [("self", .ref .itr), ("target", .bytes t)]) (by kernel_rfl) (fun vals h => by obtain ⟨a, b, rfl⟩ := len2 h; rfl) rfl rfl fun A l env C => ?_)
  dsimp only at C
  repeat tlg_ne
  refine Len_rst rfl hm ?_
  repeat tlg_ne
  refine c_valid ?_
  rw [show (ms.length : Int) - 1 = ((ms.length - 1 : Nat) : Int) by k_lenW]
  refine as_name C.E (.inl (by lcg_sub)) (by one_sign) ?_
  refine S_join (α := Nat × Nat × Int × Bool) (fun a => a.1 ≤ a.2.1 ∧ a.2.1 < ms.length ∧ (bs (rkey d lim ms) t (a.2.1 - a.1) a.1 a.2.1 = none → T = (none, 1)) ∧ ∀ x, bs (rkey d lim ms) t (a.2.1 - a.1) a.1 a.2.1 = some x →
      ((a.2.2.2 = true ∧ a.2.2.1 < 0 ∧ (x : Int) = turn → ∃ i j, pl = some (i, j) ∧ T = scan (runs d lim ms) t (lim + 1) (nxt (runs d lim ms) i j)) ∧
       (¬ (a.2.2.2 = true ∧ a.2.2.1 < 0 ∧ (x : Int) = turn) → T = scan (runs d lim ms) t (lim + 1) (front (runs d lim ms) x))))
    (fun a => [("self", .ref .itr), ("target", .bytes t), ("left", .int a.1), ("right", .int a.2.1), ("side", .int a.2.2.1), ("standing", .bool a.2.2.2)]) ?_ (fun a hP => ?_)
  · have hrl := @runs_len d lim ms
    rcases hpl with ⟨rfl, rfl⟩ | ⟨i, j, r, rfl, hi, hr, rfl, rfl, rfl, rfl, rfl⟩
    · rw [decide_eq_false (by k_lenW)]
      unfold nar narB at hT
      rw [hrl] at hT
      repeat tlg_ne
      refine ⟨(0, ms.length - 1, 0, false), ⟨by simp, by simp; k_lenW, fun e => ?_, fun x e => ⟨by simp, fun _ => ?_⟩⟩, rfl, rfl⟩
      · rw [← hT]; simp only [Nat.sub_zero] at e; rw [e]
      · rw [← hT]; simp only [Nat.sub_zero] at e; rw [e]
    · have ro := B.row hi hr
      have rl := ro.lm
      have ru := ro.up
      have hka := keyAt_of hr
      rw [decide_eq_true (by k_lenW)]
      unfold nar at hT
      dsimp only at hT
      rw [hrl, hka] at hT
      repeat tlg_ne
      refine c_cmp ?_
      by_cases c1 : r.key < t
      · rw [if_pos c1]
        have c2 : r.key ≠ t := fun e => by rw [e] at c1; exact List.lt_irrefl _ c1
        rw [if_neg c2, if_pos c1] at hT
        repeat tlg_ne
        rw [decide_eq_false (by decide)]
        repeat tlg_ne
        rw [decide_eq_true (by decide)]
        repeat tlg_ne
        refine ⟨(i, ms.length - 1, -1, true), ⟨by simp; k_lenW, by simp; k_lenW, fun e => ?_, fun x e => ⟨fun z => ⟨i, j, rfl, ?_⟩, fun z => ?_⟩⟩, rfl, rfl⟩
        · dsimp only at e
          rw [bs_fuel (g := ms.length - 1) (Nat.le_refl _) (by k_lenW)] at e
          rw [← hT, e]
        · dsimp only at e z
          rw [bs_fuel (g := ms.length - 1) (Nat.le_refl _) (by k_lenW)] at e
          rw [← hT, e]
          simp only
          rw [if_pos (by k_lenW)]
        · dsimp only at e z
          rw [bs_fuel (g := ms.length - 1) (Nat.le_refl _) (by k_lenW)] at e
          rw [← hT, e]
          simp only
          rw [if_neg (fun q => z ⟨rfl, by k_lenW, by k_lenW⟩)]
      · rw [if_neg c1]
        by_cases c2 : t < r.key
        · rw [if_pos c2]
          have c3 : r.key ≠ t := fun e => by rw [e] at c2; exact List.lt_irrefl _ c2
          rw [if_neg c3, if_neg c1] at hT
          unfold narB at hT
          repeat tlg_ne
          rw [decide_eq_false (by decide)]
          repeat tlg_ne
          rw [decide_eq_false (by decide)]
          repeat tlg_ne
          refine ⟨(0, i, 1, true), ⟨by simp, hi, fun e => ?_, fun x e => ⟨fun z => ?_, fun z => ?_⟩⟩, rfl, rfl⟩
          · simp only [Nat.sub_zero] at e
            rw [← hT, e]
          · simp at z
          · simp only [Nat.sub_zero] at e
            rw [← hT, e]
        · rw [if_neg c2]
          have c3 : r.key = t := List.le_antisymm (List.not_lt.mp c2) (List.not_lt.mp c1)
          rw [if_pos c3] at hT
          repeat tlg_ne
          rw [decide_eq_true (by decide)]
          repeat tlg_ne
          subst hT
          exact h0 rfl _ ⟨hi, r, hr, rfl⟩
  · obtain ⟨x, y, s, b⟩ := a
    dsimp only at hP ⊢
    obtain ⟨hxy, hy, hn, hx⟩ := hP
    refine S_cons (S_while C ?_)
    generalize hBS : bs (rkey d lim ms) t (y - x) x y = BS at hn hx
    refine Wh_inv2 (fun m ρ σ' => ∃ l r : Nat, σ' = mk cnt d lim ms cur ahead turn key vf ∧ l ≤ r ∧ r < ms.length ∧ r - l ≤ m ∧ bs (rkey d lim ms) t m l r = BS ∧ ρ = ([("self", .ref .itr), ("target", .bytes t), ("left", .int l), ("right", .int r), ("side", .int s), ("standing", .bool b)] : Loc))
      (fun m ρ σ' I => ?_) (fun _ _ _ _ _ q => q) (k := y - x) ⟨_, Sub.refl _, x, y, rfl, hxy, hy, Nat.le_refl _, hBS, rfl⟩
    obtain ⟨l', r', rfl, hlr, hrn, hme, hb, rfl⟩ := I
    refine T_P (l' < r') ?_ (fun hP => ?_) (fun hP => ?_)
    · repeat tlg_ne
      exact ⟨decide_eq_decide.mpr (by k_lenW), rfl⟩
    · cases m with
      | zero => k_lenW
      | succ m =>
        unfold bs at hb
        rw [if_pos hP] at hb
        repeat tlg_ne
        rw [show ((l' : Int) + r' + 1) / 2 = (((l' + r' + 1) / 2 : Nat) : Int) by k_lenW]
        generalize hM : (l' + r' + 1) / 2 = mid at hb ⊢
        have hmid : mid < ms.length := by k_lenW
        refine c_rk (by k_lenW) hm hmid (fun k e => ?_) (fun e => ?_)
        · rw [e] at hb
          simp only at hb
          repeat tlg_ne
          refine c_cmp ?_
          by_cases c1 : k < t
          · rw [if_pos c1] at hb ⊢
            repeat tlg_ne
            rw [decide_eq_true (by decide)]
            repeat tlg_ne
            refine ⟨_, ?_, m, Nat.lt_succ_self _, mid, r', rfl, by k_lenW, hrn, by k_lenW, hb, rfl⟩
            repeat (first | exact Sub.nil | refine Sub.cons (by lcg_src) ?_)
          · rw [if_neg c1] at hb ⊢
            repeat tlg_ne
            rw [decide_eq_false (by split <;> decide)]
            repeat tlg_ne
            refine ⟨_, ?_, m, Nat.lt_succ_self _, l', mid - 1, rfl, by k_lenW, by k_lenW, by k_lenW, hb, rfl⟩
            rw [show ((mid - 1 : Nat) : Int) = (mid : Int) - 1 by k_lenW]
            repeat (first | exact Sub.nil | refine Sub.cons (by lcg_src) ?_)
        · rw [e] at hb
          subst hb
          have := hn rfl
          subst this
          exact h1 rfl _ _ _ _ _
    · intro ρ'' sb
      refine S_drop sb ?_
      have hb' : BS = some l' := by
        cases m with
        | zero => unfold bs at hb; exact hb.symm
        | succ m => unfold bs at hb; rw [if_neg hP] at hb; exact hb.symm
      obtain ⟨hx1, hx2⟩ := hx l' hb'
      have hl' : l' < ms.length := by k_lenW
      refine S_mid (fun ρ σ' => ρ = ([("self", .ref .itr), ("target", .bytes t), ("left", .int l'), ("right", .int r'), ("side", .int s), ("standing", .bool b)] : Loc) ∧ ∃ (start tn : Nat) (key : List UInt8) (cur vf : Int) (res : Res), σ' = mk cnt d lim ms cur start tn key vf ∧
          PR d lim ms tn start key res ∧ scan (runs d lim ms) t (lim + 1) res = T ∧ tn < ms.length ∧ key.length ≤ 1000) (S_ifT (¬ (b = true ∧ s < 0 ∧ (l' : Int) = turn)) ?_ (fun hc => ?_) (fun hc => ?_)) (fun ρ₁ σ₁ hM => ?_)
      · repeat tlg_ne
        cases b
        · repeat tlg_ne
          exact ⟨by simp, rfl⟩
        · repeat tlg_ne
          refine brD (fun h => ?_) (fun h => ?_)
          · repeat tlg_ne
            refine brD (fun h => ?_) (fun h => ?_)
            · repeat tlg_ne
              exact ⟨by rw [decide_eq_false (fun q => q ⟨rfl, by k_lenW, by k_lenW⟩)]; rfl, rfl⟩
            · exact ⟨(decide_eq_true (p := ¬ (true = true ∧ s < 0 ∧ (l' : Int) = turn)) (fun q => h (by k_lenW))).symm, rfl⟩
          · exact ⟨(decide_eq_true (p := ¬ (true = true ∧ s < 0 ∧ (l' : Int) = turn)) (fun q => h (by k_lenW))).symm, rfl⟩
      · repeat tlg_ne
        refine c_go hm hl' ?_
        repeat tlg_ne
        exact ⟨rfl, _, _, _, _, _, _, rfl, PR_front B hl' (Nat.le_refl _) [], (hx2 hc).symm, hl', by simp⟩
      · have hc' := Classical.not_not.mp hc
        obtain ⟨i, j, e, e2⟩ := hx1 hc'
        rcases hpl with ⟨e', _⟩ | ⟨i', j', r, e', hi, hr, rfl, rfl, rfl, rfl, rfl⟩
        · rw [e] at e'; cases e'
        · rw [e] at e'
          cases e'
          have ro := B.row hi hr
          have rl := ro.lm
          have kl := ro.kl
          repeat tlg_ne
          exact ⟨rfl, _, _, _, _, _, _, rfl, PR_nxt B hi hr, e2.symm, hi, by k_lenW⟩
      · obtain ⟨rfl, start, tn, key', cur', vf', res, rfl, hpr, hsc, htn, hkl⟩ := hM
        clear hx hx1 hx2 hn hb hb' hBS hpl hT
        repeat tlg_ne
        refine S_while C ?_
        refine Wh_inv2 (fun m ρ σ' => ∃ (start tn : Nat) (key : List UInt8) (cur vf : Int) (res : Res), σ' = mk cnt d lim ms cur start tn key vf ∧
          PR d lim ms tn start key res ∧ scan (runs d lim ms) t m res = T ∧ tn < ms.length ∧ key.length ≤ 1000 ∧ lim < m + start ∧ ρ = ([("self", .ref .itr), ("target", .bytes t)] : Loc))
          (fun m ρ σ' I => ?_) (fun _ _ _ _ _ q => q) (k := lim + 1) ⟨_, ?_, start, tn, key', cur', vf', res, rfl, hpr, hsc, htn, hkl, by k_lenW, rfl⟩
        · obtain ⟨start, tn, key', cur', vf', res, rfl, hpr, hsc, htn, hkl, hms, rfl⟩ := I
          repeat tlg_ne
          refine c_parseR B hz htn hkl hpr fun σ' sd => ⟨fun q => ?_, fun q => ?_⟩
          · refine ⟨_, rfl, ?_⟩
            obtain ⟨pl', c⟩ := res
            dsimp only at q sd
            subst q
            match pl', sd, hpr, hsc with
            | none, sd, hpr, hsc =>
              refine brF ?_
              intro ρ'' sb
              refine S_nil ?_
              have : T = (none, 0) := by
                cases m with
                | zero => exact hsc.symm
                | succ m => unfold scan at hsc; exact hsc.symm
              subst this
              exact h0 rfl _ sd
            | some (i, j), ⟨hi, r, hr, e⟩, hpr, hsc =>
              subst e
              have ro := B.row hi hr
              have rl := ro.lm
              have kl := ro.kl
              have ru := ro.up
              obtain ⟨_, hs, r2, hr2, _, hst, _⟩ := hpr
              rw [hr] at hr2; cases hr2
              cases m with
              | zero => k_lenW
              | succ m =>
                unfold scan at hsc
                rw [keyAt_of hr] at hsc
                refine brT ?_
                repeat tlg_ne
                refine c_cmp ?_
                by_cases c1 : r.key < t
                · rw [if_pos c1] at hsc ⊢
                  repeat tlg_ne
                  rw [decide_eq_false (by decide)]
                  repeat tlg_ne
                  exact ⟨_, Sub.refl _, m, Nat.lt_succ_self _, _, _, _, _, _, _, rfl, PR_nxt B hi hr, hsc, hi, by k_lenW, by k_lenW, rfl⟩
                · rw [if_neg c1] at hsc ⊢
                  repeat tlg_ne
                  rw [decide_eq_true (by split <;> decide)]
                  repeat tlg_ne
                  subst hsc
                  exact h0 rfl _ ⟨hi, r, hr, rfl⟩
          · obtain ⟨pl', c⟩ := res
            dsimp only at q sd
            subst q
            match pl', sd, hpr, hsc with
            | some (i, j), sd, hpr, hsc => exact absurd hpr.1 (by decide)
            | none, ⟨ah, t', vf', key', e⟩, hpr, hsc =>
              have : T = (none, 1) := by
                cases m with
                | zero => exact hsc.symm
                | succ m => unfold scan at hsc; exact hsc.symm
              subst this
              subst e
              exact h1 rfl _ _ _ _ _
        · repeat (first | exact Sub.nil | refine Sub.cons (by lcg_src) ?_)
end
section
variable {H : Hy} {cnt : Cell} {d : List UInt8} {lim : Nat} {ms : List Nat} {n : Nat} {hn : Bool} {Q : V → St → Prop} {X : Exn → St → Prop}
theorem c_seek (B : Blk d lim ms) (hz : d.length ≤ 1000) {pl : Option (Nat × Nat)} {σ : St} (sd : Sd cnt d lim ms pl σ) {t : List UInt8} {T : Res} (hT : nar (rkey d lim ms) (runs d lim ms) (lim + 1) pl t = T)
    (h0 : T.2 = 0 → ∀ σ', Sd cnt d lim ms T.1 σ' → Q .none σ') (h1 : T.2 = 1 → ∀ σ', Sd cnt d lim ms none σ' → X .corrupt σ' ∧ X .short σ') :
    SemM (uni H) (n + 6) true .iter "seek" [.ref .itr, .bytes t] Q X σ := by
  have hσ : ∃ (cur ahead turn vf : Int) (key : List UInt8), σ = mk cnt d lim ms cur ahead turn key vf := by
    match pl, sd with
    | none, ⟨ah, t, vf, key, e⟩ => exact ⟨_, _, _, _, _, e⟩
    | some (i, j), ⟨_, r, _, e⟩ => exact ⟨_, _, _, _, _, e⟩
  obtain ⟨cur, ahead, turn, vf, key, e⟩ := hσ
  subst e
  refine semM_of (f := 236) (by kernel_rfl) (semV_fn rfl rfl rfl rfl (by kernel_rfl) (ps := ["self", "target"]) (ρ := [("self", .ref .itr), ("target", .bytes t)]) (by kernel_rfl) (fun vals h => by obtain ⟨a, b, rfl⟩ := len2 h; rfl) rfl rfl fun A l env C => ?_)
  dsimp only at C
  repeat tlg_ne
  refine S_try C ?_
  repeat tlg_ne
  refine c_narrow B hz sd hT (fun e σ' sd' => ?_) (fun e cur ahead turn key vf => ?_)
  · repeat tlg_ne
    exact h0 e _ sd'
  · have h1' := h1 e
    refine ⟨?_, ?_⟩
    · refine ⟨.corrupt, rfl, by lcg_sub, fun _ => .again (fun A' C' => ?_), fun q => nomatch q⟩
      repeat tlg_ne
      refine c_lose ?_
      exact (h1' _ ⟨_, _, _, _, rfl⟩).1
    · refine ⟨.corrupt, rfl, by lcg_sub, fun _ => .again (fun A' C' => ?_), fun q => nomatch q⟩
      repeat tlg_ne
      refine c_lose ?_
      exact (h1' _ ⟨_, _, _, _, rfl⟩).2
end
section
variable {u : Uni} {A : Around} {l : List Env} {n : Nat} {hn : Bool}
/-- a comprehension, element by element: P says what an item gives, I what holds of the state between -/
theorem CmpR_rel {kc : Str → Option NameKind} {x : Str} {elt : Expr} {ρc : Loc} {G : List V → St → Prop} (I : St → Prop) (P : V → V → Prop) : ∀ (xs : List V)
    (_h : ∀ v ∈ xs, ∀ σ, I σ → ∀ cenv, ECx u A l cenv n hn kc → EOk u A l cenv Rp (eval elt cenv) ((x, v) :: ρc) (fun y σ' => P v y ∧ I σ') (fun _ _ => False) σ)
    (acc : List V) (σ : St) (_q : ∀ ys σ', ys.length = xs.length → (∀ (i : Nat) (v y : V), xs[i]? = some v → ys[i]? = some y → P v y) → I σ' → G (acc ++ ys) σ') (_i : I σ), CmpR u A l n hn kc x elt ρc G xs acc σ
  | [], _, acc, σ, q, i => by
    have := q [] σ rfl (fun i v y e => by simp at e) i
    rwa [List.append_nil] at this
  | v :: vs, h, acc, σ, q, i => fun cenv C =>
    (h v (.head _) σ i cenv C).mono (fun y σ' p => CmpR_rel I P vs (fun w hw => h w (.tail _ hw)) (acc ++ [y]) σ' (fun ys σ'' hl hp hi => by
      have := q (y :: ys) σ'' (by rw [List.length_cons, List.length_cons, hl]) (fun j a b e1 e2 => by
        cases j with
        | zero => simp only [List.getElem?_cons_zero, Option.some.injEq] at e1 e2; subst e1 e2; exact p.1
        | succ j => simp only [List.getElem?_cons_succ] at e1 e2; exact hp j a b e1 e2) hi
      rwa [List.append_assoc]) p.2) fun _ _ q => q
theorem CmpR_map {kc : Str → Option NameKind} {x : Str} {elt : Expr} {ρc : Loc} {G : List V → St → Prop} {σ : St} (f : V → V) {xs : List V}
    (h : ∀ v ∈ xs, ∀ cenv, ECx u A l cenv n hn kc → EOk u A l cenv Rp (eval elt cenv) ((x, v) :: ρc) (fun y σ' => y = f v ∧ σ' = σ) (fun _ _ => False) σ) (q : G (xs.map f) σ) : CmpR u A l n hn kc x elt ρc G xs [] σ :=
  CmpR_rel (fun σ' => σ' = σ) (fun v y => y = f v) xs (fun v hv σ' e cenv C => e ▸ h v hv cenv C) [] σ (fun ys σ' hl hp e => by
    subst e
    have : ys = xs.map f := by
      refine List.ext_getElem (by rw [hl, List.length_map]) fun i h1 h2 => ?_
      rw [List.getElem_map]
      exact hp i _ _ (List.getElem?_eq_getElem (by rw [hl] at h1; exact h1)) (List.getElem?_eq_getElem h1)
    rw [List.nil_append, this]; exact q) rfl
end
/-- a comprehension's names, looked at -/
noncomputable def cmpOk (scope : Scope) (kd : Str → Option NameKind) (x : Str) : Bool := scope.kind == .function && scope.names.lookup x == some .local &&
  scope.names.all (fun y => (y.2 != .local || scope.names.lookup y.1 == some .local) && y.2 != .cell && (y.2 != .free || (kd y.1 == some .cell && scope.names.lookup y.1 == some .free))) &&
  scope.names.all (fun p => !((p.1 == ("__debug__" : Str)) || (p.1 == ("__classdict__" : Str))))
noncomputable def Caps (scope : Scope) (ρ ρc : Loc) : Prop := ∀ y w, lk ρc y = some w → lk ρ y = some w ∧ scope.names.lookup y = some .free
theorem capN {scope : Scope} {ρ : Loc} : Caps scope ρ [] := fun _ _ e => nomatch e
theorem capC {scope : Scope} {ρ r : Loc} {x : Str} {v : V} (h1 : lk ρ x = some v) (h2 : scope.names.lookup x = some .free) (t : Caps scope ρ r) : Caps scope ρ ((x, v) :: r) := fun y w e => by
  simp only [lk] at e
  by_cases q : x = y
  · subst q; rw [if_pos rfl] at e; cases e; exact ⟨h1, h2⟩
  · rw [if_neg q] at e; exact t y w e
theorem cmpS_of {scope : Scope} {kd : Str → Option NameKind} {ρ ρc : Loc} {x : Str} (h : cmpOk scope kd x = true) (c : Caps scope ρ ρc) : CmpS scope kd ρ ρc x := by
  unfold cmpOk at h
  simp only [Bool.and_eq_true, beq_iff_eq] at h
  obtain ⟨⟨⟨h1, h2⟩, h3⟩, h4⟩ := h
  have h3' := fun y hy => List.all_eq_true.mp h3 y hy
  simp only [Bool.and_eq_true, Bool.or_eq_true, bne_iff_ne, beq_iff_eq, ne_eq] at h3'
  exact ⟨h1, fun y hy e => ((h3' y hy).1.1).elim (fun q => absurd e q) id, fun y hy => (h3' y hy).1.2, h2, fun y hy => ((h3' _ hy).2).elim (fun q => absurd rfl q) id, h4, c⟩
@[reducible] noncomputable def zI (is : List Int) : List V := is.map V.int
theorem zI_get {is : List Int} {i : Nat} (h : i < is.length) : (zI is)[i]? = some (.int is[i]) := by
  unfold zI; rw [List.getElem?_map, List.getElem?_eq_getElem h]; rfl
section
variable {H : Hy} {n : Nat} {hn : Bool} {Q : V → St → Prop} {X : Exn → St → Prop} {σ : St}
theorem c_take {tp : List Int} {k m : Int} (hc : σ.cnt = .lst false [.int k]) (hk : 0 ≤ k) (ht : 0 < tp.length) (hz : tp.length ≤ 1000) (hm : 0 < m) (h : ∀ r k', 0 ≤ r → r < m → 0 ≤ k' → Q (.int r) (σ.set .cnt (.lst false [.int k']))) :
    SemG (uni H) (n + 1) hn "_law_take" [.lst (zI tp), .ref .cnt, .int m] Q X σ := by
  refine semG_of (f := 346) (by kernel_rfl) (semV_fn rfl rfl rfl rfl (by kernel_rfl) (ps := ["tape", "at", "m"]) (ρ := [("tape", .lst (zI tp)), ("at", .ref .cnt), ("m", .int m)]) (by kernel_rfl) (fun vals h => by obtain ⟨a, b, c, rfl⟩ := len3 h; rfl) rfl rfl fun A l env C => ?_)
  dsimp only at C
  have hzl : (zI tp).length = tp.length := by unfold zI; simp
  repeat tlg_ne
  refine Sub_cell (p := false) (xs := [.int k]) hc (by lcg_off) (by simp) rfl ?_ rfl
  repeat tlg_ne
  refine As_cell C.E rfl ?_
  repeat tlg_ne
  refine ⟨.cnt, [.int k], 0, rfl, rfl, hc, by lcg_off, by simp, by simp, ?_⟩
  show SOk _ _ _ _ _ _ _ _ _ (σ.set .cnt (.lst false [.int (k + 1)]))
  repeat tlg_ne
  have hmod : 0 ≤ k % (tp.length : Int) ∧ k % (tp.length : Int) < tp.length := ⟨Int.emod_nonneg _ (by lcg_off), Int.emod_lt_of_pos _ (by lcg_off)⟩
  rw [hzl]
  refine Sub_list (y := .int (tp[(k % (tp.length : Int)).toNat]'(by lcg_off))) hmod.1 (by lcg_off) (zI_get (by lcg_off)) ?_ rfl
  repeat tlg_ne
  exact h _ _ (Int.emod_nonneg _ (by lcg_off)) (Int.emod_lt_of_pos _ hm) (by lcg_off)
theorem c_common {a b : List UInt8} (ha : a.length ≤ 1000) (hb : b.length ≤ 1000) (h : ∀ k : Nat, k ≤ a.length → k ≤ b.length → Q (.int k) σ) : SemG (uni H) (n + 1) true "_law_common" [.bytes a, .bytes b] Q X σ := by
  refine semG_of (f := 375) (by kernel_rfl) (semV_fn rfl rfl rfl rfl (by kernel_rfl) (ps := ["a", "b"]) (ρ := [("a", .bytes a), ("b", .bytes b)]) (by kernel_rfl) (fun vals h => by obtain ⟨a, b, rfl⟩ := len2 h; rfl) rfl rfl fun A l env C => ?_)
  dsimp only at C
  repeat tlg_ne
  refine S_while C ?_
  refine Wh_inv2 (fun m ρ σ' => ∃ k : Nat, σ' = σ ∧ k ≤ a.length ∧ k ≤ b.length ∧ m = a.length - k ∧ ρ = ([("a", .bytes a), ("b", .bytes b), ("n", .int k)] : Loc))
    (fun m ρ σ' I => ?_) (fun _ _ _ _ _ q => q) (k := a.length) ⟨_, Sub.refl _, 0, rfl, by lcg_off, by lcg_off, rfl, rfl⟩
  obtain ⟨k, rfl, h1, h2, hm, rfl⟩ := I
  refine T_P (k < a.length ∧ k < b.length ∧ oc a k = oc b k) ?_ (fun hP => ?_) (fun hP => ?_)
  · repeat tlg_ne
    refine brD (fun h => ?_) (fun h => ?_)
    · repeat tlg_ne
      refine brD (fun h => ?_) (fun h => ?_)
      · repeat tlg_ne
        refine Sub_oc rfl (by lcg_off) (by lcg_off) ?_ rfl
        repeat tlg_ne
        refine Sub_oc rfl (by lcg_off) (by lcg_off) ?_ rfl
        repeat tlg_ne
        refine brD (fun h => ?_) (fun h => ?_)
        · repeat tlg_ne
          exact ⟨by rw [decide_eq_true (by lcg_off)], rfl⟩
        · exact ⟨by rw [decide_eq_false (by lcg_off)], rfl⟩
      · exact ⟨by rw [decide_eq_false (by lcg_off)], rfl⟩
    · exact ⟨by rw [decide_eq_false (by lcg_off)], rfl⟩
  · repeat tlg_ne
    exact ⟨_, Sub.refl _, _, by lcg_off, k + 1, rfl, by lcg_off, by lcg_off, rfl, rfl⟩
  · intro ρ'' sb
    refine S_drop sb ?_
    repeat tlg_ne
    exact h k h1 h2
theorem c_put {k : Nat} {b : Bool} (hk : k < 128) (h : ∀ w : List UInt8, w.length ≤ 2 → Q (.bytes w) σ) : SemG (uni H) (n + 1) true "_law_put" [.int k, .bool b] Q X σ := by
  refine semG_of (f := 358) (by kernel_rfl) (semV_fn rfl rfl rfl rfl (by kernel_rfl) (ps := ["n", "longer"]) (ρ := [("n", .int k), ("longer", .bool b)]) (by kernel_rfl) (fun vals h => by obtain ⟨a, b, rfl⟩ := len2 h; rfl) rfl rfl fun A l env C => ?_)
  dsimp only at C
  repeat tlg_ne
  refine ⟨fun hb => ?_, fun hb => ?_⟩
  · repeat tlg_ne
    refine (Bytes_ints (is := [(k : Int) + 128, 0]) C.E rfl (by simp) (by simp; lcg_off) (h _ (by simp [octs])))
  · repeat tlg_ne
    refine (Bytes_ints (is := [(k : Int)]) C.E rfl (by simp) (by simp; lcg_off) (h _ (by simp [octs])))
theorem fdivI {k m : Nat} : (k : Int) / ((m : Nat) : Int) = ((k / m : Nat) : Int) := by norm_cast
theorem rng4 : rngL 0 4 = [.int 0, .int 1, .int 2, .int 3] := rfl
theorem c_fix {k : Nat} (h : Q (.bytes (fixB k)) σ) : SemG (uni H) (n + 1) true "_law_fix" [.int k] Q X σ := by
  refine semG_of (f := 363) (by kernel_rfl) (semV_fn rfl rfl rfl rfl (by kernel_rfl) (ps := ["n"]) (ρ := [("n", .int k)]) (by kernel_rfl) (fun vals h => by obtain ⟨a, rfl⟩ := len1 h; rfl) rfl rfl fun A l env C => ?_)
  dsimp only at C
  repeat tlg_ne
  refine E_comp C.E rfl (cmpS_of (ρc := [("n", .int k)]) (by kernel_rfl) (capC (by lcg_src) (by kernel_rfl) capN)) ?_
  repeat tlg_ne
  refine Range_1 C.ne ⟨_, .inr ⟨0, 4, rfl, rfl, by lcg_off⟩, by rw [rngL_len]; decide, ?_⟩
  refine CmpR_map (fun v => match v with | .int i => .int ((k / 256 ^ i.toNat % 256 : Nat) : Int) | v => v) (fun v hv cenv CC => ?_) ?_
  · obtain ⟨i, hi, rfl⟩ : ∃ i : Nat, i < 4 ∧ v = .int i := by
      unfold rngL at hv
      simp only [List.mem_map, List.mem_range] at hv
      obtain ⟨a, ha, rfl⟩ := hv
      exact ⟨a, by lcg_off, by simp⟩
    repeat tlg_ne
    have p : 0 < 256 ^ i := Nat.pow_pos (by decide)
    have p' : 256 ^ i < 1073741824 := Nat.lt_of_le_of_lt (Nat.pow_le_pow_right (by decide) (show i ≤ 3 by lcg_off)) (by decide)
    have e : (256 : Int) ^ ((i : Nat) : Int).toNat = ((256 ^ i : Nat) : Int) := by rw [Int.toNat_natCast]; norm_cast
    rw [e]
    refine B_fdiv (by lcg_off) (by lcg_off) ?_
    rw [fdivI]
    repeat tlg_ne
    refine ⟨?_, rfl⟩
    simp only [Int.toNat_natCast]
    rw [Int.natCast_emod]; rfl
  · repeat tlg_ne
    rw [rng4]
    simp only [List.map_cons, List.map_nil, show (0 : Int).toNat = 0 from rfl, show (1 : Int).toNat = 1 from rfl, show (2 : Int).toNat = 2 from rfl, show (3 : Int).toNat = 3 from rfl, Nat.reducePow, Nat.div_one]
    refine Bytes_ints (is := [((k % 256 : Nat) : Int), ((k / 256 % 256 : Nat) : Int), ((k / 65536 % 256 : Nat) : Int), ((k / 16777216 % 256 : Nat) : Int)]) C.E rfl (by simp) ?_ ?_
    · intro x hx
      simp only [List.mem_cons, List.not_mem_nil, or_false] at hx
      lcg_off
    · exact h
theorem c_num {d : List UInt8} {a : Int} {k : Nat} (ha : a = k) (hz : d.length ≤ 1000) (hk : k + 4 ≤ d.length) (h : Q (.int (fx d k : Nat)) σ) : SemG (uni H) (n + 1) true "_law_num" [.bytes d, .int a] Q X σ := by
  subst ha
  refine semG_of (f := 368) (by kernel_rfl) (semV_fn rfl rfl rfl rfl (by kernel_rfl) (ps := ["data", "at"]) (ρ := [("data", .bytes d), ("at", .int k)]) (by kernel_rfl) (fun vals h => by obtain ⟨a, b, rfl⟩ := len2 h; rfl) rfl rfl fun A l env C => ?_)
  dsimp only at C
  repeat tlg_ne
  refine E_comp C.E rfl (cmpS_of (ρc := [("data", .bytes d), ("at", .int k)]) (by kernel_rfl) (capC (by lcg_src) (by kernel_rfl) (capC (by lcg_src) (by kernel_rfl) capN))) ?_
  repeat tlg_ne
  refine Range_1 C.ne ⟨_, .inr ⟨0, 4, rfl, rfl, by lcg_off⟩, by rw [rngL_len]; decide, ?_⟩
  refine CmpR_map (fun v => match v with | .int i => .int ((oc d (k + i.toNat) * 256 ^ i.toNat : Nat) : Int) | v => v) (fun v hv cenv CC => ?_) ?_
  · obtain ⟨i, hi, rfl⟩ : ∃ i : Nat, i < 4 ∧ v = .int i := by
      unfold rngL at hv
      simp only [List.mem_map, List.mem_range] at hv
      obtain ⟨a, ha, rfl⟩ := hv
      exact ⟨a, by lcg_off, by simp⟩
    have ho := oc_lt d (k + i)
    repeat tlg_ne
    refine Sub_oc (j := k + i) (by push_cast; rfl) (by lcg_off) (by lcg_off) ?_ rfl
    repeat tlg_ne
    refine ⟨?_, rfl⟩
    simp only [Int.toNat_natCast]
    push_cast; rfl
  · repeat tlg_ne
    rw [rng4]
    simp only [List.map_cons, List.map_nil, show (0 : Int).toNat = 0 from rfl, show (1 : Int).toNat = 1 from rfl, show (2 : Int).toNat = 2 from rfl, show (3 : Int).toNat = 3 from rfl, Nat.reducePow, Nat.mul_one, Nat.add_zero]
    refine Sum_ints (is := [((oc d k : Nat) : Int), ((oc d (k + 1) * 256 : Nat) : Int), ((oc d (k + 2) * 65536 : Nat) : Int), ((oc d (k + 3) * 16777216 : Nat) : Int)]) C.E rfl ?_
    have e : ([((oc d k : Nat) : Int), ((oc d (k + 1) * 256 : Nat) : Int), ((oc d (k + 2) * 65536 : Nat) : Int), ((oc d (k + 3) * 16777216 : Nat) : Int)] : List Int).sum = ((fx d k : Nat) : Int) := by
      unfold fx
      generalize oc d k = x0
      generalize oc d (k + 1) = x1
      generalize oc d (k + 2) = x2
      generalize oc d (k + 3) = x3
      rw [List.sum_cons, List.sum_cons, List.sum_cons, List.sum_cons, List.sum_nil]
      lcg_off
    rw [e]; exact h
theorem c_close {body : List UInt8} {ms : List Nat} (hb : body.length ≤ 1000) (hm : ms.length ≤ 100) (h : Q (.bytes (closeB body ms)) σ) : SemG (uni H) (n + 2) true "_law_close" [.bytes body, .lst (nI ms)] Q X σ := by
  refine semG_of (f := 382) (by kernel_rfl) (semV_fn rfl rfl rfl rfl (by kernel_rfl) (ps := ["body", "marks"]) (ρ := [("body", .bytes body), ("marks", .lst (nI ms))]) (by kernel_rfl) (fun vals h => by obtain ⟨a, b, rfl⟩ := len2 h; rfl) rfl rfl fun A l env C => ?_)
  dsimp only at C
  have hl := @nI_len ms
  repeat tlg_ne
  refine S_for C rfl ?_
  repeat tlg_ne
  refine For_inv2 (fun ys ρ σ' => ∃ k : Nat, σ' = σ ∧ k ≤ ms.length ∧ ys = nI (ms.drop k) ∧ ρ = ([("body", .bytes body), ("marks", .lst (nI ms)), ("out", .bytes (body ++ marksB (ms.take k)))] : Loc))
    (fun y ys ρ σ' I => ?_) (fun ρ ρ₁ σ' sb I => ?_) _ ⟨_, Sub.refl _, 0, rfl, by lcg_off, rfl, by simp [marksB]⟩
  · obtain ⟨k, rfl, hk, e, rfl⟩ := I
    have hk' : k < ms.length := by
      rcases Nat.lt_or_eq_of_le hk with q | q
      · exact q
      · rw [q, List.drop_length] at e; cases e
    rw [List.drop_eq_getElem_cons hk'] at e
    injection e with e1 e2
    subst e1 e2
    have mt : marksB (ms.take (k + 1)) = marksB (ms.take k) ++ fixB ms[k] := by
      unfold marksB
      rw [List.take_succ_eq_append_getElem hk', List.map_append, List.flatten_append]; simp
    repeat tlg_ne
    refine c_fix ?_
    refine B_addB ?_ ?_
    · rw [List.length_append, marksB_len, List.length_take, fixB_len]; lcg_off
    repeat tlg_ne
    refine ⟨_, ?_, k + 1, rfl, hk', rfl, rfl⟩
    rw [mt, ← List.append_assoc]
    repeat (first | exact Sub.nil | refine Sub.cons (by lcg_src) ?_)
  · obtain ⟨k, rfl, hk, e, rfl⟩ := I
    have hk' : k = ms.length := by
      have := congrArg List.length e
      unfold nI at this
      simp at this; lcg_off
    subst hk'
    refine S_drop sb ?_
    repeat tlg_ne
    rw [hl]
    refine c_fix ?_
    rw [List.take_length]
    refine B_addB ?_ ?_
    · rw [List.length_append, marksB_len, fixB_len]; lcg_off
    exact h
end
section
variable {H : Hy} {n : Nat} {hn : Bool} {Q : V → St → Prop} {X : Exn → St → Prop} {σ : St}
noncomputable def wB : Nat → Nat
  | 0 => 121
  | 1 => 120
  | 2 => 117
  | 3 => 108
  | _ => 81
theorem pow3 (s : Nat) : (3 : Int) ^ ((s : Nat) : Int).toNat = ((3 ^ s : Nat) : Int) := by rw [Int.toNat_natCast]; norm_cast
theorem wB_step {s w : Nat} (h1 : s ≤ 4) (h2 : w < wB s) (h3 : 3 ^ s ≤ w) : s + 1 ≤ 4 ∧ w - 3 ^ s < wB (s + 1) := by
  match s, h1 with
  | 0, _ => simp [wB] at *; k_lenW
  | 1, _ => simp [wB] at *; k_lenW
  | 2, _ => simp [wB] at *; k_lenW
  | 3, _ => simp [wB] at *; k_lenW
  | 4, _ => simp [wB] at *; k_lenW
  | s + 5, h => k_lenW
theorem ints_ex : ∀ {ys : List V}, (∀ y ∈ ys, ∃ i : Int, 0 ≤ i ∧ i < 256 ∧ y = .int i) → ∃ is : List Int, ys = is.map V.int ∧ ∀ i ∈ is, 0 ≤ i ∧ i < 256
  | [], _ => ⟨[], rfl, fun _ h => nomatch h⟩
  | y :: ys, h => by
    obtain ⟨i, h1, h2, rfl⟩ := h y (.head _)
    obtain ⟨is, rfl, h3⟩ := ints_ex fun z hz => h z (.tail _ hz)
    exact ⟨i :: is, rfl, fun j hj => by
      rcases List.mem_cons.mp hj with q | q
      · subst q; exact ⟨h1, h2⟩
      · exact h3 j q⟩
/-- bytes of octets not told apart -/
theorem Bytes_byts {u : Uni} {A : Around} {l : List Env} {env : Env} {kd : Str → Option NameKind} (C : ECx u A l env n hn kd) (hh : hn = true) (ys : List V) (hz : ys.length ≤ 1000) (hi : ∀ y ∈ ys, ∃ i : Int, 0 ≤ i ∧ i < 256 ∧ y = .int i)
    (q : ∀ b : List UInt8, b.length = ys.length → Q (.bytes b) σ) : BuiltP u A l (.type "bytes") [.lst ys] Q X σ := by
  obtain ⟨is, rfl, h⟩ := ints_ex hi
  rw [List.length_map] at hz
  exact Bytes_ints C hh (by lcg_off) h (q _ (by simp [octs]))
theorem c_word {w : Nat} {a : Int} (ha : a = w) (hw : w < 121) (h : ∀ b : List UInt8, b.length ≤ 4 → Q (.bytes b) σ) : SemG (uni H) (n + 1) true "_law_word" [.int a] Q X σ := by
  subst ha
  refine semG_of (f := 351) (by kernel_rfl) (semV_fn rfl rfl rfl rfl (by kernel_rfl) (ps := ["u"]) (ρ := [("u", .int w)]) (by kernel_rfl) (fun vals h => by obtain ⟨a, rfl⟩ := len1 h; rfl) rfl rfl fun A l env C => ?_)
  dsimp only at C
  repeat tlg_ne
  refine S_while C ?_
  refine Wh_inv2 (fun m ρ σ' => ∃ s v : Nat, σ' = σ ∧ s ≤ 4 ∧ v < wB s ∧ m = 5 - s ∧ ρ = ([("u", .int v), ("size", .int s)] : Loc))
    (fun m ρ σ' I => ?_) (fun _ _ _ _ _ q => q) (k := 5) ⟨_, Sub.refl _, 0, w, rfl, by lcg_off, hw, rfl, rfl⟩
  obtain ⟨s, v, rfl, hs, hv, hm, rfl⟩ := I
  refine T_P (3 ^ s ≤ v) ?_ (fun hP => ?_) (fun hP => ?_)
  · repeat tlg_ne
    rw [pow3]
    exact ⟨decide_eq_decide.mpr (by lcg_off), rfl⟩
  · obtain ⟨w1, w2⟩ := wB_step hs hv hP
    repeat tlg_ne
    rw [pow3]
    repeat tlg_ne
    refine ⟨_, ?_, _, ?_, s + 1, v - 3 ^ s, rfl, w1, w2, rfl, rfl⟩
    · rw [show ((v - 3 ^ s : Nat) : Int) = (v : Int) - ((3 ^ s : Nat) : Int) by lcg_off]
      repeat (first | exact Sub.nil | refine Sub.cons (by lcg_src) ?_)
    · lcg_off
  · intro ρ'' sb
    refine S_drop sb ?_
    repeat tlg_ne
    refine E_comp C.E rfl (cmpS_of (ρc := [("u", .int v)]) (by kernel_rfl) (capC (by lcg_src) (by kernel_rfl) capN)) ?_
    repeat tlg_ne
    refine Range_1 C.ne ⟨_, .inr ⟨0, s, rfl, rfl, by lcg_off⟩, by rw [rngL_len]; lcg_off, ?_⟩
    refine CmpR_rel (fun σ'' => σ'' = σ') (fun _ y => ∃ i : Int, 0 ≤ i ∧ i < 256 ∧ y = .int i) _ (fun x hx σ'' e cenv CC => ?_) [] _ (fun ys σ'' hl hp e => ?_) rfl
    · subst e
      obtain ⟨i, hi, rfl⟩ : ∃ i : Nat, i < 4 ∧ x = .int i := by
        unfold rngL at hx
        simp only [List.mem_map, List.mem_range] at hx
        obtain ⟨a, ha, rfl⟩ := hx
        exact ⟨a, by lcg_off, by simp⟩
      have p : 0 < 3 ^ i := Nat.pow_pos (by decide)
      have p' : 3 ^ i < 1073741824 := Nat.lt_of_le_of_lt (Nat.pow_le_pow_right (by decide) (show i ≤ 3 by lcg_off)) (by decide)
      repeat tlg_ne
      repeat tlg_ne
      rw [pow3]
      refine B_fdiv (by lcg_off) (by lcg_off) ?_
      rw [fdivI]
      repeat tlg_ne
      have hm3 : 0 ≤ ((v / 3 ^ i : Nat) : Int) % 3 ∧ ((v / 3 ^ i : Nat) : Int) % 3 < 3 := ⟨Int.emod_nonneg _ (by lcg_off), Int.emod_lt_of_pos _ (by lcg_off)⟩
      generalize ((v / 3 ^ i : Nat) : Int) % 3 = z at hm3
      obtain rfl | rfl | rfl : z = 0 ∨ z = 1 ∨ z = 2 := by lcg_off
      · exact Sub_tup (y := .int 0) (by lcg_off) (by simp) rfl ⟨⟨_, by lcg_off, by lcg_off, rfl⟩, rfl⟩ rfl
      · exact Sub_tup (y := .int 97) (by lcg_off) (by simp) rfl ⟨⟨_, by lcg_off, by lcg_off, rfl⟩, rfl⟩ rfl
      · exact Sub_tup (y := .int 255) (by lcg_off) (by simp) rfl ⟨⟨_, by lcg_off, by lcg_off, rfl⟩, rfl⟩ rfl
    · subst e
      repeat tlg_ne
      rw [List.nil_append]
      refine Bytes_byts C.E rfl ys (by rw [hl, rngL_len]; lcg_off) (fun y hy => ?_) fun b hb => h b ?_
      · obtain ⟨i, hi, e⟩ := List.getElem_of_mem hy
        exact hp i _ y (List.getElem?_eq_getElem (by rw [← hl]; exact hi)) (by rw [List.getElem?_eq_getElem hi, e])
      · rw [hb, hl, rngL_len]; lcg_off
end
@[reducible] noncomputable def bL (ws : List (List UInt8)) : List V := ws.map V.bytes
theorem S_midx {u : Uni} {A : Around} {l : List Env} {env : Env} {ρ : Loc} {X : Exn → Loc → St → Prop} {N : Loc → St → Prop} {R : V → St → Prop} {σ : St} {t : Sem Flow} (M : Loc → St → Prop)
    (h : SOk u A l env t ρ M R X σ) (k : ∀ ρ₁ σ₁, M ρ₁ σ₁ → N ρ₁ σ₁) : SOk u A l env t ρ N R X σ := h.mono k (fun _ _ q => q) fun _ _ _ q => q
/-- an if whose test may say either -/
theorem S_ifA {u : Uni} {A : Around} {l : List Env} {env : Env} {ρ : Loc} {X : Exn → Loc → St → Prop} {N : Loc → St → Prop} {R : V → St → Prop} {σ : St} {t : Expr} {a b : List Stmt} {pos : Pos} (h : EOk u A l env Bl (isTrue t env (eval t env)) ρ (fun _ σ' => σ' = σ) (fun c σ' => X c ρ σ') σ)
    (h1 : SOk u A l env (execs a env) ρ N R X σ) (h2 : SOk u A l env (execs b env) ρ N R X σ) : SOk u A l env (exec (.If t a b pos) env) ρ N R X σ :=
  S_if (h.mono (fun c σ' q => by subst q; exact ⟨fun _ => h1, fun _ => h2⟩) fun _ _ q => q)
/-- the counter is a whole number; the rest as in σ₀ -/
noncomputable def Ct (σ₀ σ : St) : Prop := ∃ k : Int, 0 ≤ k ∧ σ = σ₀.set .cnt (.lst false [.int k])
section
variable {H : Hy} {n : Nat} {hn : Bool} {Q : V → St → Prop} {X : Exn → St → Prop} {σ σ₀ : St} {tp : List Int}
theorem c_tk (m : Nat) {a : Int} (ha : a = m) (hm : 0 < m) (hc : Ct σ₀ σ) (ht : 0 < tp.length) (hz : tp.length ≤ 1000) (h : ∀ (r : Nat) σ', r < m → Ct σ₀ σ' → Q (.int r) σ') : SemG (uni H) (n + 1) hn "_law_take" [.lst (zI tp), .ref .cnt, .int a] Q X σ := by
  obtain ⟨k, hk, rfl⟩ := hc
  subst ha
  refine c_take (k := k) rfl hk ht hz (by lcg_off) fun r k' h1 h2 h3 => ?_
  obtain ⟨r', rfl⟩ : ∃ r' : Nat, r = r' := ⟨r.toNat, by lcg_off⟩
  exact h r' _ (by lcg_off) ⟨k', h3, rfl⟩
theorem c_made (hc : Ct σ₀ σ) (ht : 0 < tp.length) (hz : tp.length ≤ 1000) (h : ∀ body ms σ', body.length ≤ 65 → 0 < ms.length → ms.length ≤ 6 → (∀ i, i < ms.length → mkAt ms i ≤ body.length) → Ct σ₀ σ' → Q (.bytes (closeB body ms)) σ') :
    SemG (uni H) (n + 3) true "_law_made" [.lst (zI tp), .ref .cnt] Q X σ := by
  refine semG_of (f := 387) (by kernel_rfl) (semV_fn rfl rfl rfl rfl (by kernel_rfl) (ps := ["tape", "at"]) (ρ := [("tape", .lst (zI tp)), ("at", .ref .cnt)]) (by kernel_rfl) (fun vals h => by obtain ⟨a, b, rfl⟩ := len2 h; rfl) rfl rfl fun A l env C => ?_)
  dsimp only at C
  repeat tlg_ne
  refine c_tk 4 rfl (by lcg_off) hc ht hz fun r0 σ1 _ hc1 => ?_
  repeat tlg_ne
  generalize decide ((r0 : Int) < 3) = ris
  refine S_midx (fun ρ σ' => Ct σ₀ σ' ∧ ∃ ws : List (List UInt8), ws.length ≤ 5 ∧ (∀ w ∈ ws, w.length ≤ 4) ∧ Sub [("tape", .lst (zI tp)), ("at", .ref .cnt), ("rising", .bool ris), ("words", .lst (bL ws))] ρ) ?_ (fun ρ₁ σ' hM => ?_)
  · refine S_forR C rfl ?_
    repeat tlg_ne
    refine c_tk 6 rfl (by lcg_off) hc1 ht hz fun r1 σ2 hr1 hc2 => ?_
    repeat tlg_ne
    refine Range_1 C.ne ⟨_, _, rfl, by lcg_off, ?_⟩
    refine ForR_inv2 (fun i ρ σ' => Ct σ₀ σ' ∧ ∃ ws : List (List UInt8), (ws.length : Int) ≤ i ∧ (∀ w ∈ ws, w.length ≤ 4) ∧ ρ = ([("tape", .lst (zI tp)), ("at", .ref .cnt), ("rising", .bool ris), ("words", .lst (bL ws))] : Loc)) (by lcg_off)
      (fun i ρ σ' _ hi I => ?_) (fun ρ ρ₁ σ' sb I => ?_) ⟨_, Sub.refl _, hc2, [], by simp, by simp, rfl⟩
    · obtain ⟨hc3, ws, hl, hw, rfl⟩ := I
      repeat tlg_ne
      refine c_tk 16777216 rfl (by lcg_off) hc3 ht hz fun r2 σ3 hr2 hc4 => ?_
      repeat tlg_ne
      refine c_word (w := r2 % 121) (by push_cast; rfl) (by lcg_off) fun w hwl => ?_
      refine as_name C.E (lc_of (by kernel_rfl)) (by one_sign) ?_
      refine S_cons (S_ifA ?_ ?_ ?_)
      · repeat tlg_ne
        refine ⟨fun _ => ?_, fun _ => ?_⟩
        · rfl
        · repeat tlg_ne
          refine C_notin ?_
          repeat tlg_ne
          refine ⟨fun _ => rfl, fun _ => ?_⟩
          repeat tlg_ne
          rfl
      · repeat tlg_ne
        refine B_addL (y := bL [w]) C.ne (by simp; lcg_off) ?_
        repeat tlg_ne
        refine ⟨_, ?_, hc4, ws ++ [w], by simp; lcg_off, ?_, rfl⟩
        · rw [show bL ws ++ bL [w] = bL (ws ++ [w]) by simp [bL]]
          repeat (first | exact Sub.nil | refine Sub.cons (by lcg_src) ?_)
        · intro x hx
          rcases List.mem_append.mp hx with q | q
          · exact hw x q
          · obtain rfl := List.mem_singleton.mp q; exact hwl
      · repeat tlg_ne
        refine ⟨_, ?_, hc4, ws, by lcg_off, hw, rfl⟩
        repeat (first | exact Sub.nil | refine Sub.cons (by lcg_src) ?_)
    · obtain ⟨hc3, ws, hl, hw, rfl⟩ := I
      exact ⟨hc3, ws, by lcg_off, hw, sb⟩
  · obtain ⟨hc2, ws, hwl, hw, sb⟩ := hM
    refine S_drop sb ?_
    refine S_cons (S_midx (fun ρ σ'' => σ'' = σ' ∧ ∃ ws : List (List UInt8), ws.length ≤ 5 ∧ (∀ w ∈ ws, w.length ≤ 4) ∧ ρ = ([("tape", .lst (zI tp)), ("at", .ref .cnt), ("rising", .bool ris), ("words", .lst (bL ws))] : Loc)) (S_ifA ?_ ?_ ?_) (fun ρ₁ σ'' hM => ?_))
    · repeat tlg_ne
      cases ris <;> rfl
    · repeat tlg_ne
      refine Sorted_byts C.ne (by lcg_off) fun ys hp => ?_
      repeat tlg_ne
      exact ⟨rfl, ys, by rw [hp.length_eq]; exact hwl, fun w hw' => hw w (hp.mem_iff.mp hw'), rfl⟩
    · repeat tlg_ne
      exact ⟨rfl, ws, hwl, hw, rfl⟩
    obtain ⟨rfl, ws, hwl, hw, rfl⟩ := hM
    repeat tlg_ne
    refine S_for C rfl ?_
    repeat tlg_ne
    refine For_inv2 (fun ys ρ σ' => Ct σ₀ σ' ∧ ∃ (ws : List (List UInt8)) (k : Nat) (body last : List UInt8) (ms : List Nat), ys = bL ws ∧ k + ws.length ≤ 5 ∧ (∀ w ∈ ws, w.length ≤ 4) ∧ body.length ≤ 13 * k ∧ last.length ≤ 4 ∧ 0 < ms.length ∧ ms.length ≤ k + 1 ∧
        (∀ i, i < ms.length → mkAt ms i ≤ body.length) ∧ ρ = ([("tape", .lst (zI tp)), ("at", .ref .cnt), ("body", .bytes body), ("marks", .lst (nI ms)), ("last", .bytes last)] : Loc))
      (fun y ys ρ σ' I => ?_) (fun ρ ρ₁ σ' sb I => ?_) _ ⟨_, ?_, hc2, ws, 0, [], [], [0], rfl, by lcg_off, hw, by simp, by simp, by simp, by simp, by simp [mkAt], rfl⟩
    · obtain ⟨hc3, ws, k, body, last, ms, e, hk, hw, hb, hl, hm0, hm1, hmi, rfl⟩ := I
      cases ws with
      | nil => cases e
      | cons w ws =>
        injection e with e1 e2
        subst e1 e2
        rw [List.length_cons] at hk
        have hwl := hw w (.head _)
        repeat tlg_ne
        refine c_tk 16777216 rfl (by lcg_off) hc3 ht hz fun y σ3 hy hc4 => ?_
        repeat tlg_ne
        refine c_common (by lcg_off) (by lcg_off) fun c hc1 hc2 => ?_
        iterate 3 tlg_ne
        have sm := Int.emod_lt_of_pos ((y : Int) / 3) (show 0 < (c : Int) + 1 by lcg_off)
        have sm0 := Int.emod_nonneg ((y : Int) / 3) (show (c : Int) + 1 ≠ 0 by lcg_off)
        generalize (y : Int) / 3 % ((c : Int) + 1) = z at sm sm0
        obtain ⟨s, rfl⟩ : ∃ s : Nat, z = s := ⟨z.toNat, by lcg_off⟩
        tlg_ne
        refine S_cons (S_midx (fun ρ σ'' => σ'' = σ3 ∧ ∃ (ms : List Nat) (s : Nat), s ≤ w.length ∧ 0 < ms.length ∧ ms.length ≤ k + 2 ∧ (∀ i, i < ms.length → mkAt ms i ≤ body.length) ∧
          ρ = ([("tape", .lst (zI tp)), ("at", .ref .cnt), ("body", .bytes body), ("marks", .lst (nI ms)), ("last", .bytes last), ("word", .bytes w), ("y", .int y), ("same", .int s)] : Loc)) (S_ifA ?_ ?_ ?_) (fun ρ₁ σ'' hM => ?_))
        · repeat tlg_ne
          refine ⟨fun _ => ?_, fun _ => rfl⟩
          repeat tlg_ne
          refine ⟨fun _ => ?_, fun _ => rfl⟩
          repeat tlg_ne
          rfl
        · repeat tlg_ne
          refine B_addL (y := nI [body.length]) C.ne (by simp; lcg_off) ?_
          repeat tlg_ne
          refine ⟨rfl, ms ++ [body.length], 0, by lcg_off, by simp, by simp; lcg_off, fun i hi => ?_, ?_⟩
          · by_cases q : i < ms.length
            · have := hmi i q
              unfold mkAt at this ⊢
              rwa [List.getD_eq_getElem?_getD, List.getElem?_append_left q, ← List.getD_eq_getElem?_getD]
            · have : i = ms.length := by simp at hi; lcg_off
              subst this
              unfold mkAt
              rw [List.getD_eq_getElem?_getD, List.getElem?_append_right (Nat.le_refl _)]
              simp
          · rw [show nI ms ++ nI [body.length] = nI (ms ++ [body.length]) by simp [nI]]; rfl
        · repeat tlg_ne
          exact ⟨rfl, ms, s, by lcg_off, hm0, by lcg_off, hmi, rfl⟩
        obtain ⟨rfl, ms, s, hs, hm0, hm1, hmi, rfl⟩ := hM
        repeat tlg_ne
        refine E_comp C.E rfl (cmpS_of (ρc := [("y", .int y)]) (by kernel_rfl) (capC (by lcg_src) (by kernel_rfl) capN)) ?_
        repeat tlg_ne
        have c4 := Int.emod_lt_of_pos ((y : Int) / 11) (show 0 < (4 : Int) by lcg_off)
        have c40 := Int.emod_nonneg ((y : Int) / 11) (show (4 : Int) ≠ 0 by lcg_off)
        generalize (y : Int) / 11 % 4 = z at c4 c40
        refine Range_1 C.ne ⟨_, .inr ⟨0, z, rfl, rfl, by lcg_off⟩, by rw [rngL_len]; lcg_off, ?_⟩
        refine CmpR_rel (fun σ₁ => σ₁ = σ'') (fun _ y => ∃ i : Int, 0 ≤ i ∧ i < 256 ∧ y = .int i) _ (fun x hx σ₁ e cenv CC => ?_) [] _ (fun ys σ₁ hl hp e => ?_) rfl
        · subst e
          repeat tlg_ne
          exact ⟨⟨_, Int.emod_nonneg _ (by lcg_off), Int.emod_lt_of_pos _ (by lcg_off), rfl⟩, rfl⟩
        subst e
        repeat tlg_ne
        rw [List.nil_append]
        have hyl : ys.length ≤ 3 := by rw [hl, rngL_len]; lcg_off
        refine Bytes_byts C.E rfl ys (by lcg_off) (fun y hy => ?_) fun v hv => ?_
        · obtain ⟨i, hi, e⟩ := List.getElem_of_mem hy
          exact hp i _ y (List.getElem?_eq_getElem (by rw [← hl]; exact hi)) (by rw [List.getElem?_eq_getElem hi, e])
        repeat tlg_ne
        refine c_put (by lcg_off) fun p1 hp1 => ?_
        repeat tlg_ne
        rw [show (w.length : Int) - (s : Int) = ((w.length - s : Nat) : Int) by lcg_off]
        refine c_put (by lcg_off) fun p2 hp2 => ?_
        refine B_addB (by lcg_off) ?_
        repeat tlg_ne
        refine B_addB (by rw [List.length_append]; lcg_off) ?_
        repeat tlg_ne
        refine c_put (by lcg_off) fun p3 hp3 => ?_
        refine B_addB (by simp only [List.length_append]; lcg_off) ?_
        repeat tlg_ne
        refine Sl_bytes C.E (i := some s) (j := none) (by simp [endOf]) (by simp [endOf]) (by lcg_off) ?_
        have hcut : (cut w (some s) none).length ≤ 4 := by simp [cut]; lcg_off
        generalize cut w (some s) none = ct at hcut
        refine B_addB (by simp only [List.length_append]; lcg_off) ?_
        repeat tlg_ne
        refine B_addB (by simp only [List.length_append]; lcg_off) ?_
        repeat tlg_ne
        refine ⟨_, ?_, hc4, ws, k + 1, body ++ (p1 ++ p2) ++ p3 ++ ct ++ v, w, ms, rfl, by lcg_off, fun x hx => hw x (.tail _ hx), ?_, hwl, hm0, by lcg_off, fun i hi => ?_, rfl⟩
        · repeat (first | exact Sub.nil | refine Sub.cons (by lcg_src) ?_)
        · simp only [List.length_append]; lcg_off
        · have := hmi i hi
          simp only [List.length_append]; lcg_off
    · obtain ⟨hc3, ws, k, body, last, ms, e, hk, hw, hb, hl, hm0, hm1, hmi, rfl⟩ := I
      refine S_drop sb ?_
      repeat tlg_ne
      exact c_close (by lcg_off) (by lcg_off) (h body ms _ (by lcg_off) hm0 (by lcg_off) hmi hc3)
    · repeat (first | exact Sub.nil | refine Sub.cons (by lcg_src) ?_)
end
section
variable {H : Hy} {n : Nat} {hn : Bool} {Q : V → St → Prop} {X : Exn → St → Prop} {σ σ₀ : St} {tp : List Int}
theorem bxor_lt {a b : Nat} (ha : a < 256) (hb : b < 256) : 0 ≤ Builtin.bitXor (a : Int) (b : Int) ∧ Builtin.bitXor (a : Int) (b : Int) < 256 := by
  unfold Builtin.bitXor
  rw [bor_nat, band_nat]
  have h1 : a ||| b < 2 ^ 8 := Nat.or_lt_two_pow ha hb
  have h2 : a &&& b ≤ a := Nat.and_le_left
  have h3 : a ≤ a ||| b := Nat.left_le_or
  lcg_off
theorem c_octets (hc : Ct σ₀ σ) (ht : 0 < tp.length) (hz : tp.length ≤ 1000) (h : ∀ d σ', d.length ≤ 200 → Ct σ₀ σ' → Q (.bytes d) σ') :
    SemG (uni H) (n + 4) true "_law_octets" [.lst (zI tp), .ref .cnt] Q X σ := by
  refine semG_of (f := 392) (by kernel_rfl) (semV_fn rfl rfl rfl rfl (by kernel_rfl) (ps := ["tape", "at"]) (ρ := [("tape", .lst (zI tp)), ("at", .ref .cnt)]) (by kernel_rfl) (fun vals h => by obtain ⟨a, b, rfl⟩ := len2 h; rfl) rfl rfl fun A l env C => ?_)
  dsimp only at C
  repeat tlg_ne
  refine c_tk 6 rfl (by lcg_off) hc ht hz fun way σ1 hway hc1 => ?_
  tlg_ne
  refine S_cons (S_ifT (way = 5) ?_ (fun hw => ?_) (fun hw => ?_))
  · repeat tlg_ne
    exact ⟨decide_eq_decide.mpr (by lcg_off), rfl⟩
  · subst hw
    repeat tlg_ne
    refine c_tk 21 rfl (by lcg_off) hc1 ht hz fun size σ2 hsz hc2 => ?_
    repeat tlg_ne
    refine S_forR C rfl ?_
    repeat tlg_ne
    refine c_tk 4 rfl (by lcg_off) hc2 ht hz fun cn σ3 hcn hc3 => ?_
    repeat tlg_ne
    refine Range_1 C.ne ⟨_, _, rfl, by lcg_off, ?_⟩
    refine ForR_inv2 (fun i ρ σ' => Ct σ₀ σ' ∧ ∃ (k : Nat) (ms : List Nat), i = k ∧ ms.length = k + 1 ∧ ρ = ([("tape", .lst (zI tp)), ("at", .ref .cnt), ("size", .int size), ("marks", .lst (nI ms))] : Loc)) (by lcg_off)
      (fun i ρ σ' _ hi I => ?_) (fun ρ ρ₁ σ' sb I => ?_) ⟨_, ?_, hc3, 0, [0], rfl, rfl, rfl⟩
    · obtain ⟨hc4, k, ms, rfl, hml, rfl⟩ := I
      repeat tlg_ne
      refine Sub_list (y := .int (mkAt ms k : Nat)) (by lcg_off) (by rw [nI_len]; lcg_off) (nI_get (by lcg_off)) ?_ rfl
      repeat tlg_ne
      refine c_tk 7 rfl (by lcg_off) hc4 ht hz fun r σ4 hr hc5 => ?_
      repeat tlg_ne
      have e : (mkAt ms k : Int) + 1 + (r : Int) = ((mkAt ms k + 1 + r : Nat) : Int) := by push_cast; rfl
      rw [e]
      refine B_addL (y := nI [mkAt ms k + 1 + r]) C.ne (by simp; lcg_off) ?_
      repeat tlg_ne
      refine ⟨_, ?_, hc5, k + 1, ms ++ [mkAt ms k + 1 + r], by push_cast; rfl, by simp [hml], rfl⟩
      rw [show nI ms ++ nI [mkAt ms k + 1 + r] = nI (ms ++ [mkAt ms k + 1 + r]) by simp [nI]]
      repeat (first | exact Sub.nil | refine Sub.cons (by lcg_src) ?_)
    · obtain ⟨hc4, k, ms, e, hml, rfl⟩ := I
      refine S_drop sb ?_
      repeat tlg_ne
      refine E_comp C.E rfl (cmpS_of (ρc := [("tape", .lst (zI tp)), ("at", .ref .cnt)]) (by kernel_rfl) (capC (by lcg_src) (by kernel_rfl) (capC (by lcg_src) (by kernel_rfl) capN))) ?_
      repeat tlg_ne
      refine Range_1 C.ne ⟨_, .inr ⟨0, size, rfl, rfl, by lcg_off⟩, by rw [rngL_len]; lcg_off, ?_⟩
      refine CmpR_rel (fun σ₁ => Ct σ₀ σ₁) (fun _ y => ∃ i : Int, 0 ≤ i ∧ i < 256 ∧ y = .int i) _ (fun x hx σ₁ e cenv CC => ?_) [] _ (fun ys σ₁ hl hp hc6 => ?_) hc4
      · repeat tlg_ne
        refine c_tk 8 rfl (by lcg_off) e ht hz fun r σ4 hr hc5 => ?_
        have hr' : r = 0 ∨ r = 1 ∨ r = 2 ∨ r = 3 ∨ r = 4 ∨ r = 5 ∨ r = 6 ∨ r = 7 := by lcg_off
        rcases hr' with rfl | rfl | rfl | rfl | rfl | rfl | rfl | rfl
        · exact Sub_tup (y := .int 0) (by lcg_off) (by simp) rfl ⟨⟨_, by lcg_off, by lcg_off, rfl⟩, hc5⟩ rfl
        · exact Sub_tup (y := .int 1) (by lcg_off) (by simp) rfl ⟨⟨_, by lcg_off, by lcg_off, rfl⟩, hc5⟩ rfl
        · exact Sub_tup (y := .int 0) (by lcg_off) (by simp) rfl ⟨⟨_, by lcg_off, by lcg_off, rfl⟩, hc5⟩ rfl
        · exact Sub_tup (y := .int 2) (by lcg_off) (by simp) rfl ⟨⟨_, by lcg_off, by lcg_off, rfl⟩, hc5⟩ rfl
        · exact Sub_tup (y := .int 1) (by lcg_off) (by simp) rfl ⟨⟨_, by lcg_off, by lcg_off, rfl⟩, hc5⟩ rfl
        · exact Sub_tup (y := .int 3) (by lcg_off) (by simp) rfl ⟨⟨_, by lcg_off, by lcg_off, rfl⟩, hc5⟩ rfl
        · exact Sub_tup (y := .int 97) (by lcg_off) (by simp) rfl ⟨⟨_, by lcg_off, by lcg_off, rfl⟩, hc5⟩ rfl
        · exact Sub_tup (y := .int 128) (by lcg_off) (by simp) rfl ⟨⟨_, by lcg_off, by lcg_off, rfl⟩, hc5⟩ rfl
      repeat tlg_ne
      rw [List.nil_append]
      have hyl : ys.length ≤ 20 := by rw [hl, rngL_len]; lcg_off
      refine Bytes_byts C.E rfl ys (by lcg_off) (fun y hy => ?_) fun v hv => ?_
      · obtain ⟨i, hi, e⟩ := List.getElem_of_mem hy
        exact hp i _ y (List.getElem?_eq_getElem (by rw [← hl]; exact hi)) (by rw [List.getElem?_eq_getElem hi, e])
      repeat tlg_ne
      exact c_close (by lcg_off) (by lcg_off) (h _ _ (by rw [closeB_len]; lcg_off) hc6)
    · repeat (first | exact Sub.nil | refine Sub.cons (by lcg_src) ?_)
  · repeat tlg_ne
    refine c_made hc1 ht hz fun body ms σ2 hb hm0 hm1 hmi hc2 => ?_
    have hlen := closeB_len body ms
    have hcnt := closeB_cnt (body := body) (ms := ms) (by lcg_off)
    have hmark := fun i hi => closeB_mark (body := body) (ms := ms) (i := i) hi (by have := hmi i hi; lcg_off)
    have h := h
    generalize closeB body ms = d at hlen hcnt hmark
    repeat tlg_ne
    refine brD (fun hw3 => ?_) (fun hw3 => ?_)
    · repeat tlg_ne
      exact h d _ (by lcg_off) hc2
    repeat tlg_ne
    refine c_tk 16777216 rfl (by lcg_off) hc2 ht hz fun sp σ3 hsp hc3 => ?_
    iterate 6 tlg_ne
    have sm := Int.emod_lt_of_pos (sp : Int) (show 0 < (d.length : Int) by lcg_off)
    have sm0 := Int.emod_nonneg (sp : Int) (show (d.length : Int) ≠ 0 by lcg_off)
    generalize (sp : Int) % (d.length : Int) = z at sm sm0
    obtain ⟨spot, rfl⟩ : ∃ s : Nat, z = s := ⟨z.toNat, by lcg_off⟩
    have hspot : spot < d.length := by lcg_off
    clear sm sm0
    tlg_ne
    refine S_cons (S_ifT (way = 3) ?_ (fun hw => ?_) (fun hw => ?_))
    · repeat tlg_ne
      exact ⟨decide_eq_decide.mpr (by lcg_off), rfl⟩
    · repeat tlg_ne
      refine c_tk 16777216 rfl (by lcg_off) hc3 ht hz fun x σ4 hx hc4 => ?_
      tlg_ne
      refine S_cons (S_midx (fun ρ σ' => σ' = σ4 ∧ ∃ spot : Nat, spot < d.length ∧ ρ = ([("tape", .lst (zI tp)), ("at", .ref .cnt), ("way", .int way), ("data", .bytes d), ("spot", .int spot), ("x", .int x)] : Loc)) (S_ifA ?_ ?_ ?_) (fun ρ₁ σ' hM => ?_))
      · repeat tlg_ne
        rfl
      · repeat tlg_ne
        refine c_num (k := d.length - 4) (by lcg_off) (by lcg_off) (by lcg_off) ?_
        rw [hcnt]
        repeat tlg_ne
        have jm := Int.emod_lt_of_pos ((x : Int) / 2) (show 0 < (ms.length : Int) by lcg_off)
        have jm0 := Int.emod_nonneg ((x : Int) / 2) (show (ms.length : Int) ≠ 0 by lcg_off)
        generalize (x : Int) / 2 % (ms.length : Int) = z at jm jm0
        obtain ⟨j, rfl⟩ : ∃ s : Nat, z = s := ⟨z.toNat, by lcg_off⟩
        refine c_num (k := body.length + 4 * (ms.length - 1 - j)) (by lcg_off) (by lcg_off) (by lcg_off) ?_
        rw [hmark _ (by lcg_off)]
        repeat tlg_ne
        exact ⟨rfl, _, by have := hmi (ms.length - 1 - j) (by lcg_off); lcg_off, rfl⟩
      · repeat tlg_ne
        exact ⟨rfl, spot, hspot, rfl⟩
      obtain ⟨rfl, spot, hspot, rfl⟩ := hM
      repeat tlg_ne
      refine Sl_bytes C.E (i := none) (j := some spot) (by simp [endOf]) (by simp [endOf]) (by lcg_off) ?_
      repeat tlg_ne
      refine Sub_oc rfl hspot (by lcg_off) ?_ rfl
      repeat tlg_ne
      refine c_tk 255 rfl (by lcg_off) hc4 ht hz fun r σ5 hr hc5 => ?_
      repeat tlg_ne
      refine B_xor ?_
      have ho := oc_lt d spot
      obtain ⟨y0, y1⟩ := bxor_lt (a := oc d spot) (b := 1 + r) ho (by lcg_off)
      rw [show (1 : Int) + (r : Int) = ((1 + r : Nat) : Int) by push_cast; rfl]
      generalize Builtin.bitXor ((oc d spot : Nat) : Int) ((1 + r : Nat) : Int) = y at y0 y1
      repeat tlg_ne
      refine Bytes_byts C.E rfl [.int y] (by simp) (by simp; exact ⟨y0, y1⟩) fun v hv => ?_
      have c1 : (cut d none (some spot)).length ≤ spot := by simp [cut]; lcg_off
      generalize cut d none (some spot) = ct at c1
      refine B_addB (by rw [hv]; simp; lcg_off) ?_
      repeat tlg_ne
      refine Sl_bytes C.E (i := some (spot + 1)) (j := none) (by simp [endOf]; lcg_off) (by simp [endOf]) (by lcg_off) ?_
      have c2 : (cut d (some (spot + 1)) none).length ≤ d.length - (spot + 1) := by simp [cut]
      generalize cut d (some (spot + 1)) none = ct2 at c2
      simp only [List.length_cons, List.length_nil] at hv
      refine B_addB (by rw [List.length_append, hv]; lcg_off) ?_
      exact h _ _ (by rw [List.length_append, List.length_append, hv]; lcg_off) hc5
    · repeat tlg_ne
      refine Sl_bytes C.E (i := none) (j := some spot) (by simp [endOf]) (by simp [endOf]) (by lcg_off) ?_
      have c1 : (cut d none (some spot)).length ≤ spot := by simp [cut]; lcg_off
      generalize cut d none (some spot) = ct at c1
      repeat tlg_ne
      refine c_tk 3 rfl (by lcg_off) hc3 ht hz fun r σ5 hr hc5 => ?_
      repeat tlg_ne
      refine Sl_bytes C.E (i := some (spot + 1 + r)) (j := none) (by simp [endOf]; lcg_off) (by simp [endOf]) (by lcg_off) ?_
      have c2 : (cut d (some (spot + 1 + r)) none).length ≤ d.length - (spot + 1 + r) := by simp [cut]
      generalize cut d (some (spot + 1 + r)) none = ct2 at c2
      refine B_addB (by lcg_off) ?_
      exact h _ _ (by rw [List.length_append]; lcg_off) hc5
end
section
variable {u : Uni} {A : Around} {l : List Env} {env : Env} {ρ : Loc} {X : Exn → Loc → St → Prop} {N : Loc → St → Prop} {R : V → St → Prop} {σ : St}
theorem ForR_c {t : Expr} {body : List Stmt} {y : V} {ys : List V} (h : AsOk u A l env (assign t env) y ρ (fun ρ' σ' => SOk u A l env (execs body env) ρ' (fun ρ'' σ'' => ForR u A l env t body N R X ys ρ'' σ'') R X σ') X σ) : ForR u A l env t body N R X (y :: ys) ρ σ := by unfold ForR; exact h
theorem ForR_n {t : Expr} {body : List Stmt} (h : N ρ σ) : ForR u A l env t body N R X [] ρ σ := by unfold ForR; exact h
end
section
variable {H : Hy} {n : Nat} {hn : Bool} {Q : V → St → Prop} {X : Exn → St → Prop} {σ : St} {d : List UInt8}
theorem c_lvar {at' e : Nat} (hz : d.length ≤ 1000) (he : e ≤ d.length) (h1 : ∀ v p, var d e at' = some (v, p) → Q (.tup [.int (v : Nat), .int (p : Nat)]) σ) (h2 : var d e at' = none → Q .none σ) :
    SemG (uni H) (n + 1) true "_law_var" [.bytes d, .int at', .int e] Q X σ := by
  refine semG_of (f := 399) (by kernel_rfl) (semV_fn rfl rfl rfl rfl (by kernel_rfl) (ps := ["data", "at", "end"]) (ρ := [("data", .bytes d), ("at", .int at'), ("end", .int e)]) (by kernel_rfl) (fun vals h => by obtain ⟨a, b, c, rfl⟩ := len3 h; rfl) rfl rfl fun A l env C => ?_)
  dsimp only at C
  repeat tlg_ne
  refine S_forR C rfl ?_
  repeat tlg_ne
  refine Range_1 C.ne ?_
  refine ⟨0, 5, rfl, by lcg_off, ?_⟩
  generalize hR : var d e at' = R at h1 h2
  refine ForR_inv2 (fun i ρ σ' => ∃ k m : Nat, i = k ∧ k ≤ 5 ∧ σ' = σ ∧ ρ = ([("data", .bytes d), ("at", .int at'), ("end", .int e), ("n", .int m)] : Loc) ∧ vr d e (5 - k) (at' + k) k m = R) (by lcg_off)
    (fun i ρ σ' _ hi I => ?_) (fun ρ ρ₁ σ' sb I => ?_) ⟨_, Sub.refl _, 0, 0, rfl, by lcg_off, rfl, rfl, hR⟩
  · revert hi
    obtain ⟨k, m, rfl, hk, rfl, rfl, hv⟩ := I
    intro hi
    have hk4 : k < 5 := by lcg_off
    rw [show 5 - k = (4 - k) + 1 by lcg_off] at hv
    unfold vr at hv
    repeat tlg_ne
    refine brD (fun h => ?_) (fun h => ?_)
    · rw [if_neg (by lcg_off)] at hv
      repeat tlg_ne
      exact h2 hv.symm
    have ha : at' + k < e := by lcg_off
    rw [if_pos ha] at hv
    have ho := oc_lt d (at' + k)
    repeat tlg_ne
    refine Sub_oc (j := at' + k) (by push_cast; rfl) (by lcg_off) (by lcg_off) ?_ rfl
    repeat tlg_ne
    have e1 : (m : Int) + (oc d (at' + k) : Int) % 128 * 128 ^ ((k : Nat) : Int).toNat = ((m + oc d (at' + k) % 128 * 128 ^ k : Nat) : Int) := by rw [Int.toNat_natCast]; push_cast; rfl
    rw [e1]
    refine Sub_oc (j := at' + k) (by push_cast; rfl) (by lcg_off) (by lcg_off) ?_ rfl
    repeat tlg_ne
    refine brD (fun h => ?_) (fun h => ?_)
    · have h' : oc d (at' + k) < 128 := by lcg_off
      rw [if_pos h'] at hv
      rw [Nat.mod_eq_of_lt h']
      generalize hM : m + oc d (at' + k) * 128 ^ k = M at hv
      repeat tlg_ne
      refine brD (fun h => ?_) (fun h => ?_)
      · rw [if_neg (by lcg_off)] at hv
        repeat tlg_ne
        exact h2 hv.symm
      · rw [if_pos (by lcg_off)] at hv
        repeat tlg_ne
        have := h1 _ _ hv.symm
        rwa [show ((at' + k + 1 : Nat) : Int) = (at' : Int) + (k : Int) + 1 by push_cast; rfl] at this
    · rw [if_neg (by lcg_off)] at hv
      generalize hM : m + oc d (at' + k) % 128 * 128 ^ k = M at hv ⊢
      repeat tlg_ne
      refine ⟨_, ?_, k + 1, M, by push_cast; rfl, by lcg_off, rfl, rfl, ?_⟩
      · repeat (first | exact Sub.nil | refine Sub.cons (by lcg_src) ?_)
      · rw [show 5 - (k + 1) = 4 - k by lcg_off]; exact hv
  · obtain ⟨k, m, e', hk, rfl, rfl, hv⟩ := I
    obtain rfl : k = 5 := by lcg_off
    refine S_drop sb ?_
    repeat tlg_ne
    exact h2 hv.symm
theorem c_lent {at' e : Nat} {b : List UInt8} (hz : d.length ≤ 1000) (he : e ≤ d.length) (hb : b.length ≤ 1000) (h1 : ∀ r, ent d e at' b = some r → Q (.tup [.bytes r.key, .bytes r.val, .int (r.en : Nat)]) σ) (h2 : ent d e at' b = none → Q .none σ) :
    SemG (uni H) (n + 2) true "_law_entry" [.bytes d, .int at', .int e, .bytes b] Q X σ := by
  refine semG_of (f := 406) (by kernel_rfl) (semV_fn rfl rfl rfl rfl (by kernel_rfl) (ps := ["data", "at", "end", "before"]) (ρ := [("data", .bytes d), ("at", .int at'), ("end", .int e), ("before", .bytes b)]) (by kernel_rfl) (fun vals h => by obtain ⟨a, b, c, e, rfl⟩ := len4 h; rfl) rfl rfl fun A l env C => ?_)
  dsimp only at C
  unfold ent hd3 at h1 h2
  repeat tlg_ne
  refine S_forR C rfl ?_
  repeat tlg_ne
  refine Range_1 C.ne ?_
  refine ⟨0, 3, rfl, by lcg_off, ?_⟩
  rw [show rngL 0 3 = [.int 0, .int 1, .int 2] from rfl]
  refine ForR_c ?_
  repeat tlg_ne
  refine c_lvar hz he (fun s p1 e1 => ?_) (fun e1 => ?_)
  rotate_left
  · simp only [e1] at h2
    repeat tlg_ne
    refine brT ?_
    repeat tlg_ne
    exact h2 trivial
  simp only [e1] at h1 h2
  repeat tlg_ne
  refine brF ?_
  repeat tlg_ne
  refine Sub_tup (y := .int (s : Nat)) (by lcg_off) (by simp) rfl ?_ rfl
  repeat tlg_ne
  refine B_addL (x := []) (y := [.int (s : Nat)]) C.ne (by simp) ?_
  repeat tlg_ne
  refine Sub_tup (y := .int (p1 : Nat)) (by lcg_off) (by simp) rfl ?_ rfl
  repeat tlg_ne
  refine ForR_c ?_
  repeat tlg_ne
  refine c_lvar hz he (fun u p2 e2 => ?_) (fun e2 => ?_)
  rotate_left
  · simp only [e2] at h2
    repeat tlg_ne
    refine brT ?_
    repeat tlg_ne
    exact h2 trivial
  simp only [e2] at h1 h2
  repeat tlg_ne
  refine brF ?_
  repeat tlg_ne
  refine Sub_tup (y := .int (u : Nat)) (by lcg_off) (by simp) rfl ?_ rfl
  repeat tlg_ne
  refine B_addL (x := [.int (s : Nat)]) (y := [.int (u : Nat)]) C.ne (by simp) ?_
  repeat tlg_ne
  refine Sub_tup (y := .int (p2 : Nat)) (by lcg_off) (by simp) rfl ?_ rfl
  repeat tlg_ne
  refine ForR_c ?_
  repeat tlg_ne
  refine c_lvar hz he (fun v p3 e3 => ?_) (fun e3 => ?_)
  rotate_left
  · simp only [e3] at h2
    repeat tlg_ne
    refine brT ?_
    repeat tlg_ne
    exact h2 trivial
  simp only [e3] at h1 h2
  repeat tlg_ne
  refine brF ?_
  repeat tlg_ne
  refine Sub_tup (y := .int (v : Nat)) (by lcg_off) (by simp) rfl ?_ rfl
  repeat tlg_ne
  refine B_addL (x := [.int (s : Nat), .int (u : Nat)]) (y := [.int (v : Nat)]) C.ne (by simp) ?_
  repeat tlg_ne
  refine Sub_tup (y := .int (p3 : Nat)) (by lcg_off) (by simp) rfl ?_ rfl
  repeat tlg_ne
  refine ForR_n ?_
  have q3 := (vr_pos e3).2
  refine S_cons ?_
  repeat tlg_ne
  refine Sub_list (y := .int (u : Nat)) (by lcg_off) (by simp) rfl ?_ rfl
  repeat tlg_ne
  refine Sub_list (y := .int (v : Nat)) (by lcg_off) (by simp) rfl ?_ rfl
  iterate 2 tlg_ne
  refine S_cons (S_ifT (¬ (p3 + u + v ≤ e ∧ s ≤ b.length)) ?_ (fun hP => ?_) (fun hP => ?_))
  · repeat tlg_ne
    refine brD (fun h => ?_) (fun h => ?_)
    · exact ⟨(decide_eq_true (p := ¬ (p3 + u + v ≤ e ∧ s ≤ b.length)) (by lcg_off)).symm, rfl⟩
    · repeat tlg_ne
      refine Sub_list (y := .int (s : Nat)) (by lcg_off) (by simp) rfl ?_ rfl
      repeat tlg_ne
      refine brD (fun h => ?_) (fun h => ?_)
      · exact ⟨(decide_eq_true (p := ¬ (p3 + u + v ≤ e ∧ s ≤ b.length)) (by lcg_off)).symm, rfl⟩
      · repeat tlg_ne
        exact ⟨(decide_eq_false (p := ¬ (p3 + u + v ≤ e ∧ s ≤ b.length)) (by lcg_off)).symm, rfl⟩
  · rw [if_neg hP] at h2
    repeat tlg_ne
    exact h2 rfl
  · have hP' := Classical.not_not.mp hP
    rw [if_pos hP'] at h1
    have hq := h1 _ rfl
    repeat tlg_ne
    refine Sub_list (y := .int (s : Nat)) (by lcg_off) (by simp) rfl ?_ rfl
    repeat tlg_ne
    refine Sl_bytes C.E (i := none) (j := some s) (by simp [endOf]) (by simp [endOf]) (by lcg_off) ?_
    repeat tlg_ne
    refine Sub_list (y := .int (u : Nat)) (by lcg_off) (by simp) rfl ?_ rfl
    repeat tlg_ne
    refine Sl_bytes C.E (i := some p3) (j := some (p3 + u)) (by simp [endOf]) (by simp [endOf]; lcg_off) (by lcg_off) ?_
    refine B_addB ?_ ?_
    · have a1 : (cut b none (some s)).length ≤ b.length := by simp [cut]; lcg_off
      have a2 : (cut d (some p3) (some (p3 + u))).length ≤ d.length := by simp [cut]; lcg_off
      lcg_off
    repeat tlg_ne
    refine Sub_list (y := .int (u : Nat)) (by lcg_off) (by simp) rfl ?_ rfl
    repeat tlg_ne
    refine Sl_bytes C.E (i := some (p3 + u)) (j := some (p3 + u + v)) (by simp [endOf]; lcg_off) (by simp [endOf]; lcg_off) (by lcg_off) ?_
    repeat tlg_ne
    exact hq
end
@[reducible] noncomputable def rowV (r : Row) : V := .tup [.bytes r.key, .bytes r.val]
@[reducible] noncomputable def rowsV (rs : List Row) : V := .lst (rs.map rowV)
@[reducible] noncomputable def runV (p : List Row × Bool) : V := .tup [rowsV p.1, .bool p.2]
@[reducible] noncomputable def runsV (R : Rs) : V := .lst (R.map runV)
section
variable {H : Hy} {n : Nat} {hn : Bool} {Q : V → St → Prop} {X : Exn → St → Prop} {σ : St} {d : List UInt8}
theorem S_rho {u : Uni} {A : Around} {l : List Env} {env : Env} {ρ ρ' : Loc} {X : Exn → Loc → St → Prop} {N : Loc → St → Prop} {R : V → St → Prop} {σ : St} {t : Sem Flow} (h : ρ = ρ') (k : SOk u A l env t ρ' N R X σ) : SOk u A l env t ρ N R X σ := h ▸ k
theorem swaps_ok {u : Uni} {A : Around} {l : List Env} {env : Env} {kd : Str → Option NameKind} {elt : Expr} {gens : List Comprehension} {scope : Scope} {pos py : Pos} {y : Str} {line : Nat} (C : ECx u A l env n hn kd) (hk : kd y = some .local) (hp : (py.line == pos.line) = true)
    (hb : (scope.names.any fun p => p.1 == y && (p.2 == .local || p.2 == .cell)) = false) : swapsWith (.ListComp elt gens scope pos) (some (.Name y py)) line env = pure true := by
  have hkk : env.kindOf y = some .local := (C.kinds _ _ hk).elim id fun z => nomatch z.1
  have hbk : env.blockKind = .function := by unfold Env.blockKind; rw [C.kind]; rfl
  show (pure (env.blockKind == .function && env.kindOf y == some .local && py.line == pos.line && !(scope.names.any fun p => p.1 == y && (p.2 == .local || p.2 == .cell))) : Sem Bool) = pure true
  rw [hbk, hkk, hp, hb]; rfl
theorem c_lruns (hz : d.length ≤ 200) (h1 : ∀ lim ms, Opens d lim ms → Q (runsV (runs d lim ms)) σ) (h2 : (¬ ∃ lim ms, Opens d lim ms) → Q .none σ) :
    SemG (uni H) (n + 3) true "_law_runs" [.bytes d] Q X σ := by
  refine semG_of (f := 411) (by kernel_rfl) (semV_fn rfl rfl rfl rfl (by kernel_rfl) (ps := ["data"]) (ρ := [("data", .bytes d)]) (by kernel_rfl) (fun vals h => by obtain ⟨a, rfl⟩ := len1 h; rfl) rfl rfl fun A l env C => ?_)
  dsimp only at C
  repeat tlg_ne
  refine brD (fun h => ?_) (fun h => ?_)
  · repeat tlg_ne
    exact h2 (fun ⟨lim, ms, o⟩ => by have := o.blk.size; lcg_off)
  repeat tlg_ne
  refine c_num (k := d.length - 4) (by lcg_off) (by lcg_off) (by lcg_off) ?_
  generalize hc : fx d (d.length - 4) = c
  have inv := fun lim ms (o : Opens d lim ms) => o.eq
  have inv2 := fun lim ms (o : Opens d lim ms) => opens_inv hc o
  rw [hc] at inv
  tlg_ne
  refine S_cons (S_ifT (c = 0 ∨ d.length < 4 * c + 4) ?_ (fun hP => ?_) (fun hP => ?_))
  · repeat tlg_ne
    refine brD (fun h => ?_) (fun h => ?_)
    · exact ⟨by rw [decide_eq_true (by lcg_off)], rfl⟩
    · repeat tlg_ne
      refine brD (fun h => ?_) (fun h => ?_)
      · exact ⟨by rw [decide_eq_true (by lcg_off)], rfl⟩
      · repeat tlg_ne
        exact ⟨by rw [decide_eq_false (by lcg_off)], rfl⟩
  · repeat tlg_ne
    exact h2 (fun ⟨lim, ms, o⟩ => by have := inv lim ms o; lcg_off)
  repeat tlg_ne
  have hlim : (d.length : Int) - 4 - 4 * (c : Int) = ((d.length - 4 * (c + 1) : Nat) : Int) := by lcg_off
  rw [hlim]
  generalize hL : d.length - 4 * (c + 1) = lim at inv inv2
  have hc0 : 0 < c := by lcg_off
  have hcz : 4 * (c + 1) ≤ d.length := by lcg_off
  have hM : ∀ i, i < c → mkAt (marks d lim c) i = fx d (lim + 4 * i) := fun i hi => marks_at hi
  have hMl : (marks d lim c).length = c := marks_len
  refine S_comp C rfl (cmpS_of (ρc := [("data", .bytes d), ("limit", .int lim)]) (by kernel_rfl) (capC (by lcg_src) (by kernel_rfl) (capC (by lcg_src) (by kernel_rfl) capN))) (lc_of (by kernel_rfl)) ?_ (swaps_ok C.E rfl rfl (by kernel_rfl))
  repeat tlg_ne
  refine Range_1 C.ne ⟨_, .inr ⟨0, c, rfl, rfl, by lcg_off⟩, by rw [rngL_len]; lcg_off, ?_⟩
  refine CmpR_map (fun v => match v with | .int i => .int ((fx d (lim + 4 * i.toNat) : Nat) : Int) | v => v) (fun v hv cenv CC => ?_) ?_
  · obtain ⟨i, hi, rfl⟩ : ∃ i : Nat, i < c ∧ v = .int i := by
      unfold rngL at hv
      simp only [List.mem_map, List.mem_range] at hv
      obtain ⟨a, ha, rfl⟩ := hv
      exact ⟨a, by lcg_off, by simp⟩
    repeat tlg_ne
    refine c_num (k := lim + 4 * i) (by push_cast; rfl) (by lcg_off) (by lcg_off) ?_
    exact ⟨by simp only [Int.toNat_natCast], rfl⟩
  have eM : (rngL 0 c).map (fun v => match v with | .int i => .int ((fx d (lim + 4 * i.toNat) : Nat) : Int) | v => v) = nI (marks d lim c) := by
    unfold rngL nI marks
    rw [List.map_map, List.map_map]
    rw [show ((c : Int) - 0).toNat = c by lcg_off]
    refine List.map_congr_left fun i hi => ?_
    simp
  rw [eM]
  generalize marks d lim c = M at hM hMl inv
  have hni : nI M = zI (M.map fun (m : Nat) => (m : Int)) := by unfold nI zI; rw [List.map_map]; rfl
  have hlenM : (M.map fun (m : Nat) => (m : Int)).length = c := by rw [List.length_map, hMl]
  have hub : ∀ lim' ms', Opens d lim' ms' → lim' = lim ∧ ms' = M := fun lim' ms' o => by
    obtain ⟨a, b, _⟩ := inv lim' ms' o
    refine ⟨a, ?_⟩
    rw [b, a]
    exact ext_mk (by rw [marks_len, hMl]) fun i hi => by rw [marks_len] at hi; rw [marks_at hi, hM i hi]
  clear inv eM
  refine S_rho (by one_sign) ?_
  have hgi : ∀ {i : Nat}, i < c → (nI M)[i]? = some (.int (mkAt M i : Nat)) := fun hi => nI_get (by lcg_off)
  have hnl : (nI M).length = c := by rw [nI_len, hMl]
  refine S_cons (S_ifT (¬ (mkAt M 0 = 0 ∧ (M.map fun (m : Nat) => (m : Int)).Pairwise (· ≤ ·))) ?_ (fun hP => ?_) (fun hP => ?_))
  · repeat tlg_ne
    refine Sub_list (y := .int (mkAt M 0 : Nat)) (by lcg_off) (by lcg_off) (hgi hc0) ?_ rfl
    repeat tlg_ne
    refine brD (fun h => ?_) (fun h => ?_)
    · exact ⟨(decide_eq_true (p := ¬ (mkAt M 0 = 0 ∧ (M.map fun (m : Nat) => (m : Int)).Pairwise (· ≤ ·))) (fun q => h (by lcg_off))).symm, rfl⟩
    · repeat tlg_ne
      rw [hni]
      refine Sorted_ints C.ne (by lcg_off) fun ys hp hs => ?_
      refine C_neL C.E ?_
      have e : (!decide ((M.map fun (m : Nat) => (m : Int)) = ys)) = decide (¬ (mkAt M 0 = 0 ∧ (M.map fun (m : Nat) => (m : Int)).Pairwise (· ≤ ·))) := by
        by_cases q : (M.map fun (m : Nat) => (m : Int)) = ys
        · rw [decide_eq_true q, decide_eq_false (p := ¬ (mkAt M 0 = 0 ∧ (M.map fun (m : Nat) => (m : Int)).Pairwise (· ≤ ·))) (fun z => z ⟨by lcg_off, by rw [q]; exact hs⟩)]; rfl
        · rw [decide_eq_false q, decide_eq_true (p := ¬ (mkAt M 0 = 0 ∧ (M.map fun (m : Nat) => (m : Int)).Pairwise (· ≤ ·))) (fun z => q (lks_uniq hp.symm z.2 hs))]; rfl
      rw [e]
      refine ⟨_, rfl, fun z => ⟨z.symm, rfl⟩, fun z => ?_⟩
      repeat tlg_ne
      exact ⟨z.symm, rfl⟩
  · repeat tlg_ne
    refine h2 (fun ⟨lim', ms', o⟩ => hP ?_)
    obtain ⟨rfl, rfl⟩ := hub lim' ms' o
    refine ⟨o.blk.z, ?_⟩
    rw [List.pairwise_map, List.pairwise_iff_getElem]
    intro i j hi hj hij
    have := o.blk.rise hij hj
    unfold mkAt at this
    rw [List.getD_eq_getElem?_getD, List.getD_eq_getElem?_getD, List.getElem?_eq_getElem hi, List.getElem?_eq_getElem hj, Option.getD_some, Option.getD_some] at this
    lcg_off
  have hP' := Classical.not_not.mp hP
  obtain ⟨hz0, hpw⟩ := hP'
  have hle : ∀ i, i + 1 < c → mkAt M i ≤ mkAt M (i + 1) := fun i hi => by
    rw [List.pairwise_map, List.pairwise_iff_getElem] at hpw
    have := hpw i (i + 1) (by lcg_off) (by lcg_off) (by lcg_off)
    unfold mkAt
    rw [List.getD_eq_getElem?_getD, List.getD_eq_getElem?_getD, List.getElem?_eq_getElem (by lcg_off), List.getElem?_eq_getElem (by lcg_off), Option.getD_some, Option.getD_some]
    lcg_off
  refine S_nil ?_
  refine S_cons (S_forR C rfl ?_)
  repeat tlg_ne
  refine Range_2 C.ne ⟨1, c, rfl, by lcg_off, ?_⟩
  refine ForR_inv2 (fun i ρ σ' => ∃ k : Nat, i = k ∧ σ' = σ ∧ (∀ j, 0 < j → j < k → mkAt M (j - 1) < mkAt M j ∧ mkAt M j < lim) ∧ ρ = ([("data", .bytes d), ("size", .int d.length), ("count", .int c), ("limit", .int lim), ("marks", .lst (nI M))] : Loc)) (by lcg_off)
    (fun i ρ σ' hi0 hi I => ?_) (fun ρ ρ₁ σ' sb I => ?_) ⟨_, Sub.refl _, 1, rfl, rfl, by lcg_off, rfl⟩
  · revert hi0 hi
    obtain ⟨k, rfl, rfl, hj, rfl⟩ := I
    intro hi0 hi
    have hk : k < c := by lcg_off
    have hk0 : 0 < k := by lcg_off
    refine as_name C.E (lc_of (by kernel_rfl)) (by one_sign) ?_
    refine S_cons (S_ifT (¬ (mkAt M (k - 1) < mkAt M k ∧ mkAt M k < lim)) ?_ (fun hP => ?_) (fun hP => ?_))
    · have hlk := hle (k - 1) (by lcg_off)
      rw [show k - 1 + 1 = k by lcg_off] at hlk
      repeat tlg_ne
      refine Sub_list (y := .int (mkAt M k : Nat)) (by lcg_off) (by lcg_off) (hgi (by lcg_off)) ?_ rfl
      repeat tlg_ne
      refine Sub_list (y := .int (mkAt M (k - 1) : Nat)) (by lcg_off) (by lcg_off) (show _[((k : Int) - 1).toNat]? = _ from by rw [show ((k : Int) - 1).toNat = k - 1 by lcg_off]; exact hgi (by lcg_off)) ?_ rfl
      repeat tlg_ne
      refine brD (fun h => ?_) (fun h => ?_)
      · exact ⟨(decide_eq_true (p := ¬ (mkAt M (k - 1) < mkAt M k ∧ mkAt M k < lim)) (by lcg_off)).symm, rfl⟩
      · repeat tlg_ne
        refine Sub_list (y := .int (mkAt M k : Nat)) (by lcg_off) (by lcg_off) (hgi (by lcg_off)) ?_ rfl
        repeat tlg_ne
        refine brD (fun h => ?_) (fun h => ?_)
        · exact ⟨(decide_eq_true (p := ¬ (mkAt M (k - 1) < mkAt M k ∧ mkAt M k < lim)) (by lcg_off)).symm, rfl⟩
        · repeat tlg_ne
          exact ⟨(decide_eq_false (p := ¬ (mkAt M (k - 1) < mkAt M k ∧ mkAt M k < lim)) (by lcg_off)).symm, rfl⟩
    · repeat tlg_ne
      refine h2 (fun ⟨lim', ms', o⟩ => hP ?_)
      obtain ⟨rfl, rfl⟩ := hub lim' ms' o
      have := o.blk.up (k - 1) (by lcg_off)
      rwa [show k - 1 + 1 = k by lcg_off] at this
    · repeat tlg_ne
      refine ⟨_, ?_, k + 1, by push_cast; rfl, rfl, fun j h0 hj' => ?_, rfl⟩
      · repeat (first | exact Sub.nil | refine Sub.cons (by lcg_src) ?_)
      · by_cases q : j < k
        · exact hj j h0 q
        · obtain rfl : j = k := by lcg_off
          exact Classical.not_not.mp hP
  · obtain ⟨k, e, rfl, hj, rfl⟩ := I
    obtain rfl : c = k := by lcg_off
    have hO : Opens d lim M := ⟨⟨by lcg_off, by lcg_off, hz0, fun i hi => by have := hj (i + 1) (by lcg_off) (by lcg_off); rwa [Nat.add_sub_cancel] at this⟩, by rw [hMl]; exact hc, fun i hi => hM i (by lcg_off)⟩
    have B := hO.blk
    have hq := h1 lim M hO
    clear h1 h2 hub inv2 hP hpw hle hj hlenM hni
    refine S_drop sb ?_
    repeat tlg_ne
    refine S_forR C rfl ?_
    repeat tlg_ne
    refine Range_1 C.ne ⟨0, c, rfl, by lcg_off, ?_⟩
    refine ForR_inv2 (fun i ρ σ'' => ∃ k : Nat, i = k ∧ k ≤ c ∧ σ'' = σ' ∧ ρ = ([("data", .bytes d), ("count", .int c), ("limit", .int lim), ("marks", .lst (nI M)), ("runs", .lst (((runs d lim M).take k).map runV))] : Loc)) (by lcg_off)
      (fun i ρ σ'' _ hi I => ?_) (fun ρ ρ₁ σ'' sb I => ?_) ⟨_, ?_, 0, rfl, by lcg_off, rfl, rfl⟩
    · revert hi
      obtain ⟨k, rfl, hk, rfl, rfl⟩ := I
      intro hi
      have hk' : k < c := by lcg_off
      have hkM : k < M.length := by lcg_off
      repeat tlg_ne
      refine EOk.mono (Q := fun y σ₁ => y = .int (fin lim M k : Nat) ∧ σ₁ = σ'') (X := fun _ _ => False) ?_ (fun y σ₁ q => ?_) (fun _ _ q => q.elim)
      · refine E_if (T_P (k + 1 < c) ?_ (fun q => ?_) (fun q => ?_))
        · repeat tlg_ne
          exact ⟨decide_eq_decide.mpr (by lcg_off), rfl⟩
        · repeat tlg_ne
          refine Sub_list (y := .int (mkAt M (k + 1) : Nat)) (by lcg_off) (by lcg_off) (show _[((k : Int) + 1).toNat]? = _ from by rw [show ((k : Int) + 1).toNat = k + 1 by lcg_off]; exact hgi q) ⟨?_, rfl⟩ rfl
          unfold fin; rw [if_pos (by lcg_off)]
        · repeat tlg_ne
          refine ⟨?_, rfl⟩
          unfold fin; rw [if_neg (by lcg_off)]
      obtain ⟨rfl, rfl⟩ := q
      repeat tlg_ne
      refine Sub_list (y := .int (mkAt M k : Nat)) (by lcg_off) (by lcg_off) (hgi hk') ?_ rfl
      have ch := B.chain hkM
      have hle := B.le hkM
      have hsz := B.size
      have hrun := runs_take (d := d) (lim := lim) hkM
      generalize runs d lim M = RR at hrun hq ⊢
      generalize hE : fin lim M k = e at ch hle ⊢
      generalize hRR : run d lim M k = rw' at ch hrun
      obtain ⟨rs, w⟩ := rw'
      dsimp only at ch
      generalize mkAt M k = a at ch hle ⊢
      repeat tlg_ne
      refine S_while C ?_
      refine Wh_inv2 (fun m ρ σ' => σ' = σ₁ ∧ ∃ (acc : List Row) (here : Nat) (key : List UInt8),
          ((∃ rest, Chain d e here key rest w ∧ acc ++ rest = rs ∧ m = rest.length + 1 ∧ key.length ≤ here ∧ here ≤ e ∧ acc.length ≤ here ∧
            ρ = ([("data", .bytes d), ("count", .int c), ("limit", .int lim), ("marks", .lst (nI M)), ("runs", .lst ((RR.take k).map runV)), ("i", .int k), ("end", .int e), ("here", .int here), ("key", .bytes key), ("rows", rowsV acc), ("whole", .bool true)] : Loc)) ∨
           (acc = rs ∧ w = false ∧ m = 0 ∧
            ρ = ([("data", .bytes d), ("count", .int c), ("limit", .int lim), ("marks", .lst (nI M)), ("runs", .lst ((RR.take k).map runV)), ("i", .int k), ("end", .int e), ("here", .int here), ("key", .bytes key), ("rows", rowsV acc), ("whole", .bool false)] : Loc))))
        (fun m ρ σ' I => ?_) (fun _ _ _ _ _ q => q) (k := rs.length + 1) ⟨_, Sub.refl _, rfl, [], a, [], .inl ⟨rs, ch, rfl, rfl, by simp, by lcg_off, by simp, rfl⟩⟩
      obtain ⟨rfl, acc, here, key, ⟨rest, hch, hacc, hm, hkl, hhe, hal, rfl⟩ | ⟨hacc, hw, hm, rfl⟩⟩ := I
      · refine T_P (here < e) ?_ (fun hP => ?_) (fun hP => ?_)
        · repeat tlg_ne
          refine brD (fun h => ?_) (fun h => ?_)
          · repeat tlg_ne
            exact ⟨by rw [decide_eq_true (by lcg_off)], rfl⟩
          · exact ⟨by rw [decide_eq_false (by lcg_off)], rfl⟩
        · repeat tlg_ne
          refine c_lent (by lcg_off) (by lcg_off) (by lcg_off) (fun r hr => ?_) (fun hr => ?_)
          · have hen := ent_pos hr
            have hkl' := ent_klen hr hkl
            have hnx : ∃ rest', rest = r :: rest' ∧ Chain d e r.en r.key rest' w := by
              generalize hew : e = e' at hch
              cases hch with
              | done => lcg_off
              | bad _ _ h hn => subst hew; rw [hr] at hn; cases hn
              | cons _ _ r' rs' _ h hr' c' =>
                subst hew
                rw [hr] at hr'; cases hr'
                exact ⟨rs', rfl, c'⟩
            obtain ⟨rest', rfl, hch'⟩ := hnx
            repeat tlg_ne
            refine brF ?_
            repeat tlg_ne
            refine Sub_tup (y := .bytes r.key) (by lcg_off) (by simp) rfl ?_ rfl
            repeat tlg_ne
            refine Sub_tup (y := .int (r.en : Nat)) (by lcg_off) (by simp) rfl ?_ rfl
            repeat tlg_ne
            refine Sub_tup (y := .bytes r.val) (by lcg_off) (by simp) rfl ?_ rfl
            repeat tlg_ne
            refine B_addL (y := [rowV r]) C.ne ?_ ?_
            · simp; lcg_off
            repeat tlg_ne
            refine ⟨_, ?_, rest'.length + 1, by rw [hm, List.length_cons]; lcg_off, rfl, acc ++ [r], r.en, r.key, .inl ⟨rest', hch', by rw [List.append_assoc]; exact hacc, rfl, hkl', hen.2.2.1, by simp; lcg_off, rfl⟩⟩
            rw [show rowsV (acc ++ [r]) = .lst (acc.map rowV ++ [rowV r]) by simp [rowsV]]
            repeat (first | exact Sub.nil | refine Sub.cons (by lcg_src) ?_)
          · have hnx : rest = [] ∧ w = false := by
              generalize hew : e = e' at hch
              cases hch with
              | done => lcg_off
              | bad _ _ h hn => exact ⟨rfl, rfl⟩
              | cons _ _ r' rs' _ h hr' c' =>
                subst hew
                rw [hr] at hr'; cases hr'
            obtain ⟨rfl, rfl⟩ := hnx
            repeat tlg_ne
            refine brT ?_
            repeat tlg_ne
            refine ⟨_, ?_, 0, by lcg_off, rfl, acc, here, key, .inr ⟨by rw [← hacc, List.append_nil], rfl, rfl, rfl⟩⟩
            repeat (first | exact Sub.nil | refine Sub.cons (by lcg_src) ?_)
        · have hnx : rest = [] ∧ w = true := by
            generalize hew : e = e' at hch
            cases hch with
            | done => exact ⟨rfl, rfl⟩
            | bad _ _ h hn => lcg_off
            | cons _ _ r' rs' _ h hr' c' => lcg_off
          obtain ⟨rfl, rfl⟩ := hnx
          intro ρ'' sb
          refine S_drop sb ?_
          repeat tlg_ne
          refine B_addL (y := [runV (acc, true)]) C.ne ?_ ?_
          · simp; lcg_off
          repeat tlg_ne
          refine ⟨_, ?_, k + 1, by push_cast; rfl, by lcg_off, rfl, rfl⟩
          rw [List.append_nil] at hacc
          rw [hrun, List.map_append, ← hacc]
          repeat (first | exact Sub.nil | refine Sub.cons (by lcg_src) ?_)
      · subst hw hacc
        refine T_P False ?_ (fun hP => hP.elim) (fun hP => ?_)
        · repeat tlg_ne
          exact ⟨rfl, rfl⟩
        · intro ρ'' sb
          refine S_drop sb ?_
          repeat tlg_ne
          refine B_addL (y := [runV (acc, false)]) C.ne ?_ ?_
          · simp; lcg_off
          repeat tlg_ne
          refine ⟨_, ?_, k + 1, by push_cast; rfl, by lcg_off, rfl, rfl⟩
          rw [hrun, List.map_append]
          repeat (first | exact Sub.nil | refine Sub.cons (by lcg_src) ?_)
    · obtain ⟨k, e, hk, rfl, rfl⟩ := I
      obtain rfl : c = k := by lcg_off
      refine S_drop sb ?_
      repeat tlg_ne
      rw [List.take_of_length_le (by rw [runs_len]; lcg_off)]
      exact hq
    · repeat (first | exact Sub.nil | refine Sub.cons (by lcg_src) ?_)
end
@[reducible] noncomputable def plV : Option (Nat × Nat) → V
  | none => .none
  | some (i, j) => .tup [.int (i : Nat), .int (j : Nat)]
@[reducible] noncomputable def resV (r : Res) : V := .tup [plV r.1, .int (r.2 : Nat)]
section
variable {H : Hy} {n : Nat} {hn : Bool} {Q : V → St → Prop} {X : Exn → St → Prop} {σ : St} {R : Rs}
theorem R_get {i : Nat} (h : i < R.length) : (R.map runV)[i]? = some (.tup [rowsV (rws R i), .bool (whl R i)]) := by
  rw [List.getElem?_map, List.getElem?_eq_getElem h]
  unfold rws whl
  rw [List.getD_eq_getElem?_getD, List.getElem?_eq_getElem h]; rfl
theorem c_front {i : Nat} {a : Int} (ha : a = i) (hi : i < R.length) (hz : R.length ≤ 1000) (hl : (rws R i).length ≤ 1000) (h : Q (resV (front R i)) σ) : SemG (uni H) (n + 1) hn "_law_front" [runsV R, .int a] Q X σ := by
  subst ha
  refine semG_of (f := 418) (by kernel_rfl) (semV_fn rfl rfl rfl rfl (by kernel_rfl) (ps := ["runs", "i"]) (ρ := [("runs", runsV R), ("i", .int i)]) (by kernel_rfl) (fun vals h => by obtain ⟨a, b, rfl⟩ := len2 h; rfl) rfl rfl fun A l env C => ?_)
  dsimp only at C
  have hml : (R.map runV).length = R.length := List.length_map ..
  have hrl : ((rws R i).map rowV).length = (rws R i).length := List.length_map ..
  repeat tlg_ne
  refine Sub_list (y := .tup [rowsV (rws R i), .bool (whl R i)]) (by lcg_off) (by lcg_off) (R_get (by lcg_off)) ?_ rfl
  repeat tlg_ne
  refine Sub_tup (y := rowsV (rws R i)) (by lcg_off) (by simp) rfl ?_ rfl
  repeat tlg_ne
  unfold front at h
  refine brD (fun q => ?_) (fun q => ?_)
  · rw [if_pos (by lcg_off)] at h
    repeat tlg_ne
    exact h
  · rw [if_neg (by lcg_off)] at h
    repeat tlg_ne
    refine E_if (EOk.mono (Q := fun c σ' => c = whl R i ∧ σ' = σ) (X := fun _ _ => False) ?_ (fun c σ' q => ?_) (fun _ _ q => q.elim))
    · repeat tlg_ne
      refine Sub_list (y := .tup [rowsV (rws R i), .bool (whl R i)]) (by lcg_off) (by lcg_off) (R_get (by lcg_off)) ?_ rfl
      repeat tlg_ne
      exact Sub_tup (y := .bool (whl R i)) (by lcg_off) (by simp) rfl ⟨_, rfl, rfl, rfl⟩ rfl
    · obtain ⟨rfl, rfl⟩ := q
      refine ⟨fun e => ?_, fun e => ?_⟩
      · rw [e, if_pos rfl] at h
        repeat tlg_ne
        exact h
      · rw [e, if_neg (by decide)] at h
        repeat tlg_ne
        exact h
theorem c_rear {i : Nat} {a : Int} (ha : a = i) (hi : i < R.length) (hz : R.length ≤ 1000) (hl : (rws R i).length ≤ 1000) (h : Q (resV (rear R i)) σ) : SemG (uni H) (n + 1) hn "_law_rear" [runsV R, .int a] Q X σ := by
  subst ha
  refine semG_of (f := 425) (by kernel_rfl) (semV_fn rfl rfl rfl rfl (by kernel_rfl) (ps := ["runs", "i"]) (ρ := [("runs", runsV R), ("i", .int i)]) (by kernel_rfl) (fun vals h => by obtain ⟨a, b, rfl⟩ := len2 h; rfl) rfl rfl fun A l env C => ?_)
  dsimp only at C
  have hml : (R.map runV).length = R.length := List.length_map ..
  have hrl : ((rws R i).map rowV).length = (rws R i).length := List.length_map ..
  unfold rear at h
  refine S_cons (S_ifT (whl R i = false) ?_ (fun q => ?_) (fun q => ?_))
  · repeat tlg_ne
    refine Sub_list (y := .tup [rowsV (rws R i), .bool (whl R i)]) (by lcg_off) (by lcg_off) (R_get (by lcg_off)) ?_ rfl
    repeat tlg_ne
    exact Sub_tup (y := .bool (whl R i)) (by lcg_off) (by simp) rfl ⟨_, rfl, by cases whl R i <;> rfl, rfl⟩ rfl
  · rw [if_pos q] at h
    repeat tlg_ne
    exact h
  · rw [if_neg q] at h
    repeat tlg_ne
    refine Sub_list (y := .tup [rowsV (rws R i), .bool (whl R i)]) (by lcg_off) (by lcg_off) (R_get (by lcg_off)) ?_ rfl
    repeat tlg_ne
    refine Sub_tup (y := rowsV (rws R i)) (by lcg_off) (by simp) rfl ?_ rfl
    repeat tlg_ne
    rw [hrl]
    refine E_if ?_
    repeat tlg_ne
    refine brD (fun q => ?_) (fun q => ?_)
    · rw [if_pos (by lcg_off)] at h
      repeat tlg_ne
      rw [show ((rws R i).length : Int) - 1 = (((rws R i).length - 1 : Nat) : Int) by lcg_off]
      exact h
    · rw [if_neg (by lcg_off)] at h
      repeat tlg_ne
      exact h
theorem findJ_cons {t : List UInt8} {r : Row} {rs : List Row} {j : Nat} : findJ t (r :: rs) j = if r.key < t then findJ t rs (j + 1) else some j := rfl
theorem findI_cons {t : List UInt8} {p : List Row × Bool} {ps : Rs} {i : Nat} : findI t (p :: ps) i = (match findJ t p.1 0 with | some j => (some (i, j), 0) | none => findI t ps (i + 1)) := rfl
theorem findI_drop {t : List UInt8} {i : Nat} (h : i < R.length) : findI t (R.drop i) i = (match findJ t (rws R i) 0 with | some j => (some (i, j), 0) | none => findI t (R.drop (i + 1)) (i + 1)) := by
  rw [List.drop_eq_getElem_cons h]
  have : (R[i]).1 = rws R i := by
    unfold rws
    rw [List.getD_eq_getElem?_getD, List.getElem?_eq_getElem h]; rfl
  rw [findI_cons, this]
theorem c_after {pl : Option (Nat × Nat)} {mv : Nat} {t : List UInt8} (hmv : mv < 5) (hz : R.length ≤ 1000) (h0 : 0 < R.length) (hl : ∀ i, (rws R i).length ≤ 1000) (hpl : ∀ i j, pl = some (i, j) → i < R.length) (h : Q (resV (after R pl mv t)) σ) :
    SemG (uni H) (n + 2) true "_law_after" [runsV R, plV pl, .int mv, .bytes t] Q X σ := by
  refine semG_of (f := 432) (by kernel_rfl) (semV_fn rfl rfl rfl rfl (by kernel_rfl) (ps := ["runs", "place", "move", "target"]) (ρ := [("runs", runsV R), ("place", plV pl), ("move", .int mv), ("target", .bytes t)]) (by kernel_rfl) (fun vals h => by obtain ⟨a, b, c, e, rfl⟩ := len4 h; rfl) rfl rfl fun A l env C => ?_)
  dsimp only at C
  have hml : (R.map runV).length = R.length := List.length_map ..
  have hrl : ∀ i, ((rws R i).map rowV).length = (rws R i).length := fun i => List.length_map ..
  unfold after at h
  repeat tlg_ne
  refine brD (fun q => ?_) (fun q => ?_)
  · rw [if_pos (by lcg_off)] at h
    repeat tlg_ne
    exact c_front rfl h0 hz (hl 0) h
  rw [if_neg (by lcg_off)] at h
  repeat tlg_ne
  refine brD (fun q => ?_) (fun q => ?_)
  · rw [if_pos (by lcg_off)] at h
    repeat tlg_ne
    exact c_rear (i := R.length - 1) (by lcg_off) (by lcg_off) hz (hl _) h
  rw [if_neg (by lcg_off)] at h
  repeat tlg_ne
  refine brD (fun q => ?_) (fun q => ?_)
  · rw [if_pos (by lcg_off)] at h
    repeat tlg_ne
    refine S_forR C rfl ?_
    repeat tlg_ne
    rw [hml]
    refine Range_1 C.ne ⟨0, R.length, rfl, by lcg_off, ?_⟩
    refine ForR_inv2 (fun i ρ σ' => ∃ k : Nat, i = k ∧ σ' = σ ∧ findI t R 0 = findI t (R.drop k) k ∧ ρ = ([("runs", runsV R), ("target", .bytes t)] : Loc)) (by lcg_off)
      (fun i ρ σ' _ hi I => ?_) (fun ρ ρ₁ σ' sb I => ?_) ⟨_, ?_, 0, rfl, rfl, rfl, rfl⟩
    · revert hi
      obtain ⟨k, rfl, rfl, hf, rfl⟩ := I
      intro hi
      have hk : k < R.length := by lcg_off
      rw [findI_drop hk] at hf
      repeat tlg_ne
      refine S_forR C rfl ?_
      repeat tlg_ne
      refine Sub_list (y := .tup [rowsV (rws R k), .bool (whl R k)]) (by lcg_off) (by lcg_off) (R_get (by lcg_off)) ?_ rfl
      repeat tlg_ne
      refine Sub_tup (y := rowsV (rws R k)) (by lcg_off) (by simp) rfl ?_ rfl
      tlg_ne
      refine Len_list (by rw [hrl k]; have := hl k; lcg_off) ?_
      rw [hrl]
      repeat tlg_ne
      refine Range_1 C.ne ⟨0, (rws R k).length, rfl, by have := hl k; lcg_off, ?_⟩
      refine ForR_inv2 (fun i ρ σ'' => ∃ m : Nat, i = m ∧ σ'' = σ' ∧ findJ t (rws R k) 0 = findJ t ((rws R k).drop m) m ∧ ρ = ([("runs", runsV R), ("target", .bytes t), ("i", .int k)] : Loc)) (by lcg_off)
        (fun i ρ σ'' _ hi I => ?_) (fun ρ ρ₁ σ'' sb I => ?_) ⟨_, Sub.refl _, 0, rfl, rfl, rfl, rfl⟩
      · revert hi
        obtain ⟨m, rfl, rfl, hj, rfl⟩ := I
        intro hi
        have hm : m < (rws R k).length := by lcg_off
        rw [List.drop_eq_getElem_cons hm] at hj
        rw [findJ_cons] at hj
        repeat tlg_ne
        refine Sub_list (y := .tup [rowsV (rws R k), .bool (whl R k)]) (by lcg_off) (by lcg_off) (R_get (by lcg_off)) ?_ rfl
        repeat tlg_ne
        refine Sub_tup (y := rowsV (rws R k)) (by lcg_off) (by simp) rfl ?_ rfl
        repeat tlg_ne
        refine Sub_list (y := rowV (rws R k)[m]) (by lcg_off) (by rw [hrl]; have := hl k; lcg_off) (by rw [List.getElem?_map, show ((m : Nat) : Int).toNat = m by lcg_off, List.getElem?_eq_getElem hm]; rfl) ?_ rfl
        repeat tlg_ne
        refine Sub_tup (y := .bytes ((rws R k)[m]).key) (by lcg_off) (by simp) rfl ?_ rfl
        repeat tlg_ne
        by_cases c1 : ((rws R k)[m]).key < t
        · rw [if_pos c1] at hj
          rw [decide_eq_true c1]
          refine brF ?_
          repeat tlg_ne
          refine ⟨_, ?_, m + 1, by push_cast; rfl, rfl, hj, rfl⟩
          repeat (first | exact Sub.nil | refine Sub.cons (by lcg_src) ?_)
        · rw [if_neg c1] at hj
          rw [decide_eq_false c1]
          rw [hj] at hf
          rw [hf] at h
          refine brT ?_
          repeat tlg_ne
          exact h
      · obtain ⟨m, e, rfl, hj, rfl⟩ := I
        obtain rfl : (rws R k).length = m := by lcg_off
        rw [List.drop_length] at hj
        rw [hj] at hf
        refine S_drop sb ?_
        repeat tlg_ne
        refine ⟨_, ?_, k + 1, by push_cast; rfl, rfl, hf, rfl⟩
        repeat (first | exact Sub.nil | refine Sub.cons (by lcg_src) ?_)
    · obtain ⟨k, e, rfl, hf, rfl⟩ := I
      obtain rfl : R.length = k := by lcg_off
      rw [List.drop_length] at hf
      rw [hf] at h
      refine S_drop sb ?_
      repeat tlg_ne
      exact h
    · repeat (first | exact Sub.nil | refine Sub.cons (by lcg_src) ?_)
  rw [if_neg (by lcg_off)] at h
  match pl, hpl, h with
  | none, hpl, h =>
    repeat tlg_ne
    refine brT ?_
    repeat tlg_ne
    exact h
  | some (i, j), hpl, h =>
    have hi := hpl i j rfl
    dsimp only at h
    repeat tlg_ne
    refine brF ?_
    repeat tlg_ne
    refine brD (fun q => ?_) (fun q => ?_)
    · rw [if_pos (by lcg_off)] at h
      unfold nxt at h
      repeat tlg_ne
      refine Sub_list (y := .tup [rowsV (rws R i), .bool (whl R i)]) (by lcg_off) (by lcg_off) (R_get (by lcg_off)) ?_ rfl
      repeat tlg_ne
      refine Sub_tup (y := rowsV (rws R i)) (by lcg_off) (by simp) rfl ?_ rfl
      tlg_ne
      refine Len_list (by rw [hrl i]; have := hl i; lcg_off) ?_
      rw [hrl]
      repeat tlg_ne
      refine brD (fun q => ?_) (fun q => ?_)
      · rw [if_pos (by lcg_off)] at h
        repeat tlg_ne
        exact h
      rw [if_neg (by lcg_off)] at h
      refine S_nil ?_
      refine S_cons (S_ifT (whl R i = false) ?_ (fun q => ?_) (fun q => ?_))
      · repeat tlg_ne
        refine Sub_list (y := .tup [rowsV (rws R i), .bool (whl R i)]) (by lcg_off) (by lcg_off) (R_get (by lcg_off)) ?_ rfl
        repeat tlg_ne
        exact Sub_tup (y := .bool (whl R i)) (by lcg_off) (by simp) rfl ⟨_, rfl, by cases whl R i <;> rfl, rfl⟩ rfl
      · rw [if_pos q] at h
        repeat tlg_ne
        exact h
      · rw [if_neg q] at h
        repeat tlg_ne
        refine E_if ?_
        repeat tlg_ne
        rw [hml]
        refine brD (fun q => ?_) (fun q => ?_)
        · rw [if_pos (by lcg_off)] at h
          repeat tlg_ne
          exact c_front (i := i + 1) (by push_cast; rfl) (by lcg_off) hz (hl _) h
        · rw [if_neg (by lcg_off)] at h
          repeat tlg_ne
          exact h
    · rw [if_neg (by lcg_off)] at h
      unfold prv at h
      repeat tlg_ne
      refine brD (fun q => ?_) (fun q => ?_)
      · rw [if_pos (by lcg_off)] at h
        repeat tlg_ne
        rw [show (j : Int) - 1 = ((j - 1 : Nat) : Int) by lcg_off]
        exact h
      rw [if_neg (by lcg_off)] at h
      repeat tlg_ne
      refine E_if ?_
      repeat tlg_ne
      refine brD (fun q => ?_) (fun q => ?_)
      · rw [if_pos (by lcg_off)] at h
        repeat tlg_ne
        exact c_rear (i := i - 1) (by lcg_off) (by lcg_off) hz (hl _) h
      · rw [if_neg (by lcg_off)] at h
        repeat tlg_ne
        exact h
end
section
variable {H : Hy} {cnt : Cell} {d : List UInt8} {lim : Nat} {ms : List Nat} {n : Nat} {hn : Bool} {Q : V → St → Prop} {X : Exn → St → Prop} {σ : St}
theorem sd_mk {pl : Option (Nat × Nat)} (sd : Sd cnt d lim ms pl σ) : ∃ (cur ahead turn vf : Int) (key : List UInt8), σ = mk cnt d lim ms cur ahead turn key vf := by
  match pl, sd with
  | none, ⟨ah, t, vf, key, e⟩ => exact ⟨_, _, _, _, _, e⟩
  | some (i, j), ⟨_, r, _, e⟩ => exact ⟨_, _, _, _, _, e⟩
/-- what the seeks say -/
noncomputable def mvR (d : List UInt8) (lim : Nat) (ms : List Nat) (pl : Option (Nat × Nat)) (mv : Nat) (t : List UInt8) : Res := if mv = 2 then nar (rkey d lim ms) (runs d lim ms) (lim + 1) pl t else after (runs d lim ms) pl mv t
theorem after_t {R : Rs} {pl : Option (Nat × Nat)} {mv : Nat} {t t' : List UInt8} (h : mv ≠ 2) : after R pl mv t = after R pl mv t' := by unfold after; rw [if_neg h, if_neg h]
theorem c_move (B : Blk d lim ms) (hz : d.length ≤ 1000) {pl : Option (Nat × Nat)} (sd : Sd cnt d lim ms pl σ) {mv : Nat} (hmv : mv < 5) {t : List UInt8} {T : Res} (hT : mvR d lim ms pl mv t = T) (hT1 : T.2 = 1 → T.1 = none) (hT2 : T.2 ≤ 2)
    (h : ∀ σ', Sd cnt d lim ms T.1 σ' → Q (.int (T.2 : Nat)) σ') : SemG (uni H) (n + 7) true "_law_move" [.ref .itr, .int mv, .bytes t] Q X σ := by
  have hrl := @runs_len d lim ms
  obtain ⟨cur, ahead, turn, vf, key, e⟩ := sd_mk sd
  refine semG_of (f := 439) (by kernel_rfl) (semV_fn rfl rfl rfl rfl (by kernel_rfl) (ps := ["walk", "move", "target"]) (ρ := [("walk", .ref .itr), ("move", .int mv), ("target", .bytes t)]) (by kernel_rfl) (fun vals h => by obtain ⟨a, b, c, rfl⟩ := len3 h; rfl) rfl rfl fun A l env C => ?_)
  dsimp only at C
  refine S_cons (S_try C ?_)
  subst e
  unfold mvR at hT
  refine S_cons (S_ifT (mv = 0) ?_ (fun hm => ?_) (fun hm0 => ?_))
  · repeat tlg_ne
    exact ⟨decide_eq_decide.mpr (by lcg_off), rfl⟩
  · subst hm
    have e : front (runs d lim ms) 0 = T := hT
    subst e
    repeat tlg_ne
    refine c_first B hz ?_
    refine fun σ' sd' => ⟨fun e => ?_, fun e => ⟨?_, ?_⟩, fun e => ?_⟩
    · repeat tlg_ne
      have := h σ' sd'
      rw [e] at this
      exact this
    · refine ⟨.corrupt, rfl, by lcg_sub, fun _ => .plain (fun A' C' => ?_), fun q => nomatch q⟩
      repeat tlg_ne
      have := h σ' sd'
      rw [e] at this
      exact this
    · refine ⟨.corrupt, rfl, by lcg_sub, fun _ => .plain (fun A' C' => ?_), fun q => nomatch q⟩
      repeat tlg_ne
      have := h σ' sd'
      rw [e] at this
      exact this
    · refine ⟨.corrupt, rfl, by lcg_sub, (fun q => nomatch q), fun _ => ⟨.misuse, rfl, by lcg_sub, fun _ => .plain (fun A' C' => ?_), fun q => nomatch q⟩⟩
      repeat tlg_ne
      have := h σ' sd'
      rw [e] at this
      exact this
  refine S_cons (S_ifT (mv = 1) ?_ (fun hm => ?_) (fun hm1 => ?_))
  · repeat tlg_ne
    exact ⟨decide_eq_decide.mpr (by lcg_off), rfl⟩
  · subst hm
    have e : rear (runs d lim ms) (ms.length - 1) = T := by rw [← hT, ← hrl]; rfl
    subst e
    repeat tlg_ne
    refine c_last B hz ?_
    refine fun σ' sd' => ⟨fun e => ?_, fun e => ⟨?_, ?_⟩, fun e => ?_⟩
    · repeat tlg_ne
      have := h σ' sd'
      rw [e] at this
      exact this
    · refine ⟨.corrupt, rfl, by lcg_sub, fun _ => .plain (fun A' C' => ?_), fun q => nomatch q⟩
      repeat tlg_ne
      have := h σ' sd'
      rw [e] at this
      exact this
    · refine ⟨.corrupt, rfl, by lcg_sub, fun _ => .plain (fun A' C' => ?_), fun q => nomatch q⟩
      repeat tlg_ne
      have := h σ' sd'
      rw [e] at this
      exact this
    · refine ⟨.corrupt, rfl, by lcg_sub, (fun q => nomatch q), fun _ => ⟨.misuse, rfl, by lcg_sub, fun _ => .plain (fun A' C' => ?_), fun q => nomatch q⟩⟩
      repeat tlg_ne
      have := h σ' sd'
      rw [e] at this
      exact this
  refine S_cons (S_ifT (mv = 2) ?_ (fun hm => ?_) (fun hm2 => ?_))
  · repeat tlg_ne
    exact ⟨decide_eq_decide.mpr (by lcg_off), rfl⟩
  · subst hm
    rw [if_pos rfl] at hT
    repeat tlg_ne
    refine c_seek B hz sd hT (fun e σ' sd' => ?_) (fun e σ' sd' => ⟨?_, ?_⟩)
    · repeat tlg_ne
      have := h σ' sd'
      rw [e] at this
      exact this
    · refine ⟨.corrupt, rfl, by lcg_sub, fun _ => .plain (fun A' C' => ?_), fun q => nomatch q⟩
      repeat tlg_ne
      have := h σ' (by rw [hT1 e]; exact sd')
      rw [e] at this
      exact this
    · refine ⟨.corrupt, rfl, by lcg_sub, fun _ => .plain (fun A' C' => ?_), fun q => nomatch q⟩
      repeat tlg_ne
      have := h σ' (by rw [hT1 e]; exact sd')
      rw [e] at this
      exact this
  refine S_cons (S_ifT (mv = 3) ?_ (fun hm => ?_) (fun hm3 => ?_))
  · repeat tlg_ne
    exact ⟨decide_eq_decide.mpr (by lcg_off), rfl⟩
  · subst hm
    have e : after (runs d lim ms) pl 3 [] = T := by rw [← hT, if_neg (by decide)]; exact after_t (by decide)
    subst e
    repeat tlg_ne
    refine c_step B hz sd ?_
    refine fun σ' sd' => ⟨fun e => ?_, fun e => ⟨?_, ?_⟩, fun e => ?_⟩
    · repeat tlg_ne
      have := h σ' sd'
      rw [e] at this
      exact this
    · refine ⟨.corrupt, rfl, by lcg_sub, fun _ => .plain (fun A' C' => ?_), fun q => nomatch q⟩
      repeat tlg_ne
      have := h σ' sd'
      rw [e] at this
      exact this
    · refine ⟨.corrupt, rfl, by lcg_sub, fun _ => .plain (fun A' C' => ?_), fun q => nomatch q⟩
      repeat tlg_ne
      have := h σ' sd'
      rw [e] at this
      exact this
    · refine ⟨.corrupt, rfl, by lcg_sub, (fun q => nomatch q), fun _ => ⟨.misuse, rfl, by lcg_sub, fun _ => .plain (fun A' C' => ?_), fun q => nomatch q⟩⟩
      repeat tlg_ne
      have := h σ' sd'
      rw [e] at this
      exact this
  have e : after (runs d lim ms) pl 4 [] = T := by
    obtain rfl : mv = 4 := by lcg_off
    rw [← hT, if_neg (by decide)]; exact after_t (by decide)
  subst e
  repeat tlg_ne
  refine c_back B hz sd ?_
  refine fun σ' sd' => ⟨fun e => ?_, fun e => ⟨?_, ?_⟩, fun e => ?_⟩
  · repeat tlg_ne
    have := h σ' sd'
    rw [e] at this
    exact this
  · refine ⟨.corrupt, rfl, by lcg_sub, fun _ => .plain (fun A' C' => ?_), fun q => nomatch q⟩
    repeat tlg_ne
    have := h σ' sd'
    rw [e] at this
    exact this
  · refine ⟨.corrupt, rfl, by lcg_sub, fun _ => .plain (fun A' C' => ?_), fun q => nomatch q⟩
    repeat tlg_ne
    have := h σ' sd'
    rw [e] at this
    exact this
  · refine ⟨.corrupt, rfl, by lcg_sub, (fun q => nomatch q), fun _ => ⟨.misuse, rfl, by lcg_sub, fun _ => .plain (fun A' C' => ?_), fun q => nomatch q⟩⟩
    repeat tlg_ne
    have := h σ' sd'
    rw [e] at this
    exact this
end
section
variable {H : Hy} {cnt : Cell} {d : List UInt8} {lim : Nat} {ms : List Nat} {n : Nat} {hn : Bool} {Q : V → St → Prop} {X : Exn → St → Prop} {σ : St}
theorem c_valueN {cur ahead turn vf : Int} {key : List UInt8} (hc : ¬ cur < lim) (h2 : X .misuse (mk cnt d lim ms cur ahead turn key vf)) :
    SemM (uni H) (n + 2) true .iter "value" [.ref .itr] Q X (mk cnt d lim ms cur ahead turn key vf) := by
  refine semM_of (f := 201) (by kernel_rfl) (semV_fn rfl rfl rfl rfl (by kernel_rfl) (ps := ["self"]) (ρ := [("self", .ref .itr)]) (by kernel_rfl) (fun vals h => by obtain ⟨a, rfl⟩ := len1 h; rfl) rfl rfl fun A l env C => ?_)
  dsimp only at C
  repeat tlg_ne
  exact c_need (fun q => absurd q hc) (fun _ => h2)
theorem c_stands (B : Blk d lim ms) (hz : d.length ≤ 1000) {pl : Option (Nat × Nat)} (sd : Sd cnt d lim ms pl σ) (h : Q (.bool true) σ) :
    SemG (uni H) (n + 3) true "_law_stands" [.ref .itr, runsV (runs d lim ms), plV pl] Q X σ := by
  obtain ⟨hm, hl⟩ := B.msz hz
  have hrl := @runs_len d lim ms
  have hml : ((runs d lim ms).map runV).length = ms.length := by rw [List.length_map, hrl]
  obtain ⟨cur, ahead, turn, vf, key, e⟩ := sd_mk sd
  subst e
  refine semG_of (f := 446) (by kernel_rfl) (semV_fn rfl rfl rfl rfl (by kernel_rfl) (ps := ["walk", "runs", "place"]) (ρ := [("walk", .ref .itr), ("runs", runsV (runs d lim ms)), ("place", plV pl)]) (by kernel_rfl) (fun vals h => by obtain ⟨a, b, c, rfl⟩ := len3 h; rfl) rfl rfl fun A l env C => ?_)
  dsimp only at C
  match pl, sd with
  | some (i, j), ⟨hi, r, hr, e⟩ =>
    have ro := B.row hi hr
    have rl := ro.lm
    have ru := ro.up
    obtain ⟨rfl, rfl, rfl, rfl, rfl⟩ := mk_inj e
    repeat tlg_ne
    refine brT ?_
    repeat tlg_ne
    refine E_and ?_
    repeat tlg_ne
    refine c_valid ⟨_, rfl, fun _ => ?_, fun q => absurd (of_decide_eq_false q) (by lcg_off)⟩
    refine E_one ?_
    repeat tlg_ne
    refine c_key (fun _ => ?_) (fun q => absurd (show (r.st : Int) < lim by lcg_off) q)
    repeat tlg_ne
    refine c_value (by lcg_off) (fun _ => ?_) (fun q => absurd (show (r.st : Int) < lim by lcg_off) q)
    repeat tlg_ne
    refine Sub_tup (y := .int (i : Nat)) (by lcg_off) (by simp) rfl ?_ rfl
    refine Sub_list (y := .tup [rowsV (rws (runs d lim ms) i), .bool (whl (runs d lim ms) i)]) (by lcg_off) (by lcg_off) (R_get (by lcg_off)) ?_ rfl
    repeat tlg_ne
    refine Sub_tup (y := rowsV (rws (runs d lim ms) i)) (by lcg_off) (by simp) rfl ?_ rfl
    repeat tlg_ne
    refine Sub_tup (y := .int (j : Nat)) (by lcg_off) (by simp) rfl ?_ rfl
    have hrr := hr
    unfold rowAt at hrr
    obtain ⟨hj, hje⟩ := List.getElem?_eq_some_iff.mp hrr
    have hrn := B.rowsLen i
    refine Sub_list (y := rowV r) (by lcg_off) (by rw [List.length_map]; lcg_off) (by rw [List.getElem?_map, show ((j : Nat) : Int).toNat = j by lcg_off, hrr]; rfl) ?_ rfl
    refine C_eqT C.E ?_
    rw [decide_eq_true ⟨rfl, ro.val.symm⟩]
    exact h
  | none, ⟨ah, t, vf', key', e⟩ =>
    obtain ⟨rfl, _⟩ := mk_inj e
    repeat tlg_ne
    refine brF ?_
    repeat tlg_ne
    refine c_valid ?_
    rw [decide_eq_false (by lcg_off)]
    repeat tlg_ne
    refine S_try C ?_
    repeat tlg_ne
    refine c_key (fun q => absurd q (by lcg_off)) (fun _ => ?_)
    refine ⟨.misuse, rfl, by lcg_sub, fun _ => .plain (fun A' C' => ?_), fun q => nomatch q⟩
    repeat tlg_ne
    refine S_try C ?_
    repeat tlg_ne
    refine c_valueN (by lcg_off) ?_
    refine ⟨.misuse, rfl, by lcg_sub, fun _ => .plain (fun A' C' => ?_), fun q => nomatch q⟩
    repeat tlg_ne
    exact h
theorem out_len {f : V → Bool} {g : V → V} {N : Nat} : ∀ {qs : List (List V × V)}, (∀ p ∈ qs, p.1.length ≤ N) → (cmpOut f g qs).length ≤ N * qs.length
  | [], _ => Nat.zero_le _
  | p :: qs, h => by
    have h1 := out_len (f := f) (g := g) (qs := qs) fun q hq => h q (.tail _ hq)
    have h2 := h p (.head _)
    have h3 := List.length_filter_le f p.1
    unfold cmpOut at h1 ⊢
    rw [List.flatMap_cons, List.length_append, List.length_map, List.length_cons, Nat.mul_add]
    lcg_off
noncomputable def isRow (k v : List UInt8) : V → Bool
  | .tup [.bytes a, .bytes b] => decide (a = k ∧ b = v)
  | _ => false
theorem c_sought (B : Blk d lim ms) (hz : d.length ≤ 200) {pl : Option (Nat × Nat)} (sd : Sd cnt d lim ms pl σ) {t : List UInt8} {T : Res} (hT : nar (rkey d lim ms) (runs d lim ms) (lim + 1) pl t = T)
    (hT2 : T = (none, 0) ∨ T = (none, 1) ∨ ∃ i j r, T = (some (i, j), 0) ∧ rowAt (runs d lim ms) i j = some r ∧ ¬ r.key < t) (h : ∀ σ', Sd cnt d lim ms T.1 σ' → Q (.bool true) σ') :
    SemG (uni H) (n + 8) true "_law_sought" [.ref .itr, runsV (runs d lim ms), .bytes t] Q X σ := by
  obtain ⟨hm, hl⟩ := B.msz (by lcg_off)
  have hrl := @runs_len d lim ms
  have hml : ((runs d lim ms).map runV).length = ms.length := by rw [List.length_map, hrl]
  obtain ⟨cur, ahead, turn, vf, key, e⟩ := sd_mk sd
  subst e
  refine semG_of (f := 451) (by kernel_rfl) (semV_fn rfl rfl rfl rfl (by kernel_rfl) (ps := ["walk", "runs", "target"]) (ρ := [("walk", .ref .itr), ("runs", runsV (runs d lim ms)), ("target", .bytes t)]) (by kernel_rfl) (fun vals h => by obtain ⟨a, b, c, rfl⟩ := len3 h; rfl) rfl rfl fun A l env C => ?_)
  dsimp only at C
  repeat tlg_ne
  refine c_move B (by lcg_off) sd (mv := 2) (by lcg_off) (T := T) (by unfold mvR; rw [if_pos rfl]; exact hT) (fun e => ?_) ?_ fun σ' sd' => ?_
  · rcases hT2 with q | q | ⟨i, j, r, q, _⟩ <;> rw [q] at e ⊢
    cases e
  · rcases hT2 with q | q | ⟨i, j, r, q, _⟩ <;> rw [q] <;> simp
  obtain ⟨cur', ahead', turn', vf', key', e'⟩ := sd_mk sd'
  subst e'
  rcases hT2 with q | q | ⟨i, j, r, q, hr, hk⟩
  · subst q
    have hq := h _ sd'
    repeat tlg_ne
    refine brX (by decide) ?_
    repeat tlg_ne
    refine brX (by decide) ?_
    repeat tlg_ne
    obtain ⟨_, _, _, _, e⟩ := sd'
    obtain ⟨rfl, _⟩ := mk_inj e
    refine c_valid ?_
    rw [decide_eq_false (by lcg_off)]
    refine ⟨_, rfl, brT ?_⟩
    repeat tlg_ne
    exact c_stands B (by lcg_off) (pl := none) ⟨_, _, _, _, rfl⟩ hq
  · subst q
    have hq := h _ sd'
    repeat tlg_ne
    refine brX (by decide) ?_
    repeat tlg_ne
    refine brY (by decide) ?_
    repeat tlg_ne
    exact c_stands B (by lcg_off) (pl := none) sd' hq
  · subst q
    have hq := h _ sd'
    obtain ⟨hi, r2, hr2, e⟩ := sd'
    have : r2 = r := by
      have : rowAt (runs d lim ms) i j = some r2 := hr2
      rw [hr] at this; exact (Option.some.inj this).symm
    subst this
    obtain ⟨rfl, rfl, rfl, rfl, rfl⟩ := mk_inj e
    have ro := B.row hi hr
    have rl := ro.lm
    have ru := ro.up
    repeat tlg_ne
    refine brX (by decide) ?_
    repeat tlg_ne
    refine brX (by decide) ?_
    repeat tlg_ne
    refine c_valid ?_
    rw [decide_eq_true (by lcg_off)]
    refine ⟨_, rfl, brF ?_⟩
    repeat tlg_ne
    refine c_key (fun _ => ?_) (fun q => absurd (show (r2.st : Int) < lim by lcg_off) q)
    repeat tlg_ne
    refine c_value (by lcg_off) (fun _ => ?_) (fun q => absurd (show (r2.st : Int) < lim by lcg_off) q)
    repeat tlg_ne
    refine E_and ?_
    repeat tlg_ne
    refine Sub_tup (y := .bytes r2.key) (by lcg_off) (by simp) rfl ?_ rfl
    repeat tlg_ne
    refine ⟨fun _ => ?_, fun q => absurd (by simpa using q) hk⟩
    refine E_one ?_
    repeat tlg_ne
    have hps : (runs d lim ms).map runV = ((runs d lim ms).map fun p => ((p.1.map rowV, .bool p.2) : List V × V)).map pairV := by rw [List.map_map]; rfl
    have hmem : ∀ p ∈ (runs d lim ms).map (fun p => ((p.1.map rowV, .bool p.2) : List V × V)), p.1.length ≤ lim ∧ ∀ v ∈ p.1, ∃ r : Row, v = rowV r := by
      intro p hp
      obtain ⟨q, hq, rfl⟩ := List.mem_map.mp hp
      obtain ⟨k, hk, e⟩ := List.getElem_of_mem hq
      have hl' := B.rowsLen k
      unfold rws at hl'
      rw [List.getD_eq_getElem?_getD, List.getElem?_eq_getElem hk, Option.getD_some, e] at hl'
      refine ⟨by simpa using hl', fun v hv => ?_⟩
      obtain ⟨x, _, rfl⟩ := List.mem_map.mp hv
      exact ⟨x, rfl⟩
    have hpl : ((runs d lim ms).map (fun p => ((p.1.map rowV, .bool p.2) : List V × V))).length = ms.length := by rw [List.length_map, hrl]
    have hsz := B.size
    have hpos : 0 < (cmpOut (isRow r2.key (sl d r2.va r2.en)) (fun _ => .int 1) ((runs d lim ms).map (fun p => ((p.1.map rowV, .bool p.2) : List V × V)))).length := by
      unfold cmpOut
      have hrr := hr
      unfold rowAt rws at hrr
      have hi' : i < (runs d lim ms).length := by rw [hrl]; exact hi
      rw [List.getD_eq_getElem?_getD, List.getElem?_eq_getElem hi', Option.getD_some] at hrr
      have hx : r2 ∈ ((runs d lim ms)[i]).1 := List.mem_of_getElem? hrr
      refine List.length_pos_of_mem (a := V.int 1) (List.mem_flatMap.mpr ⟨_, List.mem_map.mpr ⟨_, List.getElem_mem hi', rfl⟩, List.mem_map.mpr ⟨rowV r2, List.mem_filter.mpr ⟨List.mem_map.mpr ⟨r2, hx, rfl⟩, ?_⟩, rfl⟩⟩)
      show decide (r2.key = r2.key ∧ r2.val = sl d r2.va r2.en) = true
      exact decide_eq_true ⟨rfl, ro.val⟩
    have hub : (cmpOut (isRow r2.key (sl d r2.va r2.en)) (fun _ => .int 1) ((runs d lim ms).map (fun p => ((p.1.map rowV, .bool p.2) : List V × V)))).length ≤ 200 * ms.length := by
      rw [← hpl]; exact out_len fun p hp => Nat.le_trans (hmem p hp).1 (by lcg_off)
    refine E_comp2 (ps := (runs d lim ms).map fun p => (p.1.map rowV, .bool p.2)) (f := isRow r2.key (sl d r2.va r2.en)) (g := fun _ => .int 1) C.E rfl
      (cmpS_of (ρc := [("told", .tup [.bytes r2.key, .bytes (sl d r2.va r2.en)])]) (by kernel_rfl) (capC (by lcg_src) (by kernel_rfl) capN)) (cmpS_of (by kernel_rfl) (capC (by lcg_src) (by kernel_rfl) capN)) (cmpS_of (by kernel_rfl) (capC (by lcg_src) (by kernel_rfl) capN))
      (fun q => absurd (ofString_inj.mp q) (by decide)) (fun q => absurd (ofString_inj.mp q) (by decide)) (fun q => absurd (ofString_inj.mp q) (by decide)) (fun qs => ?_) (fun p hp => Nat.le_trans (hmem p hp).1 (by lcg_off)) ?_
    · by_cases z : ∃ r, ((runs d lim ms).map fun p => ((p.1.map rowV, .bool p.2) : List V × V)) = qs ++ r
      · obtain ⟨r, er⟩ := z
        left
        have := out_len (f := isRow r2.key (sl d r2.va r2.en)) (g := fun _ => .int 1) (N := 200) (qs := qs) fun p hp => Nat.le_trans (hmem p (by rw [er]; exact List.mem_append_left _ hp)).1 (by lcg_off)
        have hl2 := congrArg List.length er
        rw [hpl, List.length_append] at hl2
        lcg_off
      · exact .inr (.inr z)
    repeat tlg_ne
    refine ⟨congrArg V.lst hps, fun p hp v hv ce CC => ?_, fun p hp v hv ce CC => ?_, ?_⟩
    · obtain ⟨x, rfl⟩ := (hmem p hp).2 v hv
      repeat tlg_ne
      refine C_eqT CC ?_
      exact ⟨_, rfl, rfl, rfl⟩
    · repeat tlg_ne
      exact ⟨rfl, rfl⟩
    repeat tlg_ne
    rw [decide_eq_true (by lcg_off)]
    exact hq
end
section
variable {H : Hy} {n : Nat} {Q : V → St → Prop} {X : Exn → St → Prop}
theorem ct_self {σ : St} {k : Int} (h : σ.cnt = .lst false [.int k]) (hk : 0 ≤ k) : Ct σ σ := ⟨k, hk, by obtain ⟨c, _, _, _, _⟩ := σ; subst h; rfl⟩
@[reducible] noncomputable def dd : St := ⟨.dead, .dead, .dead, .dead, .dead⟩
theorem sd_ct {c : Cell} {d : List UInt8} {lim : Nat} {ms : List Nat} {pl : Option (Nat × Nat)} {σ σ' : St} (sd : Sd c d lim ms pl σ) (h : Ct σ σ') : ∃ k : Int, 0 ≤ k ∧ Sd (.lst false [.int k]) d lim ms pl σ' := by
  obtain ⟨k, hk, rfl⟩ := h
  refine ⟨k, hk, ?_⟩
  match pl, sd with
  | none, ⟨ah, t, vf, key, e⟩ => subst e; exact ⟨_, _, _, _, rfl⟩
  | some (i, j), ⟨hi, r, hr, e⟩ => subst e; exact ⟨hi, r, hr, rfl⟩
theorem sd_cnt {c : Cell} {d : List UInt8} {lim : Nat} {ms : List Nat} {pl : Option (Nat × Nat)} {σ : St} (sd : Sd c d lim ms pl σ) : σ.cnt = c := by
  match pl, sd with
  | none, ⟨ah, t, vf, key, e⟩ => subst e; rfl
  | some (i, j), ⟨hi, r, hr, e⟩ => subst e; rfl
theorem c_cr2 {hn : Bool} {cnt it : Cell} {d : List UInt8} {lim : Int} {ms : List Nat} (hm : ms.length ≤ 1000) (q : Q (.int (ms.length : Nat)) ⟨cnt, .inst .order [], .inst .block (fsB d lim), .lst true (nI ms), it⟩) :
    SemM (uni H) (n + 1) hn .block "count_restarts" [.ref .blk] Q X ⟨cnt, .inst .order [], .inst .block (fsB d lim), .lst true (nI ms), it⟩ := by
  refine semM_of (f := 124) (by kernel_rfl) (semV_fn rfl rfl rfl rfl (by kernel_rfl) (ps := ["self"]) (ρ := [("self", .ref .blk)]) (by kernel_rfl) (fun vals h => by obtain ⟨a, rfl⟩ := len1 h; rfl) rfl rfl fun A l env C => ?_)
  dsimp only at C
  repeat tlg_ne
  refine Len_rst rfl hm ?_
  exact q
theorem law_body {is : List Int} (his : is.length ≤ 63) {A : Around} {l : List Env} (hfr : A.frames = some l) (room : A.depth + 4 * (n + 10) + 8 < recursionLimit) (units : A.units + 24 * (n + 10) + 40 < cLine) (hand : A.handled = none)
    {W : Wd} {s : Shared} (hz : H.g₀.objs.size ≤ s.heap.objs.size) (HP : Hp (uni H) W dd l s.heap) {vals : List Value} (r : RpL W dd [.lst (zI is)] vals) {R : Result → Shared → Prop}
    (hq : ∀ h' tk, (∀ a o, W.F a = some o → h'.get? a = some o) → R (.ok (.ret (.bool true))) ⟨h', s.gens, s.drawn, tk, s.os⟩) : codeAny (uni H).M A (.call (.ref 456) ⟨vals, []⟩) R s := by
  refine call_core (u := uni H) (n := n + 9) (hn := true) (Q := fun v _ => v = .bool true) (X := fun _ _ => False) (fnOk_of (ps := ["script"]) rfl rfl (by exact rfl) (by kernel_rfl) (by kernel_rfl) (fun vals h => by obtain ⟨a, rfl⟩ := len1 h; rfl)) hz hfr room units (fun _ => hand) HP r rfl
    (fun A l env C => ?_) (fun v x W' σ' h' tk st r q => by subst q; obtain rfl := rp_boolI r; exact hq h' tk fun a o e => st.hp.froz a o (st.le a o e)) (fun _ _ _ _ _ _ _ _ q => q.elim)
  dsimp only at C
  refine S_rho (ρ' := [("script", .lst (zI is))]) rfl ?_
  refine S_cons (S_comp C rfl (cmpS_of (ρc := []) (by kernel_rfl) capN) (lc_of (by kernel_rfl)) ?_ (swaps_ok C.E rfl rfl (by kernel_rfl)))
  repeat tlg_ne
  have hcut : (cut (zI is) none (some 40)) = zI (is.take 40) := by unfold cut zI; simp [List.map_take]
  refine Sl_list C.E (i := none) (j := some 40) (by simp [endOf]) (by simp [endOf]) (by simp; lcg_off) ?_
  rw [hcut]
  refine ⟨_, .inl rfl, by rw [List.length_map, List.length_take]; lcg_off, ?_⟩
  refine CmpR_map (fun v => v) (fun v hv cenv CC => ?_) ?_
  · repeat tlg_ne
    exact ⟨rfl, rfl⟩
  rw [List.map_id']
  refine S_rho (by one_sign) ?_
  refine S_cons (S_midx (fun ρ σ' => σ' = dd ∧ ∃ tp : List Int, 0 < tp.length ∧ tp.length ≤ 1000 ∧ ρ = ([("script", .lst (zI is)), ("tape", .lst (zI tp))] : Loc)) (S_ifT ((is.take 40).length = 0) ?_ (fun q => ?_) (fun q => ?_)) (fun ρ₁ σ' hM => ?_))
  · repeat tlg_ne
    refine Len_list (by simp; lcg_off) ?_
    repeat tlg_ne
    exact ⟨decide_eq_decide.mpr (by rw [List.length_map]; lcg_off), rfl⟩
  · repeat tlg_ne
    exact ⟨rfl, [0], by simp, by simp, rfl⟩
  · repeat tlg_ne
    exact ⟨rfl, is.take 40, by lcg_off, by rw [List.length_take]; lcg_off, rfl⟩
  obtain ⟨rfl, tp, ht, htz, rfl⟩ := hM
  repeat tlg_ne
  refine c_octets (σ₀ := ⟨.lst false [.int 0], .dead, .dead, .dead, .dead⟩) ⟨0, by lcg_off, rfl⟩ ht htz fun d σ1 hd hc => ?_
  obtain ⟨k, hk, rfl⟩ := hc
  repeat tlg_ne
  refine c_lruns hd (fun lim ms hO => ?_) (fun hN => ?_)
  rotate_left
  · repeat tlg_ne
    refine S_try C ?_
    repeat tlg_ne
    refine semG_ord rfl rfl ?_
    repeat tlg_ne
    refine semG_cls (c := .block) (k := .blk) (by kernel_rfl) rfl (by kernel_rfl) (mt_of (by kernel_rfl)) rfl ?_
    refine c_binit (cnt := .lst false [.int k]) (by lcg_off) rfl (fun lim ms o => absurd ⟨lim, ms, o⟩ hN) fun _ σ' => ⟨?_, ?_⟩
    · refine ⟨.corrupt, rfl, by lcg_sub, fun _ => .plain (fun A' C' => ?_), fun q => nomatch q⟩
      repeat tlg_ne
      rfl
    · refine ⟨.corrupt, rfl, by lcg_sub, fun _ => .plain (fun A' C' => ?_), fun q => nomatch q⟩
      repeat tlg_ne
      rfl
  repeat tlg_ne
  refine S_try C ?_
  repeat tlg_ne
  refine semG_ord rfl rfl ?_
  repeat tlg_ne
  refine semG_cls (c := .block) (k := .blk) (by kernel_rfl) rfl (by kernel_rfl) (mt_of (by kernel_rfl)) rfl ?_
  refine c_binit (cnt := .lst false [.int k]) (by lcg_off) rfl (fun lim' ms' o => ?_) fun hN => absurd ⟨lim, ms, hO⟩ hN
  obtain ⟨rfl, rfl⟩ : lim' = lim ∧ ms' = ms := by
    obtain ⟨a1, a2, _⟩ := o.eq
    obtain ⟨b1, b2, _⟩ := hO.eq
    refine ⟨by rw [a1, b1], ?_⟩
    rw [a2, b2, a1, b1]
  have B := o.blk
  clear hO
  have hrl := @runs_len d lim' ms'
  have hml : ((runs d lim' ms').map runV).length = ms'.length := by rw [List.length_map, hrl]
  have hsz := B.size
  have hne := B.ne
  refine ⟨rfl, ?_⟩
  repeat tlg_ne
  refine brF ?_
  repeat tlg_ne
  refine c_cr2 (by lcg_off) ?_
  repeat tlg_ne
  rw [hml]
  refine brX (fun q => q rfl) ?_
  repeat tlg_ne
  generalize hRR : runs d lim' ms' = RR at hrl hml ⊢
  have hrows : ∀ p ∈ RR, p.1.length ≤ lim' := fun p hp => by
    obtain ⟨k, hk, e⟩ := List.getElem_of_mem hp
    have hl' := B.rowsLen k
    rw [hRR] at hl'
    unfold rws at hl'
    rwa [List.getD_eq_getElem?_getD, List.getElem?_eq_getElem hk, Option.getD_some, e] at hl'
  have hkl : (keysOf RR).length ≤ 10000 := by
    have := keysOf_len B
    rw [hRR] at this
    have : lim' * ms'.length ≤ 200 * 49 := Nat.mul_le_mul (by lcg_off) (by lcg_off)
    lcg_off
  refine S_midx (fun ρ σ' => σ' = ⟨.lst false [.int k], .inst .order [], .inst .block (fsB d lim'), .lst true (nI ms'), .dead⟩ ∧ Sub [("tape", .lst (zI tp)), ("at", .ref .cnt), ("runs", runsV RR), ("block", .ref .blk), ("keys", .lst (bL (keysOf RR))), ("sound", .bool (RR.all fun p => p.2))] ρ) ?_ (fun ρ₁ σ' hM => ?_)
  · refine S_for C rfl ?_
    repeat tlg_ne
    refine For_inv2 (fun ys ρ σ' => ∃ j : Nat, σ' = ⟨.lst false [.int k], .inst .order [], .inst .block (fsB d lim'), .lst true (nI ms'), .dead⟩ ∧ j ≤ RR.length ∧ ys = (RR.drop j).map runV ∧
        ρ = ([("tape", .lst (zI tp)), ("at", .ref .cnt), ("runs", runsV RR), ("block", .ref .blk), ("keys", .lst (bL (keysOf (RR.take j)))), ("sound", .bool ((RR.take j).all fun p => p.2))] : Loc))
      (fun y ys ρ σ' I => ?_) (fun ρ ρ₁ σ' sb I => ?_) _ ⟨_, ?_, 0, rfl, by lcg_off, rfl, rfl⟩
    · obtain ⟨j, rfl, hj, e, rfl⟩ := I
      have hj' : j < RR.length := by
        rcases Nat.lt_or_eq_of_le hj with q | q
        · exact q
        · rw [q, List.drop_length] at e; cases e
      rw [List.drop_eq_getElem_cons hj'] at e
      injection e with e1 e2
      subst e1 e2
      have hk1 : keysOf (RR.take (j + 1)) = keysOf (RR.take j) ++ (RR[j]).1.map Row.key := by
        unfold keysOf
        rw [List.take_succ_eq_append_getElem hj', List.map_append, List.flatten_append]; simp
      have hs1 : (RR.take (j + 1)).all (fun p => p.2) = ((RR.take j).all (fun p => p.2) && (RR[j]).2) := by
        rw [List.take_succ_eq_append_getElem hj', List.all_append]; simp
      have hr1 := hrows _ (List.getElem_mem hj')
      have hkt : (keysOf (RR.take j)).length ≤ 10000 := by
        have : (keysOf RR).length = (keysOf (RR.take j)).length + (keysOf (RR.drop j)).length := by
          conv => lhs; rw [← List.take_append_drop j RR]
          unfold keysOf
          rw [List.map_append, List.flatten_append, List.length_append]
        lcg_off
      generalize RR[j] = p at hk1 hs1 hr1 ⊢
      generalize (RR.take j).all (fun p => p.2) = sv at hs1 ⊢
      generalize keysOf (RR.take j) = kj at hk1 hkt ⊢
      repeat tlg_ne
      refine EOk.mono (Q := fun y σ' => y = .bool (sv && p.2) ∧ σ' = ⟨.lst false [.int k], .inst .order [], .inst .block (fsB d lim'), .lst true (nI ms'), .dead⟩) (X := fun _ _ => False) ?_ (fun y σ' q => ?_) (fun _ _ q => q.elim)
      · refine E_and ?_
        repeat tlg_ne
        refine ⟨fun q => ?_, fun q => by rw [q]; exact ⟨rfl, rfl⟩⟩
        refine E_one ?_
        repeat tlg_ne
        rw [q]; exact ⟨rfl, rfl⟩
      obtain ⟨rfl, rfl⟩ := q
      repeat tlg_ne
      refine E_comp C.E rfl (cmpS_of (ρc := []) (by kernel_rfl) capN) ?_
      repeat tlg_ne
      refine ⟨_, .inl rfl, by rw [List.length_map]; lcg_off, ?_⟩
      refine CmpR_map (fun v => match v with | .tup [.bytes a, .bytes _] => .bytes a | v => v) (fun v hv cenv CC => ?_) ?_
      · obtain ⟨x, _, rfl⟩ := List.mem_map.mp hv
        repeat tlg_ne
        exact Sub_tup (y := .bytes x.key) (by lcg_off) (by simp) rfl ⟨rfl, rfl⟩ rfl
      have em : (p.1.map rowV).map (fun v => match v with | .tup [.bytes a, .bytes _] => .bytes a | v => v) = bL (p.1.map Row.key) := by
        unfold bL; rw [List.map_map, List.map_map]; rfl
      rw [em]
      refine B_addL (y := bL (p.1.map Row.key)) C.ne (by simp; lcg_off) ?_
      repeat tlg_ne
      refine ⟨_, ?_, j + 1, rfl, hj', rfl, rfl⟩
      rw [hk1, hs1, show bL (kj ++ p.1.map Row.key) = bL kj ++ bL (p.1.map Row.key) by unfold bL; rw [List.map_append]]
      repeat (first | exact Sub.nil | refine Sub.cons (by lcg_src) ?_)
    · obtain ⟨j, rfl, hj, e, rfl⟩ := I
      have hj' : j = RR.length := by
        have := congrArg List.length e
        simp at this; lcg_off
      subst hj'
      rw [List.take_length] at sb
      exact ⟨rfl, sb⟩
    · repeat (first | exact Sub.nil | refine Sub.cons (by lcg_src) ?_)
  obtain ⟨rfl, sb⟩ := hM
  refine S_drop sb ?_
  generalize hKK : keysOf RR = KK at hkl
  have hKl : (bL KK).length = KK.length := by unfold bL; simp
  repeat tlg_ne
  have hbg : ∀ {i : Nat}, i < KK.length → (bL KK)[i]? = some (.bytes (KK.getD i [])) := fun {i} hi => by
    unfold bL; rw [List.getElem?_map, List.getElem?_eq_getElem hi, List.getD_eq_getElem?_getD, List.getElem?_eq_getElem hi]; rfl
  refine S_midx (fun ρ σ' => σ' = ⟨.lst false [.int k], .inst .order [], .inst .block (fsB d lim'), .lst true (nI ms'), .dead⟩ ∧ ∃ snd : Bool, (snd = true → (RR.all fun p => p.2) = true ∧ ∀ j, j + 1 < KK.length → KK.getD j [] < KK.getD (j + 1) []) ∧
      Sub [("tape", .lst (zI tp)), ("at", .ref .cnt), ("runs", runsV RR), ("block", .ref .blk), ("keys", .lst (bL KK)), ("sound", .bool snd)] ρ) ?_ (fun ρ₁ σ' hM => ?_)
  · refine S_forR C rfl ?_
    repeat tlg_ne
    rw [hKl]
    refine Range_2 C.ne ⟨1, KK.length, rfl, by lcg_off, ?_⟩
    by_cases hK0 : KK.length = 0
    · rw [hK0, show rngL 1 ((0 : Nat) : Int) = [] from rfl]
      refine ForR_n ⟨rfl, _, fun e => ⟨e, fun j hj => by lcg_off⟩, Sub.refl _⟩
    refine ForR_inv2 (fun i ρ σ' => ∃ (j : Nat) (snd : Bool), i = j ∧ 0 < j ∧ σ' = ⟨.lst false [.int k], .inst .order [], .inst .block (fsB d lim'), .lst true (nI ms'), .dead⟩ ∧
        (snd = true → (RR.all fun p => p.2) = true ∧ ∀ m, m + 1 < j → KK.getD m [] < KK.getD (m + 1) []) ∧
        ρ = ([("tape", .lst (zI tp)), ("at", .ref .cnt), ("runs", runsV RR), ("block", .ref .blk), ("keys", .lst (bL KK)), ("sound", .bool snd)] : Loc)) (by lcg_off)
      (fun i ρ σ' _ hi I => ?_) (fun ρ ρ₁ σ' sb I => ?_) ⟨_, Sub.refl _, 1, _, rfl, by lcg_off, rfl, fun e => ⟨e, fun m hm => by lcg_off⟩, rfl⟩
    · revert hi
      obtain ⟨j, snd, rfl, hj0, rfl, hs, rfl⟩ := I
      intro hi
      have hj : j < KK.length := by lcg_off
      repeat tlg_ne
      refine Sub_list (y := .bytes (KK.getD (j - 1) [])) (by lcg_off) (by lcg_off) (show _[((j : Int) - 1).toNat]? = _ from by rw [show ((j : Int) - 1).toNat = j - 1 by lcg_off]; exact hbg (by lcg_off)) ?_ rfl
      repeat tlg_ne
      refine Sub_list (y := .bytes (KK.getD j [])) (by lcg_off) (by lcg_off) (hbg hj) ?_ rfl
      repeat tlg_ne
      refine brN (fun q => ?_) (fun q => ?_)
      · repeat tlg_ne
        refine ⟨_, ?_, j + 1, false, by push_cast; rfl, by lcg_off, rfl, nofun, rfl⟩
        repeat (first | exact Sub.nil | refine Sub.cons (by lcg_src) ?_)
      · repeat tlg_ne
        refine ⟨_, ?_, j + 1, snd, by push_cast; rfl, by lcg_off, rfl, fun e => ⟨(hs e).1, fun m hm => ?_⟩, rfl⟩
        · repeat (first | exact Sub.nil | refine Sub.cons (by lcg_src) ?_)
        · by_cases z : m + 1 < j
          · exact (hs e).2 m z
          · obtain rfl : j = m + 1 := by lcg_off
            rwa [Nat.add_sub_cancel] at q
    · obtain ⟨j, snd, e, hj0, rfl, hs, rfl⟩ := I
      obtain rfl : KK.length = j := by lcg_off
      exact ⟨rfl, snd, hs, sb⟩
  obtain ⟨rfl, snd, hsnd, sb⟩ := hM
  have hsound : snd = true → Whole RR ∧ Lex RR := fun e => by
    obtain ⟨a, b⟩ := hsnd e
    refine ⟨fun i hi => ?_, lex_of (by rw [hKK]; exact pw_of b)⟩
    unfold whl
    rw [List.getD_eq_getElem?_getD, List.getElem?_eq_getElem hi]
    exact List.all_eq_true.mp a _ (List.getElem_mem hi)
  clear hsnd
  refine S_drop sb ?_
  repeat tlg_ne
  refine c_walk rfl ?_
  repeat tlg_ne
  have sd0 : Sd (.lst false [.int k]) d lim' ms' none (mk (.lst false [.int k]) d lim' ms' lim' lim' 0 [] 0) := ⟨_, _, _, _, rfl⟩
  subst hRR
  refine c_stands B (by lcg_off) (pl := none) sd0 ?_
  refine ⟨_, rfl, brF ?_⟩
  repeat tlg_ne
  rw [hKl]
  have hrep : ∀ c : Int, ((List.replicate ((KK.length : Int) + 1).toNat [c]).flatten).length = KK.length + 1 := fun c => by
    rw [List.length_flatten]; simp
  have hrm : ∀ c : Int, ∀ x ∈ (List.replicate ((KK.length : Int) + 1).toNat [c]).flatten, x = c := fun c x hx => by
    simp only [List.mem_flatten, List.mem_replicate] at hx
    obtain ⟨l, ⟨_, rfl⟩, hx⟩ := hx
    exact List.mem_singleton.mp hx
  refine B_mulL (is := [3]) C.ne (by lcg_off) (by simp; lcg_off) (by lcg_off) ?_
  refine B_addL (x := zI [0]) (y := zI (List.replicate ((KK.length : Int) + 1).toNat [3]).flatten) C.ne (by rw [List.length_map, List.length_map, hrep]; simp; lcg_off) ?_
  repeat tlg_ne
  refine B_addL (y := zI [1]) C.ne (by rw [List.length_append, List.length_map, List.length_map, List.length_map, hrep]; simp; lcg_off) ?_
  repeat tlg_ne
  rw [hKl]
  refine B_mulL (is := [4]) C.ne (by lcg_off) (by simp; lcg_off) (by lcg_off) ?_
  refine B_addL (y := zI (List.replicate ((KK.length : Int) + 1).toNat [4]).flatten) C.ne (by rw [List.length_append, List.length_append, List.length_map, List.length_map, List.length_map, List.length_map, hrep, hrep]; simp; lcg_off) ?_
  have hmv : ∃ mv : List Int, zI [0] ++ zI (List.replicate ((KK.length : Int) + 1).toNat [3]).flatten ++ zI [1] ++ zI (List.replicate ((KK.length : Int) + 1).toNat [4]).flatten = zI mv ∧ mv.length ≤ 30000 ∧ ∀ m ∈ mv, 0 ≤ m ∧ m < 7 := by
    refine ⟨[0] ++ (List.replicate ((KK.length : Int) + 1).toNat [3]).flatten ++ [1] ++ (List.replicate ((KK.length : Int) + 1).toNat [4]).flatten, by unfold zI; simp only [List.map_append], by simp only [List.length_append, hrep]; simp; lcg_off, fun m hm => ?_⟩
    simp only [List.mem_append, List.mem_singleton] at hm
    rcases hm with ((q | q) | q) | q
    · lcg_off
    · have := hrm 3 m q; lcg_off
    · lcg_off
    · have := hrm 4 m q; lcg_off
  obtain ⟨mv, hmv, hmvl, hmvm⟩ := hmv
  rw [hmv]
  clear hmv hrm hrep
  repeat tlg_ne
  refine S_midx (fun ρ σ' => ∃ (k : Int) (mv : List Int), 0 ≤ k ∧ Sd (.lst false [.int k]) d lim' ms' none σ' ∧ (∀ m ∈ mv, 0 ≤ m ∧ m < 7) ∧
      Sub [("tape", .lst (zI tp)), ("at", .ref .cnt), ("runs", runsV (runs d lim' ms')), ("keys", .lst (bL KK)), ("sound", .bool snd), ("walk", .ref .itr), ("place", .none), ("moves", .lst (zI mv))] ρ) ?_ (fun ρ₁ σ' hM => ?_)
  · refine S_forR C rfl ?_
    repeat tlg_ne
    refine Range_1 C.ne ⟨0, 6, rfl, by lcg_off, ?_⟩
    refine ForR_inv2 (fun i ρ σ' => ∃ (k : Int) (mv : List Int), 0 ≤ k ∧ Sd (.lst false [.int k]) d lim' ms' none σ' ∧ (mv.length : Int) ≤ 30000 + i ∧ (∀ m ∈ mv, 0 ≤ m ∧ m < 7) ∧
        ρ = ([("tape", .lst (zI tp)), ("at", .ref .cnt), ("runs", runsV (runs d lim' ms')), ("keys", .lst (bL KK)), ("sound", .bool snd), ("walk", .ref .itr), ("place", .none), ("moves", .lst (zI mv))] : Loc)) (by lcg_off)
      (fun i ρ σ' _ hi I => ?_) (fun ρ ρ₁ σ' sb I => ?_) ⟨_, ?_, k, mv, hk, sd0, by lcg_off, hmvm, rfl⟩
    · obtain ⟨k, mv, hk, sd, hl, hm, rfl⟩ := I
      repeat tlg_ne
      refine c_tk 7 rfl (by lcg_off) (ct_self (sd_cnt sd) hk) ht htz fun r σ2 hr hc2 => ?_
      obtain ⟨k2, hk2, sd2⟩ := sd_ct sd hc2
      repeat tlg_ne
      refine B_addL (y := zI [(r : Int)]) C.ne (by rw [List.length_map, List.length_map]; simp; lcg_off) ?_
      repeat tlg_ne
      refine ⟨_, ?_, k2, mv ++ [(r : Int)], hk2, sd2, by simp; lcg_off, fun m hm' => ?_, rfl⟩
      · rw [show zI (mv ++ [(r : Int)]) = zI mv ++ zI [(r : Int)] by unfold zI; rw [List.map_append]]
        repeat (first | exact Sub.nil | refine Sub.cons (by lcg_src) ?_)
      · rcases List.mem_append.mp hm' with q | q
        · exact hm m q
        · have := List.mem_singleton.mp q; lcg_off
    · obtain ⟨k, mv, hk, sd, hl, hm, rfl⟩ := I
      exact ⟨k, mv, hk, sd, hm, sb⟩
    · repeat (first | exact Sub.nil | refine Sub.cons (by lcg_src) ?_)
  obtain ⟨k1, mv1, hk1, sd1, hmv1, sb⟩ := hM
  clear hk sd0 hmvl hmvm
  refine S_drop sb ?_
  repeat tlg_ne
  refine S_for C rfl ?_
  repeat tlg_ne
  refine For_inv2 (fun ys ρ σ' => ∃ (k : Int) (mv : List Int) (pl : Option (Nat × Nat)), ys = zI mv ∧ 0 ≤ k ∧ Sd (.lst false [.int k]) d lim' ms' pl σ' ∧ PlOk ms'.length (runs d lim' ms') pl ∧ (∀ m ∈ mv, 0 ≤ m ∧ m < 7) ∧
      ρ = ([("tape", .lst (zI tp)), ("at", .ref .cnt), ("runs", runsV (runs d lim' ms')), ("keys", .lst (bL KK)), ("sound", .bool snd), ("walk", .ref .itr), ("place", plV pl)] : Loc))
    (fun y ys ρ σ' I => ?_) (fun ρ ρ₁ σ' sb I => ?_) _ ⟨_, ?_, k1, mv1, none, rfl, hk1, sd1, nofun, hmv1, rfl⟩
  · obtain ⟨k, mv, pl, e, hk, sd, hpl, hmv, rfl⟩ := I
    cases mv with
    | nil => cases e
    | cons m mv =>
      injection e with e1 e2
      subst e1 e2
      have hm7 := hmv m (.head _)
      iterate 5 tlg_ne
      refine S_cons (S_midx (fun ρ σ'' => σ'' = σ' ∧ ∃ mn : Nat, mn < 5 ∧ ρ = ([("tape", .lst (zI tp)), ("at", .ref .cnt), ("runs", runsV (runs d lim' ms')), ("keys", .lst (bL KK)), ("sound", .bool snd), ("walk", .ref .itr), ("place", plV pl), ("drawn", .int m), ("move", .int mn)] : Loc))
        (S_ifT (4 < m) ?_ (fun q => ?_) (fun q => ?_)) (fun ρ₁ σ'' hM => ?_))
      · repeat tlg_ne
        exact ⟨decide_eq_decide.mpr (by lcg_off), rfl⟩
      · repeat tlg_ne
        exact ⟨rfl, 2, by lcg_off, rfl⟩
      · repeat tlg_ne
        obtain ⟨mn, rfl⟩ : ∃ mn : Nat, m = mn := ⟨m.toNat, by lcg_off⟩
        exact ⟨rfl, mn, by lcg_off, rfl⟩
      obtain ⟨rfl, mn, hmn, rfl⟩ := hM
      iterate 4 tlg_ne
      refine S_cons (S_midx (fun ρ σ'' => ∃ (k : Int) (t : List UInt8), 0 ≤ k ∧ Sd (.lst false [.int k]) d lim' ms' pl σ'' ∧
          Sub [("tape", .lst (zI tp)), ("at", .ref .cnt), ("runs", runsV (runs d lim' ms')), ("keys", .lst (bL KK)), ("sound", .bool snd), ("walk", .ref .itr), ("place", plV pl), ("drawn", .int m), ("move", .int mn), ("target", .bytes t)] ρ)
        (S_ifT (mn = 2) ?_ (fun q => ?_) (fun q => ?_)) (fun ρ₁ σ'' hM => ?_))
      · repeat tlg_ne
        exact ⟨decide_eq_decide.mpr (by lcg_off), rfl⟩
      · repeat tlg_ne
        refine c_tk 16777216 rfl (by lcg_off) (ct_self (sd_cnt sd) hk) ht htz fun x σ2 hx hc2 => ?_
        obtain ⟨k2, hk2, sd2⟩ := sd_ct sd hc2
        repeat tlg_ne
        have x1 := Int.emod_lt_of_pos ((x : Int) / 2) (show 0 < (121 : Int) by lcg_off)
        have x0 := Int.emod_nonneg ((x : Int) / 2) (show (121 : Int) ≠ 0 by lcg_off)
        refine c_word (w := ((x : Int) / 2 % 121).toNat) (by lcg_off) (by lcg_off) fun b hb => ?_
        tlg_ne
        refine S_cons (S_ifT ((x : Int) % 2 = 0 ∧ 0 < KK.length) ?_ (fun q => ?_) (fun q => ?_))
        · repeat tlg_ne
          refine brD (fun h => ?_) (fun h => ?_)
          · repeat tlg_ne
            rw [hKl]
            refine brD (fun h => ?_) (fun h => ?_)
            · repeat tlg_ne
              exact ⟨by rw [decide_eq_true (by lcg_off)], rfl⟩
            · exact ⟨by rw [decide_eq_false (by lcg_off)], rfl⟩
          · exact ⟨by rw [decide_eq_false (by lcg_off)], rfl⟩
        · have y1 := Int.emod_lt_of_pos ((x : Int) / 2) (show 0 < (KK.length : Int) by lcg_off)
          have y0 := Int.emod_nonneg ((x : Int) / 2) (show (KK.length : Int) ≠ 0 by lcg_off)
          repeat tlg_ne
          rw [hKl]
          repeat tlg_ne
          refine Sub_list (y := .bytes (KK.getD ((x : Int) / 2 % (KK.length : Int)).toNat [])) (by lcg_off) (by lcg_off) (hbg (by lcg_off)) ?_ rfl
          repeat tlg_ne
          refine ⟨k2, KK.getD ((x : Int) / 2 % (KK.length : Int)).toNat [], hk2, sd2, ?_⟩
          repeat (first | exact Sub.nil | refine Sub.cons (by lcg_src) ?_)
        · repeat tlg_ne
          refine ⟨k2, b, hk2, sd2, ?_⟩
          repeat (first | exact Sub.nil | refine Sub.cons (by lcg_src) ?_)
      · repeat tlg_ne
        refine ⟨k, [], hk, sd, ?_⟩
        repeat (first | exact Sub.nil | refine Sub.cons (by lcg_src) ?_)
      obtain ⟨k2, t, hk2, sd2, sb⟩ := hM
      clear sd hk
      refine S_drop sb ?_
      have hlr := @runs_len d lim' ms'
      refine S_cons (S_midx (fun ρ σ'' => ∃ (k : Int) (pl' : Option (Nat × Nat)) (mn : Nat), 0 ≤ k ∧ Sd (.lst false [.int k]) d lim' ms' pl' σ'' ∧ PlOk ms'.length (runs d lim' ms') pl' ∧ mn < 5 ∧ mvR d lim' ms' pl' mn t = after (runs d lim' ms') pl mn t ∧
          Sub [("tape", .lst (zI tp)), ("at", .ref .cnt), ("runs", runsV (runs d lim' ms')), ("keys", .lst (bL KK)), ("sound", .bool snd), ("walk", .ref .itr), ("place", plV pl), ("move", .int mn), ("target", .bytes t)] ρ)
        (S_ifT (mn = 2 ∧ snd = false) ?_ (fun q => ?_) (fun q => ?_)) (fun ρ₁ σ'' hM => ?_))
      · repeat tlg_ne
        refine brD (fun h => ?_) (fun h => ?_)
        · repeat tlg_ne
          cases snd
          · refine ⟨fun _ => ?_, nofun⟩
            repeat tlg_ne
            exact ⟨by rw [decide_eq_true ⟨by lcg_off, rfl⟩], rfl⟩
          · exact ⟨nofun, fun _ => ⟨by rw [decide_eq_false (fun z => nomatch z.2)], rfl⟩⟩
        · exact ⟨by rw [decide_eq_false (by lcg_off)], rfl⟩
      · have g := nar_good B (rk := rkey d lim' ms') hpl t
        have g2 := good_two hlr g
        repeat tlg_ne
        refine c_sought B hd sd2 rfl g fun σ3 sd3 => ?_
        refine ⟨_, rfl, brF ?_⟩
        repeat tlg_ne
        have m2 := Int.emod_lt_of_pos m (show 0 < (2 : Int) by lcg_off)
        have m0 := Int.emod_nonneg m (show (2 : Int) ≠ 0 by lcg_off)
        generalize m % 2 = z at m2 m0
        obtain ⟨z', rfl⟩ : ∃ z' : Nat, z = z' := ⟨z.toNat, by lcg_off⟩
        refine ⟨k2, _, z', hk2, sd3, g2.2.2, by lcg_off, ?_, ?_⟩
        · unfold mvR after
          obtain rfl | rfl : z' = 0 ∨ z' = 1 := by lcg_off
          · rfl
          · rfl
        · repeat (first | exact Sub.nil | refine Sub.cons (by lcg_src) ?_)
      · repeat tlg_ne
        refine ⟨k2, pl, mn, hk2, sd2, hpl, hmn, ?_, ?_⟩
        · unfold mvR
          by_cases z : mn = 2
          · subst z
            have : snd = true := by
              cases snd
              · exact absurd ⟨rfl, rfl⟩ q
              · rfl
            obtain ⟨hw, hx⟩ := hsound this
            rw [if_pos rfl, nar_sound B hw hx hpl]; rfl
          · rw [if_neg z]
        · repeat (first | exact Sub.nil | refine Sub.cons (by lcg_src) ?_)
      obtain ⟨k3, pl', mn, hk3, sd3, hpl', hmn, hmve, sb⟩ := hM
      clear sd2 hk2
      refine S_drop sb ?_
      have aok := after_ok (mv := mn) (t := t) hlr hne hpl
      repeat tlg_ne
      refine c_after hmn (by lcg_off) (by lcg_off) (fun i => Nat.le_trans (B.rowsLen i) (by lcg_off)) (fun i j e => by rw [hlr]; exact (hpl i j e).1) ?_
      generalize after (runs d lim' ms') pl mn t = T at hmve aok
      repeat tlg_ne
      refine c_move B (by lcg_off) sd3 hmn hmve aok.1 aok.2.1 fun σ4 sd4 => ?_
      repeat tlg_ne
      refine brX (fun q => q rfl) ?_
      repeat tlg_ne
      refine c_stands B (by lcg_off) sd4 ?_
      refine ⟨_, rfl, ?_⟩
      refine brF ?_
      repeat tlg_ne
      refine ⟨_, ?_, k3, mv, T.1, rfl, hk3, sd4, aok.2.2, fun x hx => hmv x (.tail _ hx), rfl⟩
      repeat (first | exact Sub.nil | refine Sub.cons (by lcg_src) ?_)
  · refine S_drop sb ?_
    obtain ⟨k, mv, pl, e, hk, sd, hpl, hmv, rfl⟩ := I
    repeat tlg_ne
    rfl
  · repeat (first | exact Sub.nil | refine Sub.cons (by lcg_src) ?_)
end
end Mine
open PySem PySem.W PyProof.Rows PySem.Calls PySem.Spec
namespace Mine
theorem law_ends {w : World} {s₁ : Shared} {mean : ExcName → Option Value} {mg mb : Str → Option Value} (T : Top hd.view_39 (looseW hd.view_39 []) mean mg mb s₁.heap) (Y : (hd.heap_39 w.params).In s₁.heap)
    {fa : Addr} (hmg : mg (Str.ofString "law") = some (.ref fa)) (hg : s₁.gens = #[]) {D : Addr} {vs : List Value} {is : List Int} (hL : s₁.heap.IsList D vs.toArray) (hI : IntsAre vs is) (hc : is.length ≤ 63)
    {c : ClaimW} {cl : Str → Option Addr} {args : List WData} (hn : ∀ cls, c.raises args cls = false) (hp : c.post args (.bool true) args = true) :
    codeAny (model PySem.Challenge.pw_no0408_01 w) callerA (.call (.ref fa) ⟨[.ref D], []⟩) (GoodWG c cl mean args s₁) s₁ := by
  obtain rfl : fa = 456 := by
    have e := mg_of Y T.g (by kernel_rfl : nsIn (hd.heap_39 w.params) mainGlobals "law" = some (some (.ref 456)))
    exact Value.ref.inj (Option.some.inj (hmg.symm.trans e))
  obtain ⟨o, ho, hcl, n, hda⟩ := hL
  have HP : Hp (uni ⟨w, s₁.heap, mean, mg, mb, T, Y⟩) ⟨s₁.heap.get?, fun _ => 0, fun _ => 0⟩ dd [] s₁.heap :=
    ⟨fun _ _ e => e, fun _ _ e => e, fun k => by cases k <;> exact trivial, fun k a m => by cases k <;> exact m.elim, fun k k' a m => by cases k <;> exact m.elim, fun k c fs e => (by cases k <;> cases e), fun _ h => nomatch h⟩
  refine law_body (H := ⟨w, s₁.heap, mean, mg, mb, T, Y⟩) (n := 0) (is := is) hc (l := []) rfl (by decide) (by decide) rfl (Nat.le_refl _) HP (RepL.cons (rp_lst' ho hcl hda (ints_to hI)) RepL.nil) ?_
  intro h' tk hk
  exact ⟨.inl ⟨_, .bool true, [], rfl, hn, .bool _, hp, fun _ => ⟨List.nodup_nil, fun _ h => nomatch h⟩⟩, .of_keep hk, rfl, .of_eq hg⟩
end Mine
theorem PySem.Challenge.cw_no0408_01_holds : PySem.Challenge.rw_no0408_01.Holds := by
  refine Mine.hd.of ?_
  intro d kwd hdef w s₀ s₁ mg mb G Y fa o pm cd doc dV kV ho hdd hcd hD hmg hg args vals as hpre hlay hrd hwl hlo
  have T := G.T
  wrow_args hpre hlay hrd hwl hlo
  rename_i is _ _ _ _ _ _ _ D vs _ hL _ _ _ hI _ hc _
  refine enter_call ?_
  exact Mine.law_ends T Y ((congrArg mg (defOf_name hdef)).symm.trans hmg) hg hL hI (by omega) (fun _ => rfl) (by kernel_rfl)
