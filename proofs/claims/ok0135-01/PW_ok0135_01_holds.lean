import PyProof.Rows.All
import Wide.All
import OpenK.AllK
import Wide.FinOn
import Lean
import PySem.Challenge.RW_ok0135_01
set_option Elab.async false
set_option rowWalk.seconds 0
set_option compiler.extract_closed false
set_option linter.all false
namespace Mine
section --T_El
theorem el0_2 {p0 p1 : Prop} {G : Prop} (h : p0 ∧ p1) (k : p0 → p1 → G) : G := k h.1 h.2
theorem el0_3 {p0 p1 p2 : Prop} {G : Prop} (h : p0 ∧ p1 ∧ p2) (k : p0 → p1 → p2 → G) : G := k h.1 h.2.1 h.2.2
theorem el0_4 {p0 p1 p2 p3 : Prop} {G : Prop} (h : p0 ∧ p1 ∧ p2 ∧ p3) (k : p0 → p1 → p2 → p3 → G) : G := k h.1 h.2.1 h.2.2.1 h.2.2.2
theorem el0_7 {p0 p1 p2 p3 p4 p5 p6 : Prop} {G : Prop} (h : p0 ∧ p1 ∧ p2 ∧ p3 ∧ p4 ∧ p5 ∧ p6) (k : p0 → p1 → p2 → p3 → p4 → p5 → p6 → G) : G := k h.1 h.2.1 h.2.2.1 h.2.2.2.1 h.2.2.2.2.1 h.2.2.2.2.2.1 h.2.2.2.2.2.2
theorem el10_11 {a0 a1 a2 a3 a4 a5 a6 a7 a8 a9 : Type} {p0 p1 p2 p3 p4 p5 p6 p7 p8 p9 p10 : a0 → a1 → a2 → a3 → a4 → a5 → a6 → a7 → a8 → a9 → Prop} {G : Prop} (h : ∃ x0 x1 x2 x3 x4 x5 x6 x7 x8 x9, p0 x0 x1 x2 x3 x4 x5 x6 x7 x8 x9 ∧ p1 x0 x1 x2 x3 x4 x5 x6 x7 x8 x9 ∧ p2 x0 x1 x2 x3 x4 x5 x6 x7 x8 x9 ∧ p3 x0 x1 x2 x3 x4 x5 x6 x7 x8 x9 ∧ p4 x0 x1 x2 x3 x4 x5 x6 x7 x8 x9 ∧ p5 x0 x1 x2 x3 x4 x5 x6 x7 x8 x9 ∧ p6 x0 x1 x2 x3 x4 x5 x6 x7 x8 x9 ∧ p7 x0 x1 x2 x3 x4 x5 x6 x7 x8 x9 ∧ p8 x0 x1 x2 x3 x4 x5 x6 x7 x8 x9 ∧ p9 x0 x1 x2 x3 x4 x5 x6 x7 x8 x9 ∧ p10 x0 x1 x2 x3 x4 x5 x6 x7 x8 x9) (k : ∀ x0 x1 x2 x3 x4 x5 x6 x7 x8 x9, p0 x0 x1 x2 x3 x4 x5 x6 x7 x8 x9 → p1 x0 x1 x2 x3 x4 x5 x6 x7 x8 x9 → p2 x0 x1 x2 x3 x4 x5 x6 x7 x8 x9 → p3 x0 x1 x2 x3 x4 x5 x6 x7 x8 x9 → p4 x0 x1 x2 x3 x4 x5 x6 x7 x8 x9 → p5 x0 x1 x2 x3 x4 x5 x6 x7 x8 x9 → p6 x0 x1 x2 x3 x4 x5 x6 x7 x8 x9 → p7 x0 x1 x2 x3 x4 x5 x6 x7 x8 x9 → p8 x0 x1 x2 x3 x4 x5 x6 x7 x8 x9 → p9 x0 x1 x2 x3 x4 x5 x6 x7 x8 x9 → p10 x0 x1 x2 x3 x4 x5 x6 x7 x8 x9 → G) : G := Exists.elim h fun x0 h => Exists.elim h fun x1 h => Exists.elim h fun x2 h => Exists.elim h fun x3 h => Exists.elim h fun x4 h => Exists.elim h fun x5 h => Exists.elim h fun x6 h => Exists.elim h fun x7 h => Exists.elim h fun x8 h => Exists.elim h fun x9 h => k x0 x1 x2 x3 x4 x5 x6 x7 x8 x9 h.1 h.2.1 h.2.2.1 h.2.2.2.1 h.2.2.2.2.1 h.2.2.2.2.2.1 h.2.2.2.2.2.2.1 h.2.2.2.2.2.2.2.1 h.2.2.2.2.2.2.2.2.1 h.2.2.2.2.2.2.2.2.2.1 h.2.2.2.2.2.2.2.2.2.2
theorem el15_9 {a0 a1 a2 a3 a4 a5 a6 a7 a8 a9 a10 a11 a12 a13 a14 : Type} {p0 p1 p2 p3 p4 p5 p6 p7 p8 : a0 → a1 → a2 → a3 → a4 → a5 → a6 → a7 → a8 → a9 → a10 → a11 → a12 → a13 → a14 → Prop} {G : Prop} (h : ∃ x0 x1 x2 x3 x4 x5 x6 x7 x8 x9 x10 x11 x12 x13 x14, p0 x0 x1 x2 x3 x4 x5 x6 x7 x8 x9 x10 x11 x12 x13 x14 ∧ p1 x0 x1 x2 x3 x4 x5 x6 x7 x8 x9 x10 x11 x12 x13 x14 ∧ p2 x0 x1 x2 x3 x4 x5 x6 x7 x8 x9 x10 x11 x12 x13 x14 ∧ p3 x0 x1 x2 x3 x4 x5 x6 x7 x8 x9 x10 x11 x12 x13 x14 ∧ p4 x0 x1 x2 x3 x4 x5 x6 x7 x8 x9 x10 x11 x12 x13 x14 ∧ p5 x0 x1 x2 x3 x4 x5 x6 x7 x8 x9 x10 x11 x12 x13 x14 ∧ p6 x0 x1 x2 x3 x4 x5 x6 x7 x8 x9 x10 x11 x12 x13 x14 ∧ p7 x0 x1 x2 x3 x4 x5 x6 x7 x8 x9 x10 x11 x12 x13 x14 ∧ p8 x0 x1 x2 x3 x4 x5 x6 x7 x8 x9 x10 x11 x12 x13 x14) (k : ∀ x0 x1 x2 x3 x4 x5 x6 x7 x8 x9 x10 x11 x12 x13 x14, p0 x0 x1 x2 x3 x4 x5 x6 x7 x8 x9 x10 x11 x12 x13 x14 → p1 x0 x1 x2 x3 x4 x5 x6 x7 x8 x9 x10 x11 x12 x13 x14 → p2 x0 x1 x2 x3 x4 x5 x6 x7 x8 x9 x10 x11 x12 x13 x14 → p3 x0 x1 x2 x3 x4 x5 x6 x7 x8 x9 x10 x11 x12 x13 x14 → p4 x0 x1 x2 x3 x4 x5 x6 x7 x8 x9 x10 x11 x12 x13 x14 → p5 x0 x1 x2 x3 x4 x5 x6 x7 x8 x9 x10 x11 x12 x13 x14 → p6 x0 x1 x2 x3 x4 x5 x6 x7 x8 x9 x10 x11 x12 x13 x14 → p7 x0 x1 x2 x3 x4 x5 x6 x7 x8 x9 x10 x11 x12 x13 x14 → p8 x0 x1 x2 x3 x4 x5 x6 x7 x8 x9 x10 x11 x12 x13 x14 → G) : G := Exists.elim h fun x0 h => Exists.elim h fun x1 h => Exists.elim h fun x2 h => Exists.elim h fun x3 h => Exists.elim h fun x4 h => Exists.elim h fun x5 h => Exists.elim h fun x6 h => Exists.elim h fun x7 h => Exists.elim h fun x8 h => Exists.elim h fun x9 h => Exists.elim h fun x10 h => Exists.elim h fun x11 h => Exists.elim h fun x12 h => Exists.elim h fun x13 h => Exists.elim h fun x14 h => k x0 x1 x2 x3 x4 x5 x6 x7 x8 x9 x10 x11 x12 x13 x14 h.1 h.2.1 h.2.2.1 h.2.2.2.1 h.2.2.2.2.1 h.2.2.2.2.2.1 h.2.2.2.2.2.2.1 h.2.2.2.2.2.2.2.1 h.2.2.2.2.2.2.2.2
theorem el1_1 {a0 : Type} {p0 : a0 → Prop} {G : Prop} (h : ∃ x0, p0 x0) (k : ∀ x0, p0 x0 → G) : G := Exists.elim h fun x0 h => k x0 h
theorem el1_2 {a0 : Type} {p0 p1 : a0 → Prop} {G : Prop} (h : ∃ x0, p0 x0 ∧ p1 x0) (k : ∀ x0, p0 x0 → p1 x0 → G) : G := Exists.elim h fun x0 h => k x0 h.1 h.2
theorem el1_3 {a0 : Type} {p0 p1 p2 : a0 → Prop} {G : Prop} (h : ∃ x0, p0 x0 ∧ p1 x0 ∧ p2 x0) (k : ∀ x0, p0 x0 → p1 x0 → p2 x0 → G) : G := Exists.elim h fun x0 h => k x0 h.1 h.2.1 h.2.2
theorem el1_4 {a0 : Type} {p0 p1 p2 p3 : a0 → Prop} {G : Prop} (h : ∃ x0, p0 x0 ∧ p1 x0 ∧ p2 x0 ∧ p3 x0) (k : ∀ x0, p0 x0 → p1 x0 → p2 x0 → p3 x0 → G) : G := Exists.elim h fun x0 h => k x0 h.1 h.2.1 h.2.2.1 h.2.2.2
theorem el2_2 {a0 a1 : Type} {p0 p1 : a0 → a1 → Prop} {G : Prop} (h : ∃ x0 x1, p0 x0 x1 ∧ p1 x0 x1) (k : ∀ x0 x1, p0 x0 x1 → p1 x0 x1 → G) : G := Exists.elim h fun x0 h => Exists.elim h fun x1 h => k x0 x1 h.1 h.2
theorem el2_3 {a0 a1 : Type} {p0 p1 p2 : a0 → a1 → Prop} {G : Prop} (h : ∃ x0 x1, p0 x0 x1 ∧ p1 x0 x1 ∧ p2 x0 x1) (k : ∀ x0 x1, p0 x0 x1 → p1 x0 x1 → p2 x0 x1 → G) : G := Exists.elim h fun x0 h => Exists.elim h fun x1 h => k x0 x1 h.1 h.2.1 h.2.2
theorem el2_4 {a0 a1 : Type} {p0 p1 p2 p3 : a0 → a1 → Prop} {G : Prop} (h : ∃ x0 x1, p0 x0 x1 ∧ p1 x0 x1 ∧ p2 x0 x1 ∧ p3 x0 x1) (k : ∀ x0 x1, p0 x0 x1 → p1 x0 x1 → p2 x0 x1 → p3 x0 x1 → G) : G := Exists.elim h fun x0 h => Exists.elim h fun x1 h => k x0 x1 h.1 h.2.1 h.2.2.1 h.2.2.2
theorem el2_5 {a0 a1 : Type} {p0 p1 p2 p3 p4 : a0 → a1 → Prop} {G : Prop} (h : ∃ x0 x1, p0 x0 x1 ∧ p1 x0 x1 ∧ p2 x0 x1 ∧ p3 x0 x1 ∧ p4 x0 x1) (k : ∀ x0 x1, p0 x0 x1 → p1 x0 x1 → p2 x0 x1 → p3 x0 x1 → p4 x0 x1 → G) : G := Exists.elim h fun x0 h => Exists.elim h fun x1 h => k x0 x1 h.1 h.2.1 h.2.2.1 h.2.2.2.1 h.2.2.2.2
theorem el2_7 {a0 a1 : Type} {p0 p1 p2 p3 p4 p5 p6 : a0 → a1 → Prop} {G : Prop} (h : ∃ x0 x1, p0 x0 x1 ∧ p1 x0 x1 ∧ p2 x0 x1 ∧ p3 x0 x1 ∧ p4 x0 x1 ∧ p5 x0 x1 ∧ p6 x0 x1) (k : ∀ x0 x1, p0 x0 x1 → p1 x0 x1 → p2 x0 x1 → p3 x0 x1 → p4 x0 x1 → p5 x0 x1 → p6 x0 x1 → G) : G := Exists.elim h fun x0 h => Exists.elim h fun x1 h => k x0 x1 h.1 h.2.1 h.2.2.1 h.2.2.2.1 h.2.2.2.2.1 h.2.2.2.2.2.1 h.2.2.2.2.2.2
theorem el3_2 {a0 a1 a2 : Type} {p0 p1 : a0 → a1 → a2 → Prop} {G : Prop} (h : ∃ x0 x1 x2, p0 x0 x1 x2 ∧ p1 x0 x1 x2) (k : ∀ x0 x1 x2, p0 x0 x1 x2 → p1 x0 x1 x2 → G) : G := Exists.elim h fun x0 h => Exists.elim h fun x1 h => Exists.elim h fun x2 h => k x0 x1 x2 h.1 h.2
theorem el3_3 {a0 a1 a2 : Type} {p0 p1 p2 : a0 → a1 → a2 → Prop} {G : Prop} (h : ∃ x0 x1 x2, p0 x0 x1 x2 ∧ p1 x0 x1 x2 ∧ p2 x0 x1 x2) (k : ∀ x0 x1 x2, p0 x0 x1 x2 → p1 x0 x1 x2 → p2 x0 x1 x2 → G) : G := Exists.elim h fun x0 h => Exists.elim h fun x1 h => Exists.elim h fun x2 h => k x0 x1 x2 h.1 h.2.1 h.2.2
theorem el3_4 {a0 a1 a2 : Type} {p0 p1 p2 p3 : a0 → a1 → a2 → Prop} {G : Prop} (h : ∃ x0 x1 x2, p0 x0 x1 x2 ∧ p1 x0 x1 x2 ∧ p2 x0 x1 x2 ∧ p3 x0 x1 x2) (k : ∀ x0 x1 x2, p0 x0 x1 x2 → p1 x0 x1 x2 → p2 x0 x1 x2 → p3 x0 x1 x2 → G) : G := Exists.elim h fun x0 h => Exists.elim h fun x1 h => Exists.elim h fun x2 h => k x0 x1 x2 h.1 h.2.1 h.2.2.1 h.2.2.2
theorem el3_5 {a0 a1 a2 : Type} {p0 p1 p2 p3 p4 : a0 → a1 → a2 → Prop} {G : Prop} (h : ∃ x0 x1 x2, p0 x0 x1 x2 ∧ p1 x0 x1 x2 ∧ p2 x0 x1 x2 ∧ p3 x0 x1 x2 ∧ p4 x0 x1 x2) (k : ∀ x0 x1 x2, p0 x0 x1 x2 → p1 x0 x1 x2 → p2 x0 x1 x2 → p3 x0 x1 x2 → p4 x0 x1 x2 → G) : G := Exists.elim h fun x0 h => Exists.elim h fun x1 h => Exists.elim h fun x2 h => k x0 x1 x2 h.1 h.2.1 h.2.2.1 h.2.2.2.1 h.2.2.2.2
theorem el3_6 {a0 a1 a2 : Type} {p0 p1 p2 p3 p4 p5 : a0 → a1 → a2 → Prop} {G : Prop} (h : ∃ x0 x1 x2, p0 x0 x1 x2 ∧ p1 x0 x1 x2 ∧ p2 x0 x1 x2 ∧ p3 x0 x1 x2 ∧ p4 x0 x1 x2 ∧ p5 x0 x1 x2) (k : ∀ x0 x1 x2, p0 x0 x1 x2 → p1 x0 x1 x2 → p2 x0 x1 x2 → p3 x0 x1 x2 → p4 x0 x1 x2 → p5 x0 x1 x2 → G) : G := Exists.elim h fun x0 h => Exists.elim h fun x1 h => Exists.elim h fun x2 h => k x0 x1 x2 h.1 h.2.1 h.2.2.1 h.2.2.2.1 h.2.2.2.2.1 h.2.2.2.2.2
theorem el4_2 {a0 a1 a2 a3 : Type} {p0 p1 : a0 → a1 → a2 → a3 → Prop} {G : Prop} (h : ∃ x0 x1 x2 x3, p0 x0 x1 x2 x3 ∧ p1 x0 x1 x2 x3) (k : ∀ x0 x1 x2 x3, p0 x0 x1 x2 x3 → p1 x0 x1 x2 x3 → G) : G := Exists.elim h fun x0 h => Exists.elim h fun x1 h => Exists.elim h fun x2 h => Exists.elim h fun x3 h => k x0 x1 x2 x3 h.1 h.2
theorem el4_3 {a0 a1 a2 a3 : Type} {p0 p1 p2 : a0 → a1 → a2 → a3 → Prop} {G : Prop} (h : ∃ x0 x1 x2 x3, p0 x0 x1 x2 x3 ∧ p1 x0 x1 x2 x3 ∧ p2 x0 x1 x2 x3) (k : ∀ x0 x1 x2 x3, p0 x0 x1 x2 x3 → p1 x0 x1 x2 x3 → p2 x0 x1 x2 x3 → G) : G := Exists.elim h fun x0 h => Exists.elim h fun x1 h => Exists.elim h fun x2 h => Exists.elim h fun x3 h => k x0 x1 x2 x3 h.1 h.2.1 h.2.2
theorem el4_4 {a0 a1 a2 a3 : Type} {p0 p1 p2 p3 : a0 → a1 → a2 → a3 → Prop} {G : Prop} (h : ∃ x0 x1 x2 x3, p0 x0 x1 x2 x3 ∧ p1 x0 x1 x2 x3 ∧ p2 x0 x1 x2 x3 ∧ p3 x0 x1 x2 x3) (k : ∀ x0 x1 x2 x3, p0 x0 x1 x2 x3 → p1 x0 x1 x2 x3 → p2 x0 x1 x2 x3 → p3 x0 x1 x2 x3 → G) : G := Exists.elim h fun x0 h => Exists.elim h fun x1 h => Exists.elim h fun x2 h => Exists.elim h fun x3 h => k x0 x1 x2 x3 h.1 h.2.1 h.2.2.1 h.2.2.2
theorem el4_5 {a0 a1 a2 a3 : Type} {p0 p1 p2 p3 p4 : a0 → a1 → a2 → a3 → Prop} {G : Prop} (h : ∃ x0 x1 x2 x3, p0 x0 x1 x2 x3 ∧ p1 x0 x1 x2 x3 ∧ p2 x0 x1 x2 x3 ∧ p3 x0 x1 x2 x3 ∧ p4 x0 x1 x2 x3) (k : ∀ x0 x1 x2 x3, p0 x0 x1 x2 x3 → p1 x0 x1 x2 x3 → p2 x0 x1 x2 x3 → p3 x0 x1 x2 x3 → p4 x0 x1 x2 x3 → G) : G := Exists.elim h fun x0 h => Exists.elim h fun x1 h => Exists.elim h fun x2 h => Exists.elim h fun x3 h => k x0 x1 x2 x3 h.1 h.2.1 h.2.2.1 h.2.2.2.1 h.2.2.2.2
theorem el4_6 {a0 a1 a2 a3 : Type} {p0 p1 p2 p3 p4 p5 : a0 → a1 → a2 → a3 → Prop} {G : Prop} (h : ∃ x0 x1 x2 x3, p0 x0 x1 x2 x3 ∧ p1 x0 x1 x2 x3 ∧ p2 x0 x1 x2 x3 ∧ p3 x0 x1 x2 x3 ∧ p4 x0 x1 x2 x3 ∧ p5 x0 x1 x2 x3) (k : ∀ x0 x1 x2 x3, p0 x0 x1 x2 x3 → p1 x0 x1 x2 x3 → p2 x0 x1 x2 x3 → p3 x0 x1 x2 x3 → p4 x0 x1 x2 x3 → p5 x0 x1 x2 x3 → G) : G := Exists.elim h fun x0 h => Exists.elim h fun x1 h => Exists.elim h fun x2 h => Exists.elim h fun x3 h => k x0 x1 x2 x3 h.1 h.2.1 h.2.2.1 h.2.2.2.1 h.2.2.2.2.1 h.2.2.2.2.2
theorem el4_7 {a0 a1 a2 a3 : Type} {p0 p1 p2 p3 p4 p5 p6 : a0 → a1 → a2 → a3 → Prop} {G : Prop} (h : ∃ x0 x1 x2 x3, p0 x0 x1 x2 x3 ∧ p1 x0 x1 x2 x3 ∧ p2 x0 x1 x2 x3 ∧ p3 x0 x1 x2 x3 ∧ p4 x0 x1 x2 x3 ∧ p5 x0 x1 x2 x3 ∧ p6 x0 x1 x2 x3) (k : ∀ x0 x1 x2 x3, p0 x0 x1 x2 x3 → p1 x0 x1 x2 x3 → p2 x0 x1 x2 x3 → p3 x0 x1 x2 x3 → p4 x0 x1 x2 x3 → p5 x0 x1 x2 x3 → p6 x0 x1 x2 x3 → G) : G := Exists.elim h fun x0 h => Exists.elim h fun x1 h => Exists.elim h fun x2 h => Exists.elim h fun x3 h => k x0 x1 x2 x3 h.1 h.2.1 h.2.2.1 h.2.2.2.1 h.2.2.2.2.1 h.2.2.2.2.2.1 h.2.2.2.2.2.2
theorem el5_2 {a0 a1 a2 a3 a4 : Type} {p0 p1 : a0 → a1 → a2 → a3 → a4 → Prop} {G : Prop} (h : ∃ x0 x1 x2 x3 x4, p0 x0 x1 x2 x3 x4 ∧ p1 x0 x1 x2 x3 x4) (k : ∀ x0 x1 x2 x3 x4, p0 x0 x1 x2 x3 x4 → p1 x0 x1 x2 x3 x4 → G) : G := Exists.elim h fun x0 h => Exists.elim h fun x1 h => Exists.elim h fun x2 h => Exists.elim h fun x3 h => Exists.elim h fun x4 h => k x0 x1 x2 x3 x4 h.1 h.2
theorem el5_4 {a0 a1 a2 a3 a4 : Type} {p0 p1 p2 p3 : a0 → a1 → a2 → a3 → a4 → Prop} {G : Prop} (h : ∃ x0 x1 x2 x3 x4, p0 x0 x1 x2 x3 x4 ∧ p1 x0 x1 x2 x3 x4 ∧ p2 x0 x1 x2 x3 x4 ∧ p3 x0 x1 x2 x3 x4) (k : ∀ x0 x1 x2 x3 x4, p0 x0 x1 x2 x3 x4 → p1 x0 x1 x2 x3 x4 → p2 x0 x1 x2 x3 x4 → p3 x0 x1 x2 x3 x4 → G) : G := Exists.elim h fun x0 h => Exists.elim h fun x1 h => Exists.elim h fun x2 h => Exists.elim h fun x3 h => Exists.elim h fun x4 h => k x0 x1 x2 x3 x4 h.1 h.2.1 h.2.2.1 h.2.2.2
theorem el5_5 {a0 a1 a2 a3 a4 : Type} {p0 p1 p2 p3 p4 : a0 → a1 → a2 → a3 → a4 → Prop} {G : Prop} (h : ∃ x0 x1 x2 x3 x4, p0 x0 x1 x2 x3 x4 ∧ p1 x0 x1 x2 x3 x4 ∧ p2 x0 x1 x2 x3 x4 ∧ p3 x0 x1 x2 x3 x4 ∧ p4 x0 x1 x2 x3 x4) (k : ∀ x0 x1 x2 x3 x4, p0 x0 x1 x2 x3 x4 → p1 x0 x1 x2 x3 x4 → p2 x0 x1 x2 x3 x4 → p3 x0 x1 x2 x3 x4 → p4 x0 x1 x2 x3 x4 → G) : G := Exists.elim h fun x0 h => Exists.elim h fun x1 h => Exists.elim h fun x2 h => Exists.elim h fun x3 h => Exists.elim h fun x4 h => k x0 x1 x2 x3 x4 h.1 h.2.1 h.2.2.1 h.2.2.2.1 h.2.2.2.2
theorem el5_9 {a0 a1 a2 a3 a4 : Type} {p0 p1 p2 p3 p4 p5 p6 p7 p8 : a0 → a1 → a2 → a3 → a4 → Prop} {G : Prop} (h : ∃ x0 x1 x2 x3 x4, p0 x0 x1 x2 x3 x4 ∧ p1 x0 x1 x2 x3 x4 ∧ p2 x0 x1 x2 x3 x4 ∧ p3 x0 x1 x2 x3 x4 ∧ p4 x0 x1 x2 x3 x4 ∧ p5 x0 x1 x2 x3 x4 ∧ p6 x0 x1 x2 x3 x4 ∧ p7 x0 x1 x2 x3 x4 ∧ p8 x0 x1 x2 x3 x4) (k : ∀ x0 x1 x2 x3 x4, p0 x0 x1 x2 x3 x4 → p1 x0 x1 x2 x3 x4 → p2 x0 x1 x2 x3 x4 → p3 x0 x1 x2 x3 x4 → p4 x0 x1 x2 x3 x4 → p5 x0 x1 x2 x3 x4 → p6 x0 x1 x2 x3 x4 → p7 x0 x1 x2 x3 x4 → p8 x0 x1 x2 x3 x4 → G) : G := Exists.elim h fun x0 h => Exists.elim h fun x1 h => Exists.elim h fun x2 h => Exists.elim h fun x3 h => Exists.elim h fun x4 h => k x0 x1 x2 x3 x4 h.1 h.2.1 h.2.2.1 h.2.2.2.1 h.2.2.2.2.1 h.2.2.2.2.2.1 h.2.2.2.2.2.2.1 h.2.2.2.2.2.2.2.1 h.2.2.2.2.2.2.2.2
theorem el6_5 {a0 a1 a2 a3 a4 a5 : Type} {p0 p1 p2 p3 p4 : a0 → a1 → a2 → a3 → a4 → a5 → Prop} {G : Prop} (h : ∃ x0 x1 x2 x3 x4 x5, p0 x0 x1 x2 x3 x4 x5 ∧ p1 x0 x1 x2 x3 x4 x5 ∧ p2 x0 x1 x2 x3 x4 x5 ∧ p3 x0 x1 x2 x3 x4 x5 ∧ p4 x0 x1 x2 x3 x4 x5) (k : ∀ x0 x1 x2 x3 x4 x5, p0 x0 x1 x2 x3 x4 x5 → p1 x0 x1 x2 x3 x4 x5 → p2 x0 x1 x2 x3 x4 x5 → p3 x0 x1 x2 x3 x4 x5 → p4 x0 x1 x2 x3 x4 x5 → G) : G := Exists.elim h fun x0 h => Exists.elim h fun x1 h => Exists.elim h fun x2 h => Exists.elim h fun x3 h => Exists.elim h fun x4 h => Exists.elim h fun x5 h => k x0 x1 x2 x3 x4 x5 h.1 h.2.1 h.2.2.1 h.2.2.2.1 h.2.2.2.2
theorem el6_7 {a0 a1 a2 a3 a4 a5 : Type} {p0 p1 p2 p3 p4 p5 p6 : a0 → a1 → a2 → a3 → a4 → a5 → Prop} {G : Prop} (h : ∃ x0 x1 x2 x3 x4 x5, p0 x0 x1 x2 x3 x4 x5 ∧ p1 x0 x1 x2 x3 x4 x5 ∧ p2 x0 x1 x2 x3 x4 x5 ∧ p3 x0 x1 x2 x3 x4 x5 ∧ p4 x0 x1 x2 x3 x4 x5 ∧ p5 x0 x1 x2 x3 x4 x5 ∧ p6 x0 x1 x2 x3 x4 x5) (k : ∀ x0 x1 x2 x3 x4 x5, p0 x0 x1 x2 x3 x4 x5 → p1 x0 x1 x2 x3 x4 x5 → p2 x0 x1 x2 x3 x4 x5 → p3 x0 x1 x2 x3 x4 x5 → p4 x0 x1 x2 x3 x4 x5 → p5 x0 x1 x2 x3 x4 x5 → p6 x0 x1 x2 x3 x4 x5 → G) : G := Exists.elim h fun x0 h => Exists.elim h fun x1 h => Exists.elim h fun x2 h => Exists.elim h fun x3 h => Exists.elim h fun x4 h => Exists.elim h fun x5 h => k x0 x1 x2 x3 x4 x5 h.1 h.2.1 h.2.2.1 h.2.2.2.1 h.2.2.2.2.1 h.2.2.2.2.2.1 h.2.2.2.2.2.2
theorem el6_8 {a0 a1 a2 a3 a4 a5 : Type} {p0 p1 p2 p3 p4 p5 p6 p7 : a0 → a1 → a2 → a3 → a4 → a5 → Prop} {G : Prop} (h : ∃ x0 x1 x2 x3 x4 x5, p0 x0 x1 x2 x3 x4 x5 ∧ p1 x0 x1 x2 x3 x4 x5 ∧ p2 x0 x1 x2 x3 x4 x5 ∧ p3 x0 x1 x2 x3 x4 x5 ∧ p4 x0 x1 x2 x3 x4 x5 ∧ p5 x0 x1 x2 x3 x4 x5 ∧ p6 x0 x1 x2 x3 x4 x5 ∧ p7 x0 x1 x2 x3 x4 x5) (k : ∀ x0 x1 x2 x3 x4 x5, p0 x0 x1 x2 x3 x4 x5 → p1 x0 x1 x2 x3 x4 x5 → p2 x0 x1 x2 x3 x4 x5 → p3 x0 x1 x2 x3 x4 x5 → p4 x0 x1 x2 x3 x4 x5 → p5 x0 x1 x2 x3 x4 x5 → p6 x0 x1 x2 x3 x4 x5 → p7 x0 x1 x2 x3 x4 x5 → G) : G := Exists.elim h fun x0 h => Exists.elim h fun x1 h => Exists.elim h fun x2 h => Exists.elim h fun x3 h => Exists.elim h fun x4 h => Exists.elim h fun x5 h => k x0 x1 x2 x3 x4 x5 h.1 h.2.1 h.2.2.1 h.2.2.2.1 h.2.2.2.2.1 h.2.2.2.2.2.1 h.2.2.2.2.2.2.1 h.2.2.2.2.2.2.2
theorem el7_12 {a0 a1 a2 a3 a4 a5 a6 : Type} {p0 p1 p2 p3 p4 p5 p6 p7 p8 p9 p10 p11 : a0 → a1 → a2 → a3 → a4 → a5 → a6 → Prop} {G : Prop} (h : ∃ x0 x1 x2 x3 x4 x5 x6, p0 x0 x1 x2 x3 x4 x5 x6 ∧ p1 x0 x1 x2 x3 x4 x5 x6 ∧ p2 x0 x1 x2 x3 x4 x5 x6 ∧ p3 x0 x1 x2 x3 x4 x5 x6 ∧ p4 x0 x1 x2 x3 x4 x5 x6 ∧ p5 x0 x1 x2 x3 x4 x5 x6 ∧ p6 x0 x1 x2 x3 x4 x5 x6 ∧ p7 x0 x1 x2 x3 x4 x5 x6 ∧ p8 x0 x1 x2 x3 x4 x5 x6 ∧ p9 x0 x1 x2 x3 x4 x5 x6 ∧ p10 x0 x1 x2 x3 x4 x5 x6 ∧ p11 x0 x1 x2 x3 x4 x5 x6) (k : ∀ x0 x1 x2 x3 x4 x5 x6, p0 x0 x1 x2 x3 x4 x5 x6 → p1 x0 x1 x2 x3 x4 x5 x6 → p2 x0 x1 x2 x3 x4 x5 x6 → p3 x0 x1 x2 x3 x4 x5 x6 → p4 x0 x1 x2 x3 x4 x5 x6 → p5 x0 x1 x2 x3 x4 x5 x6 → p6 x0 x1 x2 x3 x4 x5 x6 → p7 x0 x1 x2 x3 x4 x5 x6 → p8 x0 x1 x2 x3 x4 x5 x6 → p9 x0 x1 x2 x3 x4 x5 x6 → p10 x0 x1 x2 x3 x4 x5 x6 → p11 x0 x1 x2 x3 x4 x5 x6 → G) : G := Exists.elim h fun x0 h => Exists.elim h fun x1 h => Exists.elim h fun x2 h => Exists.elim h fun x3 h => Exists.elim h fun x4 h => Exists.elim h fun x5 h => Exists.elim h fun x6 h => k x0 x1 x2 x3 x4 x5 x6 h.1 h.2.1 h.2.2.1 h.2.2.2.1 h.2.2.2.2.1 h.2.2.2.2.2.1 h.2.2.2.2.2.2.1 h.2.2.2.2.2.2.2.1 h.2.2.2.2.2.2.2.2.1 h.2.2.2.2.2.2.2.2.2.1 h.2.2.2.2.2.2.2.2.2.2.1 h.2.2.2.2.2.2.2.2.2.2.2
theorem el7_6 {a0 a1 a2 a3 a4 a5 a6 : Type} {p0 p1 p2 p3 p4 p5 : a0 → a1 → a2 → a3 → a4 → a5 → a6 → Prop} {G : Prop} (h : ∃ x0 x1 x2 x3 x4 x5 x6, p0 x0 x1 x2 x3 x4 x5 x6 ∧ p1 x0 x1 x2 x3 x4 x5 x6 ∧ p2 x0 x1 x2 x3 x4 x5 x6 ∧ p3 x0 x1 x2 x3 x4 x5 x6 ∧ p4 x0 x1 x2 x3 x4 x5 x6 ∧ p5 x0 x1 x2 x3 x4 x5 x6) (k : ∀ x0 x1 x2 x3 x4 x5 x6, p0 x0 x1 x2 x3 x4 x5 x6 → p1 x0 x1 x2 x3 x4 x5 x6 → p2 x0 x1 x2 x3 x4 x5 x6 → p3 x0 x1 x2 x3 x4 x5 x6 → p4 x0 x1 x2 x3 x4 x5 x6 → p5 x0 x1 x2 x3 x4 x5 x6 → G) : G := Exists.elim h fun x0 h => Exists.elim h fun x1 h => Exists.elim h fun x2 h => Exists.elim h fun x3 h => Exists.elim h fun x4 h => Exists.elim h fun x5 h => Exists.elim h fun x6 h => k x0 x1 x2 x3 x4 x5 x6 h.1 h.2.1 h.2.2.1 h.2.2.2.1 h.2.2.2.2.1 h.2.2.2.2.2
theorem el7_8 {a0 a1 a2 a3 a4 a5 a6 : Type} {p0 p1 p2 p3 p4 p5 p6 p7 : a0 → a1 → a2 → a3 → a4 → a5 → a6 → Prop} {G : Prop} (h : ∃ x0 x1 x2 x3 x4 x5 x6, p0 x0 x1 x2 x3 x4 x5 x6 ∧ p1 x0 x1 x2 x3 x4 x5 x6 ∧ p2 x0 x1 x2 x3 x4 x5 x6 ∧ p3 x0 x1 x2 x3 x4 x5 x6 ∧ p4 x0 x1 x2 x3 x4 x5 x6 ∧ p5 x0 x1 x2 x3 x4 x5 x6 ∧ p6 x0 x1 x2 x3 x4 x5 x6 ∧ p7 x0 x1 x2 x3 x4 x5 x6) (k : ∀ x0 x1 x2 x3 x4 x5 x6, p0 x0 x1 x2 x3 x4 x5 x6 → p1 x0 x1 x2 x3 x4 x5 x6 → p2 x0 x1 x2 x3 x4 x5 x6 → p3 x0 x1 x2 x3 x4 x5 x6 → p4 x0 x1 x2 x3 x4 x5 x6 → p5 x0 x1 x2 x3 x4 x5 x6 → p6 x0 x1 x2 x3 x4 x5 x6 → p7 x0 x1 x2 x3 x4 x5 x6 → G) : G := Exists.elim h fun x0 h => Exists.elim h fun x1 h => Exists.elim h fun x2 h => Exists.elim h fun x3 h => Exists.elim h fun x4 h => Exists.elim h fun x5 h => Exists.elim h fun x6 h => k x0 x1 x2 x3 x4 x5 x6 h.1 h.2.1 h.2.2.1 h.2.2.2.1 h.2.2.2.2.1 h.2.2.2.2.2.1 h.2.2.2.2.2.2.1 h.2.2.2.2.2.2.2
theorem el8_11 {a0 a1 a2 a3 a4 a5 a6 a7 : Type} {p0 p1 p2 p3 p4 p5 p6 p7 p8 p9 p10 : a0 → a1 → a2 → a3 → a4 → a5 → a6 → a7 → Prop} {G : Prop} (h : ∃ x0 x1 x2 x3 x4 x5 x6 x7, p0 x0 x1 x2 x3 x4 x5 x6 x7 ∧ p1 x0 x1 x2 x3 x4 x5 x6 x7 ∧ p2 x0 x1 x2 x3 x4 x5 x6 x7 ∧ p3 x0 x1 x2 x3 x4 x5 x6 x7 ∧ p4 x0 x1 x2 x3 x4 x5 x6 x7 ∧ p5 x0 x1 x2 x3 x4 x5 x6 x7 ∧ p6 x0 x1 x2 x3 x4 x5 x6 x7 ∧ p7 x0 x1 x2 x3 x4 x5 x6 x7 ∧ p8 x0 x1 x2 x3 x4 x5 x6 x7 ∧ p9 x0 x1 x2 x3 x4 x5 x6 x7 ∧ p10 x0 x1 x2 x3 x4 x5 x6 x7) (k : ∀ x0 x1 x2 x3 x4 x5 x6 x7, p0 x0 x1 x2 x3 x4 x5 x6 x7 → p1 x0 x1 x2 x3 x4 x5 x6 x7 → p2 x0 x1 x2 x3 x4 x5 x6 x7 → p3 x0 x1 x2 x3 x4 x5 x6 x7 → p4 x0 x1 x2 x3 x4 x5 x6 x7 → p5 x0 x1 x2 x3 x4 x5 x6 x7 → p6 x0 x1 x2 x3 x4 x5 x6 x7 → p7 x0 x1 x2 x3 x4 x5 x6 x7 → p8 x0 x1 x2 x3 x4 x5 x6 x7 → p9 x0 x1 x2 x3 x4 x5 x6 x7 → p10 x0 x1 x2 x3 x4 x5 x6 x7 → G) : G := Exists.elim h fun x0 h => Exists.elim h fun x1 h => Exists.elim h fun x2 h => Exists.elim h fun x3 h => Exists.elim h fun x4 h => Exists.elim h fun x5 h => Exists.elim h fun x6 h => Exists.elim h fun x7 h => k x0 x1 x2 x3 x4 x5 x6 x7 h.1 h.2.1 h.2.2.1 h.2.2.2.1 h.2.2.2.2.1 h.2.2.2.2.2.1 h.2.2.2.2.2.2.1 h.2.2.2.2.2.2.2.1 h.2.2.2.2.2.2.2.2.1 h.2.2.2.2.2.2.2.2.2.1 h.2.2.2.2.2.2.2.2.2.2
theorem el8_6 {a0 a1 a2 a3 a4 a5 a6 a7 : Type} {p0 p1 p2 p3 p4 p5 : a0 → a1 → a2 → a3 → a4 → a5 → a6 → a7 → Prop} {G : Prop} (h : ∃ x0 x1 x2 x3 x4 x5 x6 x7, p0 x0 x1 x2 x3 x4 x5 x6 x7 ∧ p1 x0 x1 x2 x3 x4 x5 x6 x7 ∧ p2 x0 x1 x2 x3 x4 x5 x6 x7 ∧ p3 x0 x1 x2 x3 x4 x5 x6 x7 ∧ p4 x0 x1 x2 x3 x4 x5 x6 x7 ∧ p5 x0 x1 x2 x3 x4 x5 x6 x7) (k : ∀ x0 x1 x2 x3 x4 x5 x6 x7, p0 x0 x1 x2 x3 x4 x5 x6 x7 → p1 x0 x1 x2 x3 x4 x5 x6 x7 → p2 x0 x1 x2 x3 x4 x5 x6 x7 → p3 x0 x1 x2 x3 x4 x5 x6 x7 → p4 x0 x1 x2 x3 x4 x5 x6 x7 → p5 x0 x1 x2 x3 x4 x5 x6 x7 → G) : G := Exists.elim h fun x0 h => Exists.elim h fun x1 h => Exists.elim h fun x2 h => Exists.elim h fun x3 h => Exists.elim h fun x4 h => Exists.elim h fun x5 h => Exists.elim h fun x6 h => Exists.elim h fun x7 h => k x0 x1 x2 x3 x4 x5 x6 x7 h.1 h.2.1 h.2.2.1 h.2.2.2.1 h.2.2.2.2.1 h.2.2.2.2.2
theorem el9_11 {a0 a1 a2 a3 a4 a5 a6 a7 a8 : Type} {p0 p1 p2 p3 p4 p5 p6 p7 p8 p9 p10 : a0 → a1 → a2 → a3 → a4 → a5 → a6 → a7 → a8 → Prop} {G : Prop} (h : ∃ x0 x1 x2 x3 x4 x5 x6 x7 x8, p0 x0 x1 x2 x3 x4 x5 x6 x7 x8 ∧ p1 x0 x1 x2 x3 x4 x5 x6 x7 x8 ∧ p2 x0 x1 x2 x3 x4 x5 x6 x7 x8 ∧ p3 x0 x1 x2 x3 x4 x5 x6 x7 x8 ∧ p4 x0 x1 x2 x3 x4 x5 x6 x7 x8 ∧ p5 x0 x1 x2 x3 x4 x5 x6 x7 x8 ∧ p6 x0 x1 x2 x3 x4 x5 x6 x7 x8 ∧ p7 x0 x1 x2 x3 x4 x5 x6 x7 x8 ∧ p8 x0 x1 x2 x3 x4 x5 x6 x7 x8 ∧ p9 x0 x1 x2 x3 x4 x5 x6 x7 x8 ∧ p10 x0 x1 x2 x3 x4 x5 x6 x7 x8) (k : ∀ x0 x1 x2 x3 x4 x5 x6 x7 x8, p0 x0 x1 x2 x3 x4 x5 x6 x7 x8 → p1 x0 x1 x2 x3 x4 x5 x6 x7 x8 → p2 x0 x1 x2 x3 x4 x5 x6 x7 x8 → p3 x0 x1 x2 x3 x4 x5 x6 x7 x8 → p4 x0 x1 x2 x3 x4 x5 x6 x7 x8 → p5 x0 x1 x2 x3 x4 x5 x6 x7 x8 → p6 x0 x1 x2 x3 x4 x5 x6 x7 x8 → p7 x0 x1 x2 x3 x4 x5 x6 x7 x8 → p8 x0 x1 x2 x3 x4 x5 x6 x7 x8 → p9 x0 x1 x2 x3 x4 x5 x6 x7 x8 → p10 x0 x1 x2 x3 x4 x5 x6 x7 x8 → G) : G := Exists.elim h fun x0 h => Exists.elim h fun x1 h => Exists.elim h fun x2 h => Exists.elim h fun x3 h => Exists.elim h fun x4 h => Exists.elim h fun x5 h => Exists.elim h fun x6 h => Exists.elim h fun x7 h => Exists.elim h fun x8 h => k x0 x1 x2 x3 x4 x5 x6 x7 x8 h.1 h.2.1 h.2.2.1 h.2.2.2.1 h.2.2.2.2.1 h.2.2.2.2.2.1 h.2.2.2.2.2.2.1 h.2.2.2.2.2.2.2.1 h.2.2.2.2.2.2.2.2.1 h.2.2.2.2.2.2.2.2.2.1 h.2.2.2.2.2.2.2.2.2.2
theorem el9_14 {a0 a1 a2 a3 a4 a5 a6 a7 a8 : Type} {p0 p1 p2 p3 p4 p5 p6 p7 p8 p9 p10 p11 p12 p13 : a0 → a1 → a2 → a3 → a4 → a5 → a6 → a7 → a8 → Prop} {G : Prop} (h : ∃ x0 x1 x2 x3 x4 x5 x6 x7 x8, p0 x0 x1 x2 x3 x4 x5 x6 x7 x8 ∧ p1 x0 x1 x2 x3 x4 x5 x6 x7 x8 ∧ p2 x0 x1 x2 x3 x4 x5 x6 x7 x8 ∧ p3 x0 x1 x2 x3 x4 x5 x6 x7 x8 ∧ p4 x0 x1 x2 x3 x4 x5 x6 x7 x8 ∧ p5 x0 x1 x2 x3 x4 x5 x6 x7 x8 ∧ p6 x0 x1 x2 x3 x4 x5 x6 x7 x8 ∧ p7 x0 x1 x2 x3 x4 x5 x6 x7 x8 ∧ p8 x0 x1 x2 x3 x4 x5 x6 x7 x8 ∧ p9 x0 x1 x2 x3 x4 x5 x6 x7 x8 ∧ p10 x0 x1 x2 x3 x4 x5 x6 x7 x8 ∧ p11 x0 x1 x2 x3 x4 x5 x6 x7 x8 ∧ p12 x0 x1 x2 x3 x4 x5 x6 x7 x8 ∧ p13 x0 x1 x2 x3 x4 x5 x6 x7 x8) (k : ∀ x0 x1 x2 x3 x4 x5 x6 x7 x8, p0 x0 x1 x2 x3 x4 x5 x6 x7 x8 → p1 x0 x1 x2 x3 x4 x5 x6 x7 x8 → p2 x0 x1 x2 x3 x4 x5 x6 x7 x8 → p3 x0 x1 x2 x3 x4 x5 x6 x7 x8 → p4 x0 x1 x2 x3 x4 x5 x6 x7 x8 → p5 x0 x1 x2 x3 x4 x5 x6 x7 x8 → p6 x0 x1 x2 x3 x4 x5 x6 x7 x8 → p7 x0 x1 x2 x3 x4 x5 x6 x7 x8 → p8 x0 x1 x2 x3 x4 x5 x6 x7 x8 → p9 x0 x1 x2 x3 x4 x5 x6 x7 x8 → p10 x0 x1 x2 x3 x4 x5 x6 x7 x8 → p11 x0 x1 x2 x3 x4 x5 x6 x7 x8 → p12 x0 x1 x2 x3 x4 x5 x6 x7 x8 → p13 x0 x1 x2 x3 x4 x5 x6 x7 x8 → G) : G := Exists.elim h fun x0 h => Exists.elim h fun x1 h => Exists.elim h fun x2 h => Exists.elim h fun x3 h => Exists.elim h fun x4 h => Exists.elim h fun x5 h => Exists.elim h fun x6 h => Exists.elim h fun x7 h => Exists.elim h fun x8 h => k x0 x1 x2 x3 x4 x5 x6 x7 x8 h.1 h.2.1 h.2.2.1 h.2.2.2.1 h.2.2.2.2.1 h.2.2.2.2.2.1 h.2.2.2.2.2.2.1 h.2.2.2.2.2.2.2.1 h.2.2.2.2.2.2.2.2.1 h.2.2.2.2.2.2.2.2.2.1 h.2.2.2.2.2.2.2.2.2.2.1 h.2.2.2.2.2.2.2.2.2.2.2.1 h.2.2.2.2.2.2.2.2.2.2.2.2.1 h.2.2.2.2.2.2.2.2.2.2.2.2.2
theorem el9_7 {a0 a1 a2 a3 a4 a5 a6 a7 a8 : Type} {p0 p1 p2 p3 p4 p5 p6 : a0 → a1 → a2 → a3 → a4 → a5 → a6 → a7 → a8 → Prop} {G : Prop} (h : ∃ x0 x1 x2 x3 x4 x5 x6 x7 x8, p0 x0 x1 x2 x3 x4 x5 x6 x7 x8 ∧ p1 x0 x1 x2 x3 x4 x5 x6 x7 x8 ∧ p2 x0 x1 x2 x3 x4 x5 x6 x7 x8 ∧ p3 x0 x1 x2 x3 x4 x5 x6 x7 x8 ∧ p4 x0 x1 x2 x3 x4 x5 x6 x7 x8 ∧ p5 x0 x1 x2 x3 x4 x5 x6 x7 x8 ∧ p6 x0 x1 x2 x3 x4 x5 x6 x7 x8) (k : ∀ x0 x1 x2 x3 x4 x5 x6 x7 x8, p0 x0 x1 x2 x3 x4 x5 x6 x7 x8 → p1 x0 x1 x2 x3 x4 x5 x6 x7 x8 → p2 x0 x1 x2 x3 x4 x5 x6 x7 x8 → p3 x0 x1 x2 x3 x4 x5 x6 x7 x8 → p4 x0 x1 x2 x3 x4 x5 x6 x7 x8 → p5 x0 x1 x2 x3 x4 x5 x6 x7 x8 → p6 x0 x1 x2 x3 x4 x5 x6 x7 x8 → G) : G := Exists.elim h fun x0 h => Exists.elim h fun x1 h => Exists.elim h fun x2 h => Exists.elim h fun x3 h => Exists.elim h fun x4 h => Exists.elim h fun x5 h => Exists.elim h fun x6 h => Exists.elim h fun x7 h => Exists.elim h fun x8 h => k x0 x1 x2 x3 x4 x5 x6 x7 x8 h.1 h.2.1 h.2.2.1 h.2.2.2.1 h.2.2.2.2.1 h.2.2.2.2.2.1 h.2.2.2.2.2.2
theorem el9_8 {a0 a1 a2 a3 a4 a5 a6 a7 a8 : Type} {p0 p1 p2 p3 p4 p5 p6 p7 : a0 → a1 → a2 → a3 → a4 → a5 → a6 → a7 → a8 → Prop} {G : Prop} (h : ∃ x0 x1 x2 x3 x4 x5 x6 x7 x8, p0 x0 x1 x2 x3 x4 x5 x6 x7 x8 ∧ p1 x0 x1 x2 x3 x4 x5 x6 x7 x8 ∧ p2 x0 x1 x2 x3 x4 x5 x6 x7 x8 ∧ p3 x0 x1 x2 x3 x4 x5 x6 x7 x8 ∧ p4 x0 x1 x2 x3 x4 x5 x6 x7 x8 ∧ p5 x0 x1 x2 x3 x4 x5 x6 x7 x8 ∧ p6 x0 x1 x2 x3 x4 x5 x6 x7 x8 ∧ p7 x0 x1 x2 x3 x4 x5 x6 x7 x8) (k : ∀ x0 x1 x2 x3 x4 x5 x6 x7 x8, p0 x0 x1 x2 x3 x4 x5 x6 x7 x8 → p1 x0 x1 x2 x3 x4 x5 x6 x7 x8 → p2 x0 x1 x2 x3 x4 x5 x6 x7 x8 → p3 x0 x1 x2 x3 x4 x5 x6 x7 x8 → p4 x0 x1 x2 x3 x4 x5 x6 x7 x8 → p5 x0 x1 x2 x3 x4 x5 x6 x7 x8 → p6 x0 x1 x2 x3 x4 x5 x6 x7 x8 → p7 x0 x1 x2 x3 x4 x5 x6 x7 x8 → G) : G := Exists.elim h fun x0 h => Exists.elim h fun x1 h => Exists.elim h fun x2 h => Exists.elim h fun x3 h => Exists.elim h fun x4 h => Exists.elim h fun x5 h => Exists.elim h fun x6 h => Exists.elim h fun x7 h => Exists.elim h fun x8 h => k x0 x1 x2 x3 x4 x5 x6 x7 x8 h.1 h.2.1 h.2.2.1 h.2.2.2.1 h.2.2.2.2.1 h.2.2.2.2.2.1 h.2.2.2.2.2.2.1 h.2.2.2.2.2.2.2
end --T_El
section --T_Hd
open PySem PySem.W PyProof.Rows
set_option maxRecDepth 1000000
noncomputable def cell (i : Nat) : Stmt := PySem.Challenge.pw_ok0135_01.main.body.getD i (.Global [] ⟨0, 0, 0, 0⟩)
noncomputable def bodyOf : Stmt → List Stmt
  | .FunctionDef _ _ b .. => b
  | .ClassDef _ _ _ b .. => b
  | _ => []
noncomputable def cls (i j : Nat) : Stmt := (bodyOf (cell i)).getD j (.Global [] ⟨0, 0, 0, 0⟩)
noncomputable def argsOf : Stmt → Arguments
  | .FunctionDef _ a .. => a
  | _ => ⟨[], [], none, [], [], none, []⟩
noncomputable def scopeOf : Stmt → Scope
  | .FunctionDef _ _ _ _ _ _ s .. => s
  | _ => default
/-- the defs, classes and constants of the text -/
noncomputable def hdV : Program := { PySem.Challenge.rw_ok0135_01.row.toRowW.1 with main := { PySem.Challenge.rw_ok0135_01.row.toRowW.1.main with body := [cell 1, cell 2, cell 3, cell 5, cell 6, cell 7, cell 8, cell 9, cell 10, cell 11, cell 13, cell 14, cell 15, cell 16, cell 17, cell 19, cell 20, cell 21, cell 22, cell 23, cell 24, cell 25] } }
/-- what stands when the text's top has run -/
noncomputable def hdK : Params → Frag := fun P => (
  (nat_lit 2, { cls := Value.none, data := Data.dict #[{ hash := PyData.keyHash P (Str.ofString "type.__subclasses__.Exception.0"), key := Value.str (Str.ofString "type.__subclasses__.Exception.0") (214 : Nat), val := Value.int (31) (0 : Nat) }, { hash := PyData.keyHash P (Str.ofString "type.__subclasses__.Exception.n"), key := Value.str (Str.ofString "type.__subclasses__.Exception.n") (215 : Nat), val := Value.int (1) (0 : Nat) }] (2 : Nat) }) ::
  (nat_lit 3, { cls := Value.type "dict", data := Data.dict #[{ hash := PyData.keyHash P (Str.ofString "__name__"), key := Value.str (Str.ofString "__name__") (165 : Nat), val := Value.str (Str.ofString "law_ok0135_01") (393 : Nat) }, { hash := PyData.keyHash P (Str.ofString "__doc__"), key := Value.str (Str.ofString "__doc__") (166 : Nat), val := Value.none }, { hash := PyData.keyHash P (Str.ofString "__package__"), key := Value.str (Str.ofString "__package__") (167 : Nat), val := Value.none }, { hash := PyData.keyHash P (Str.ofString "__loader__"), key := Value.str (Str.ofString "__loader__") (168 : Nat), val := Value.builtin "__main__.__loader__#opaque" }, { hash := PyData.keyHash P (Str.ofString "__spec__"), key := Value.str (Str.ofString "__spec__") (169 : Nat), val := Value.none }, { hash := PyData.keyHash P (Str.ofString "__annotations__"), key := Value.str (Str.ofString "__annotations__") (170 : Nat), val := Value.ref (6 : Nat) }, { hash := PyData.keyHash P (Str.ofString "__builtins__"), key := Value.str (Str.ofString "__builtins__") (171 : Nat), val := Value.ref (4 : Nat) }, { hash := PyData.keyHash P (Str.ofString "__file__"), key := Value.str (Str.ofString "__file__") (173 : Nat), val := Value.str (Str.ofString "/claim/cut.py") (172 : Nat) }, { hash := PyData.keyHash P (Str.ofString "__cached__"), key := Value.str (Str.ofString "__cached__") (174 : Nat), val := Value.none }, { hash := PyData.keyHash P (Str.ofString "PressError"), key := Value.str (Str.ofString "PressError") (217 : Nat), val := Value.ref (31 : Nat) }, { hash := PyData.keyHash P (Str.ofString "TableError"), key := Value.str (Str.ofString "TableError") (233 : Nat), val := Value.ref (44 : Nat) }, { hash := PyData.keyHash P (Str.ofString "CodeError"), key := Value.str (Str.ofString "CodeError") (249 : Nat), val := Value.ref (56 : Nat) }, { hash := PyData.keyHash P (Str.ofString "MOST_BITS_huffman_build"), key := Value.str (Str.ofString "MOST_BITS_huffman_build") (253 : Nat), val := Value.int (16) (252 : Nat) }, { hash := PyData.keyHash P (Str.ofString "NOBODY"), key := Value.str (Str.ofString "NOBODY") (256 : Nat), val := Value.int (-1) (255 : Nat) }, { hash := PyData.keyHash P (Str.ofString "merged"), key := Value.str (Str.ofString "merged") (267 : Nat), val := Value.ref (65 : Nat) }, { hash := PyData.keyHash P (Str.ofString "packed"), key := Value.str (Str.ofString "packed") (278 : Nat), val := Value.ref (72 : Nat) }, { hash := PyData.keyHash P (Str.ofString "by_worth"), key := Value.str (Str.ofString "by_worth") (284 : Nat), val := Value.ref (77 : Nat) }, { hash := PyData.keyHash P (Str.ofString "best_sizes"), key := Value.str (Str.ofString "best_sizes") (299 : Nat), val := Value.ref (84 : Nat) }, { hash := PyData.keyHash P (Str.ofString "table_of"), key := Value.str (Str.ofString "table_of") (305 : Nat), val := Value.ref (89 : Nat) }, { hash := PyData.keyHash P (Str.ofString "MOST_BITS_huffman"), key := Value.str (Str.ofString "MOST_BITS_huffman") (309 : Nat), val := Value.int (16) (308 : Nat) }, { hash := PyData.keyHash P (Str.ofString "MOST_SYMBOLS"), key := Value.str (Str.ofString "MOST_SYMBOLS") (311 : Nat), val := Value.int (256) (310 : Nat) }, { hash := PyData.keyHash P (Str.ofString "code_rows"), key := Value.str (Str.ofString "code_rows") (323 : Nat), val := Value.ref (96 : Nat) }, { hash := PyData.keyHash P (Str.ofString "check_told"), key := Value.str (Str.ofString "check_told") (333 : Nat), val := Value.ref (103 : Nat) }, { hash := PyData.keyHash P (Str.ofString "HuffTable"), key := Value.str (Str.ofString "HuffTable") (392 : Nat), val := Value.ref (134 : Nat) }, { hash := PyData.keyHash P (Str.ofString "_law_pool"), key := Value.str (Str.ofString "_law_pool") (404 : Nat), val := Value.ref (145 : Nat) }, { hash := PyData.keyHash P (Str.ofString "_law_take"), key := Value.str (Str.ofString "_law_take") (413 : Nat), val := Value.ref (152 : Nat) }, { hash := PyData.keyHash P (Str.ofString "_law_least"), key := Value.str (Str.ofString "_law_least") (419 : Nat), val := Value.ref (157 : Nat) }, { hash := PyData.keyHash P (Str.ofString "_law_coins"), key := Value.str (Str.ofString "_law_coins") (425 : Nat), val := Value.ref (162 : Nat) }, { hash := PyData.keyHash P (Str.ofString "_law_rows_right"), key := Value.str (Str.ofString "_law_rows_right") (431 : Nat), val := Value.ref (167 : Nat) }, { hash := PyData.keyHash P (Str.ofString "_law_told"), key := Value.str (Str.ofString "_law_told") (439 : Nat), val := Value.ref (174 : Nat) }, { hash := PyData.keyHash P (Str.ofString "law"), key := Value.str (Str.ofString "law") (445 : Nat), val := Value.ref (179 : Nat) }] (31 : Nat) }) ::
  (nat_lit 15, { cls := Value.type "tuple", data := Data.seq #[Value.type "Exception"] }) ::
  (nat_lit 22, { cls := Value.type "tuple", data := Data.seq #[] }) ::
  (nat_lit 24, { cls := Value.type "tuple", data := Data.seq #[Value.str (Str.ofString "self") (204 : Nat), Value.str (Str.ofString "message") (205 : Nat)] }) ::
  (nat_lit 25, { cls := Value.type "tuple", data := Data.seq #[] }) ::
  (nat_lit 27, { cls := Value.type "code", data := Data.fields #[Value.str (Str.ofString "__init__") (201 : Nat), Value.str (Str.ofString "PressError.__init__") (202 : Nat), Value.str (Str.ofString "/claim/cut.py") (203 : Nat), Value.int (4) (0 : Nat), Value.int (2) (0 : Nat), Value.int (0) (0 : Nat), Value.int (0) (0 : Nat), Value.int (3) (0 : Nat), Value.ref (22 : Nat), Value.bool true, Value.int (181) (0 : Nat), Value.ref (23 : Nat), Value.none, Value.ref (24 : Nat), Value.ref (25 : Nat), Value.ref (26 : Nat), Value.int (206) (0 : Nat), Value.int (4) (0 : Nat), Value.str (Str.ofString "/claim/cut.py") (207 : Nat)] }) ::
  (nat_lit 28, { cls := Value.type "function", data := Data.func { name := Str.ofString "__init__", qualname := Str.ofString "PressError.__init__", params := argsOf (cls (1 : Nat) (0 : Nat)), body := FuncBody.stmts (bodyOf (cls (1 : Nat) (0 : Nat))), scope := scopeOf (cls (1 : Nat) (0 : Nat)), globals := (3 : Nat), closure := [], defaults := Value.none, kwdefaults := Value.none, pyModule := Value.str (Str.ofString "pixelpress.errors") (187 : Nat), code := Value.ref (27 : Nat) } }) ::
  (nat_lit 29, { cls := Value.type "tuple", data := Data.seq #[Value.str (Str.ofString "message") (209 : Nat)] }) ::
  (nat_lit 30, { cls := Value.type "dict", data := Data.dict #[{ hash := PyData.keyHash P (Str.ofString "__module__"), key := Value.str (Str.ofString "__module__") (196 : Nat), val := Value.str (Str.ofString "pixelpress.errors") (187 : Nat) }, { hash := PyData.keyHash P (Str.ofString "__firstlineno__"), key := Value.str (Str.ofString "__firstlineno__") (200 : Nat), val := Value.int (2) (199 : Nat) }, { hash := PyData.keyHash P (Str.ofString "__init__"), key := Value.str (Str.ofString "__init__") (208 : Nat), val := Value.ref (28 : Nat) }, { hash := PyData.keyHash P (Str.ofString "__static_attributes__"), key := Value.str (Str.ofString "__static_attributes__") (210 : Nat), val := Value.ref (29 : Nat) }, { hash := PyData.keyHash P (Str.ofString "__weakref__"), key := Value.str (Str.ofString "__weakref__") (212 : Nat), val := Value.ref (32 : Nat) }, { hash := PyData.keyHash P (Str.ofString "__doc__"), key := Value.str (Str.ofString "__doc__") (213 : Nat), val := Value.none }] (3 : Nat) }) ::
  (nat_lit 31, { cls := Value.type "type", data := Data.cls { name := Str.ofString "PressError", bases := [Value.type "Exception"], mro := [Value.ref (31 : Nat), Value.type "Exception", Value.type "BaseException", Value.type "object"], ns := (30 : Nat), qualname := Str.ofString "PressError", subclasses := [Value.ref (44 : Nat), Value.ref (56 : Nat)] }, slots := #[some (Value.ref (15 : Nat)), none, some (Value.str (Str.ofString "PressError") (189 : Nat)), some (Value.str (Str.ofString "PressError") (197 : Nat)), some (Value.builtin "Exception.__new__"), some (Value.bool true)] }) ::
  (nat_lit 32, { cls := Value.type "getset_descriptor", data := Data.fields #[Value.str (Str.ofString "__weakref__") (211 : Nat), Value.ref (31 : Nat), Value.builtin "ExceptionGroup.__weakref__", Value.none] }) ::
  (nat_lit 35, { cls := Value.type "tuple", data := Data.seq #[Value.ref (31 : Nat)] }) ::
  (nat_lit 42, { cls := Value.type "tuple", data := Data.seq #[] }) ::
  (nat_lit 43, { cls := Value.type "dict", data := Data.dict #[{ hash := PyData.keyHash P (Str.ofString "__module__"), key := Value.str (Str.ofString "__module__") (225 : Nat), val := Value.str (Str.ofString "pixelpress.errors") (187 : Nat) }, { hash := PyData.keyHash P (Str.ofString "__firstlineno__"), key := Value.str (Str.ofString "__firstlineno__") (229 : Nat), val := Value.int (7) (228 : Nat) }, { hash := PyData.keyHash P (Str.ofString "__static_attributes__"), key := Value.str (Str.ofString "__static_attributes__") (230 : Nat), val := Value.ref (42 : Nat) }, { hash := PyData.keyHash P (Str.ofString "__doc__"), key := Value.str (Str.ofString "__doc__") (231 : Nat), val := Value.none }] (2 : Nat) }) ::
  (nat_lit 44, { cls := Value.type "type", data := Data.cls { name := Str.ofString "TableError", bases := [Value.ref (31 : Nat)], mro := [Value.ref (44 : Nat), Value.ref (31 : Nat), Value.type "Exception", Value.type "BaseException", Value.type "object"], ns := (43 : Nat), qualname := Str.ofString "TableError" }, slots := #[some (Value.ref (35 : Nat)), none, some (Value.str (Str.ofString "TableError") (218 : Nat)), some (Value.str (Str.ofString "TableError") (226 : Nat)), some (Value.builtin "Exception.__new__"), some (Value.bool true)] }) ::
  (nat_lit 47, { cls := Value.type "tuple", data := Data.seq #[Value.ref (31 : Nat)] }) ::
  (nat_lit 54, { cls := Value.type "tuple", data := Data.seq #[] }) ::
  (nat_lit 55, { cls := Value.type "dict", data := Data.dict #[{ hash := PyData.keyHash P (Str.ofString "__module__"), key := Value.str (Str.ofString "__module__") (241 : Nat), val := Value.str (Str.ofString "pixelpress.errors") (187 : Nat) }, { hash := PyData.keyHash P (Str.ofString "__firstlineno__"), key := Value.str (Str.ofString "__firstlineno__") (245 : Nat), val := Value.int (9) (244 : Nat) }, { hash := PyData.keyHash P (Str.ofString "__static_attributes__"), key := Value.str (Str.ofString "__static_attributes__") (246 : Nat), val := Value.ref (54 : Nat) }, { hash := PyData.keyHash P (Str.ofString "__doc__"), key := Value.str (Str.ofString "__doc__") (247 : Nat), val := Value.none }] (2 : Nat) }) ::
  (nat_lit 56, { cls := Value.type "type", data := Data.cls { name := Str.ofString "CodeError", bases := [Value.ref (31 : Nat)], mro := [Value.ref (56 : Nat), Value.ref (31 : Nat), Value.type "Exception", Value.type "BaseException", Value.type "object"], ns := (55 : Nat), qualname := Str.ofString "CodeError" }, slots := #[some (Value.ref (47 : Nat)), none, some (Value.str (Str.ofString "CodeError") (234 : Nat)), some (Value.str (Str.ofString "CodeError") (242 : Nat)), some (Value.builtin "Exception.__new__"), some (Value.bool true)] }) ::
  (nat_lit 59, { cls := Value.type "tuple", data := Data.seq #[] }) ::
  (nat_lit 61, { cls := Value.type "tuple", data := Data.seq #[Value.str (Str.ofString "coins") (260 : Nat), Value.str (Str.ofString "packs") (261 : Nat), Value.str (Str.ofString "found") (262 : Nat), Value.str (Str.ofString "at") (263 : Nat), Value.str (Str.ofString "to") (264 : Nat)] }) ::
  (nat_lit 62, { cls := Value.type "tuple", data := Data.seq #[] }) ::
  (nat_lit 64, { cls := Value.type "code", data := Data.fields #[Value.str (Str.ofString "merged") (257 : Nat), Value.str (Str.ofString "merged") (258 : Nat), Value.str (Str.ofString "/claim/cut.py") (259 : Nat), Value.int (14) (0 : Nat), Value.int (2) (0 : Nat), Value.int (0) (0 : Nat), Value.int (0) (0 : Nat), Value.int (3) (0 : Nat), Value.ref (59 : Nat), Value.bool true, Value.int (181) (0 : Nat), Value.ref (60 : Nat), Value.none, Value.ref (61 : Nat), Value.ref (62 : Nat), Value.ref (63 : Nat), Value.int (265) (0 : Nat), Value.int (14) (0 : Nat), Value.str (Str.ofString "/claim/cut.py") (266 : Nat)] }) ::
  (nat_lit 65, { cls := Value.type "function", data := Data.func { name := Str.ofString "merged", qualname := Str.ofString "merged", params := argsOf (cell (7 : Nat)), body := FuncBody.stmts (bodyOf (cell (7 : Nat))), scope := scopeOf (cell (7 : Nat)), globals := (3 : Nat), closure := [], defaults := Value.none, kwdefaults := Value.none, pyModule := Value.str (Str.ofString "pixelpress.huffman_build") (250 : Nat), code := Value.ref (64 : Nat) } }) ::
  (nat_lit 66, { cls := Value.type "tuple", data := Data.seq #[] }) ::
  (nat_lit 68, { cls := Value.type "tuple", data := Data.seq #[Value.str (Str.ofString "coins") (271 : Nat), Value.str (Str.ofString "found") (272 : Nat), Value.str (Str.ofString "k") (273 : Nat), Value.str (Str.ofString "one") (274 : Nat), Value.str (Str.ofString "other") (275 : Nat)] }) ::
  (nat_lit 69, { cls := Value.type "tuple", data := Data.seq #[] }) ::
  (nat_lit 71, { cls := Value.type "code", data := Data.fields #[Value.str (Str.ofString "packed") (268 : Nat), Value.str (Str.ofString "packed") (269 : Nat), Value.str (Str.ofString "/claim/cut.py") (270 : Nat), Value.int (25) (0 : Nat), Value.int (1) (0 : Nat), Value.int (0) (0 : Nat), Value.int (0) (0 : Nat), Value.int (3) (0 : Nat), Value.ref (66 : Nat), Value.bool true, Value.int (181) (0 : Nat), Value.ref (67 : Nat), Value.none, Value.ref (68 : Nat), Value.ref (69 : Nat), Value.ref (70 : Nat), Value.int (276) (0 : Nat), Value.int (25) (0 : Nat), Value.str (Str.ofString "/claim/cut.py") (277 : Nat)] }) ::
  (nat_lit 72, { cls := Value.type "function", data := Data.func { name := Str.ofString "packed", qualname := Str.ofString "packed", params := argsOf (cell (8 : Nat)), body := FuncBody.stmts (bodyOf (cell (8 : Nat))), scope := scopeOf (cell (8 : Nat)), globals := (3 : Nat), closure := [], defaults := Value.none, kwdefaults := Value.none, pyModule := Value.str (Str.ofString "pixelpress.huffman_build") (250 : Nat), code := Value.ref (71 : Nat) } }) ::
  (nat_lit 73, { cls := Value.type "tuple", data := Data.seq #[] }) ::
  (nat_lit 76, { cls := Value.type "code", data := Data.fields #[Value.str (Str.ofString "by_worth") (279 : Nat), Value.str (Str.ofString "by_worth") (280 : Nat), Value.str (Str.ofString "/claim/cut.py") (281 : Nat), Value.int (31) (0 : Nat), Value.int (1) (0 : Nat), Value.int (0) (0 : Nat), Value.int (0) (0 : Nat), Value.int (3) (0 : Nat), Value.ref (73 : Nat), Value.bool true, Value.int (181) (0 : Nat), Value.ref (74 : Nat), Value.none, Value.none, Value.none, Value.ref (75 : Nat), Value.int (282) (0 : Nat), Value.int (31) (0 : Nat), Value.str (Str.ofString "/claim/cut.py") (283 : Nat)] }) ::
  (nat_lit 77, { cls := Value.type "function", data := Data.func { name := Str.ofString "by_worth", qualname := Str.ofString "by_worth", params := argsOf (cell (9 : Nat)), body := FuncBody.stmts (bodyOf (cell (9 : Nat))), scope := scopeOf (cell (9 : Nat)), globals := (3 : Nat), closure := [], defaults := Value.none, kwdefaults := Value.none, pyModule := Value.str (Str.ofString "pixelpress.huffman_build") (250 : Nat), code := Value.ref (76 : Nat) } }) ::
  (nat_lit 78, { cls := Value.type "tuple", data := Data.seq #[] }) ::
  (nat_lit 80, { cls := Value.type "tuple", data := Data.seq #[Value.str (Str.ofString "frequencies") (288 : Nat), Value.str (Str.ofString "most") (289 : Nat), Value.str (Str.ofString "coins") (290 : Nat), Value.str (Str.ofString "row") (291 : Nat), Value.str (Str.ofString "turn") (292 : Nat), Value.str (Str.ofString "sizes") (293 : Nat), Value.str (Str.ofString "worth") (294 : Nat), Value.str (Str.ofString "symbols") (295 : Nat), Value.str (Str.ofString "symbol") (296 : Nat)] }) ::
  (nat_lit 81, { cls := Value.type "tuple", data := Data.seq #[] }) ::
  (nat_lit 83, { cls := Value.type "code", data := Data.fields #[Value.str (Str.ofString "best_sizes") (285 : Nat), Value.str (Str.ofString "best_sizes") (286 : Nat), Value.str (Str.ofString "/claim/cut.py") (287 : Nat), Value.int (34) (0 : Nat), Value.int (2) (0 : Nat), Value.int (0) (0 : Nat), Value.int (0) (0 : Nat), Value.int (3) (0 : Nat), Value.ref (78 : Nat), Value.bool true, Value.int (181) (0 : Nat), Value.ref (79 : Nat), Value.none, Value.ref (80 : Nat), Value.ref (81 : Nat), Value.ref (82 : Nat), Value.int (297) (0 : Nat), Value.int (34) (0 : Nat), Value.str (Str.ofString "/claim/cut.py") (298 : Nat)] }) ::
  (nat_lit 84, { cls := Value.type "function", data := Data.func { name := Str.ofString "best_sizes", qualname := Str.ofString "best_sizes", params := argsOf (cell (10 : Nat)), body := FuncBody.stmts (bodyOf (cell (10 : Nat))), scope := scopeOf (cell (10 : Nat)), globals := (3 : Nat), closure := [], defaults := Value.none, kwdefaults := Value.none, pyModule := Value.str (Str.ofString "pixelpress.huffman_build") (250 : Nat), code := Value.ref (83 : Nat) } }) ::
  (nat_lit 85, { cls := Value.type "tuple", data := Data.seq #[] }) ::
  (nat_lit 88, { cls := Value.type "code", data := Data.fields #[Value.str (Str.ofString "table_of") (300 : Nat), Value.str (Str.ofString "table_of") (301 : Nat), Value.str (Str.ofString "/claim/cut.py") (302 : Nat), Value.int (50) (0 : Nat), Value.int (1) (0 : Nat), Value.int (0) (0 : Nat), Value.int (0) (0 : Nat), Value.int (3) (0 : Nat), Value.ref (85 : Nat), Value.bool true, Value.int (181) (0 : Nat), Value.ref (86 : Nat), Value.none, Value.none, Value.none, Value.ref (87 : Nat), Value.int (303) (0 : Nat), Value.int (50) (0 : Nat), Value.str (Str.ofString "/claim/cut.py") (304 : Nat)] }) ::
  (nat_lit 89, { cls := Value.type "function", data := Data.func { name := Str.ofString "table_of", qualname := Str.ofString "table_of", params := argsOf (cell (11 : Nat)), body := FuncBody.stmts (bodyOf (cell (11 : Nat))), scope := scopeOf (cell (11 : Nat)), globals := (3 : Nat), closure := [], defaults := Value.none, kwdefaults := Value.none, pyModule := Value.str (Str.ofString "pixelpress.huffman_build") (250 : Nat), code := Value.ref (88 : Nat) } }) ::
  (nat_lit 90, { cls := Value.type "tuple", data := Data.seq #[] }) ::
  (nat_lit 92, { cls := Value.type "tuple", data := Data.seq #[Value.str (Str.ofString "counts") (315 : Nat), Value.str (Str.ofString "rows") (316 : Nat), Value.str (Str.ofString "code") (317 : Nat), Value.str (Str.ofString "place") (318 : Nat), Value.str (Str.ofString "size") (319 : Nat), Value.str (Str.ofString "many") (320 : Nat)] }) ::
  (nat_lit 93, { cls := Value.type "tuple", data := Data.seq #[] }) ::
  (nat_lit 95, { cls := Value.type "code", data := Data.fields #[Value.str (Str.ofString "code_rows") (312 : Nat), Value.str (Str.ofString "code_rows") (313 : Nat), Value.str (Str.ofString "/claim/cut.py") (314 : Nat), Value.int (59) (0 : Nat), Value.int (1) (0 : Nat), Value.int (0) (0 : Nat), Value.int (0) (0 : Nat), Value.int (3) (0 : Nat), Value.ref (90 : Nat), Value.bool true, Value.int (181) (0 : Nat), Value.ref (91 : Nat), Value.none, Value.ref (92 : Nat), Value.ref (93 : Nat), Value.ref (94 : Nat), Value.int (321) (0 : Nat), Value.int (59) (0 : Nat), Value.str (Str.ofString "/claim/cut.py") (322 : Nat)] }) ::
  (nat_lit 96, { cls := Value.type "function", data := Data.func { name := Str.ofString "code_rows", qualname := Str.ofString "code_rows", params := argsOf (cell (15 : Nat)), body := FuncBody.stmts (bodyOf (cell (15 : Nat))), scope := scopeOf (cell (15 : Nat)), globals := (3 : Nat), closure := [], defaults := Value.none, kwdefaults := Value.none, pyModule := Value.str (Str.ofString "pixelpress.huffman") (306 : Nat), code := Value.ref (95 : Nat) } }) ::
  (nat_lit 97, { cls := Value.type "tuple", data := Data.seq #[] }) ::
  (nat_lit 99, { cls := Value.type "tuple", data := Data.seq #[Value.str (Str.ofString "counts") (327 : Nat), Value.str (Str.ofString "symbols") (328 : Nat), Value.str (Str.ofString "met") (329 : Nat), Value.str (Str.ofString "symbol") (330 : Nat)] }) ::
  (nat_lit 100, { cls := Value.type "tuple", data := Data.seq #[] }) ::
  (nat_lit 102, { cls := Value.type "code", data := Data.fields #[Value.str (Str.ofString "check_told") (324 : Nat), Value.str (Str.ofString "check_told") (325 : Nat), Value.str (Str.ofString "/claim/cut.py") (326 : Nat), Value.int (71) (0 : Nat), Value.int (2) (0 : Nat), Value.int (0) (0 : Nat), Value.int (0) (0 : Nat), Value.int (3) (0 : Nat), Value.ref (97 : Nat), Value.bool true, Value.int (181) (0 : Nat), Value.ref (98 : Nat), Value.none, Value.ref (99 : Nat), Value.ref (100 : Nat), Value.ref (101 : Nat), Value.int (331) (0 : Nat), Value.int (71) (0 : Nat), Value.str (Str.ofString "/claim/cut.py") (332 : Nat)] }) ::
  (nat_lit 103, { cls := Value.type "function", data := Data.func { name := Str.ofString "check_told", qualname := Str.ofString "check_told", params := argsOf (cell (16 : Nat)), body := FuncBody.stmts (bodyOf (cell (16 : Nat))), scope := scopeOf (cell (16 : Nat)), globals := (3 : Nat), closure := [], defaults := Value.none, kwdefaults := Value.none, pyModule := Value.str (Str.ofString "pixelpress.huffman") (306 : Nat), code := Value.ref (102 : Nat) } }) ::
  (nat_lit 111, { cls := Value.type "tuple", data := Data.seq #[] }) ::
  (nat_lit 113, { cls := Value.type "tuple", data := Data.seq #[Value.str (Str.ofString "self") (349 : Nat), Value.str (Str.ofString "counts") (350 : Nat), Value.str (Str.ofString "symbols") (351 : Nat), Value.str (Str.ofString "size") (352 : Nat), Value.str (Str.ofString "first") (353 : Nat), Value.str (Str.ofString "many") (354 : Nat), Value.str (Str.ofString "place") (355 : Nat), Value.str (Str.ofString "k") (356 : Nat)] }) ::
  (nat_lit 114, { cls := Value.type "tuple", data := Data.seq #[] }) ::
  (nat_lit 116, { cls := Value.type "code", data := Data.fields #[Value.str (Str.ofString "__init__") (346 : Nat), Value.str (Str.ofString "HuffTable.__init__") (347 : Nat), Value.str (Str.ofString "/claim/cut.py") (348 : Nat), Value.int (83) (0 : Nat), Value.int (3) (0 : Nat), Value.int (0) (0 : Nat), Value.int (0) (0 : Nat), Value.int (3) (0 : Nat), Value.ref (111 : Nat), Value.bool true, Value.int (181) (0 : Nat), Value.ref (112 : Nat), Value.none, Value.ref (113 : Nat), Value.ref (114 : Nat), Value.ref (115 : Nat), Value.int (357) (0 : Nat), Value.int (83) (0 : Nat), Value.str (Str.ofString "/claim/cut.py") (358 : Nat)] }) ::
  (nat_lit 117, { cls := Value.type "function", data := Data.func { name := Str.ofString "__init__", qualname := Str.ofString "HuffTable.__init__", params := argsOf (cls (17 : Nat) (0 : Nat)), body := FuncBody.stmts (bodyOf (cls (17 : Nat) (0 : Nat))), scope := scopeOf (cls (17 : Nat) (0 : Nat)), globals := (3 : Nat), closure := [], defaults := Value.none, kwdefaults := Value.none, pyModule := Value.str (Str.ofString "pixelpress.huffman") (306 : Nat), code := Value.ref (116 : Nat) } }) ::
  (nat_lit 118, { cls := Value.type "tuple", data := Data.seq #[] }) ::
  (nat_lit 120, { cls := Value.type "tuple", data := Data.seq #[Value.str (Str.ofString "self") (363 : Nat), Value.str (Str.ofString "symbol") (364 : Nat), Value.str (Str.ofString "found") (365 : Nat)] }) ::
  (nat_lit 121, { cls := Value.type "tuple", data := Data.seq #[] }) ::
  (nat_lit 123, { cls := Value.type "code", data := Data.fields #[Value.str (Str.ofString "code") (360 : Nat), Value.str (Str.ofString "HuffTable.code") (361 : Nat), Value.str (Str.ofString "/claim/cut.py") (362 : Nat), Value.int (94) (0 : Nat), Value.int (2) (0 : Nat), Value.int (0) (0 : Nat), Value.int (0) (0 : Nat), Value.int (3) (0 : Nat), Value.ref (118 : Nat), Value.bool true, Value.int (181) (0 : Nat), Value.ref (119 : Nat), Value.none, Value.ref (120 : Nat), Value.ref (121 : Nat), Value.ref (122 : Nat), Value.int (366) (0 : Nat), Value.int (94) (0 : Nat), Value.str (Str.ofString "/claim/cut.py") (367 : Nat)] }) ::
  (nat_lit 124, { cls := Value.type "function", data := Data.func { name := Str.ofString "code", qualname := Str.ofString "HuffTable.code", params := argsOf (cls (17 : Nat) (1 : Nat)), body := FuncBody.stmts (bodyOf (cls (17 : Nat) (1 : Nat))), scope := scopeOf (cls (17 : Nat) (1 : Nat)), globals := (3 : Nat), closure := [], defaults := Value.none, kwdefaults := Value.none, pyModule := Value.str (Str.ofString "pixelpress.huffman") (306 : Nat), code := Value.ref (123 : Nat) } }) ::
  (nat_lit 125, { cls := Value.type "tuple", data := Data.seq #[] }) ::
  (nat_lit 127, { cls := Value.type "tuple", data := Data.seq #[Value.str (Str.ofString "self") (372 : Nat), Value.str (Str.ofString "reader") (373 : Nat), Value.str (Str.ofString "code") (374 : Nat), Value.str (Str.ofString "first") (375 : Nat), Value.str (Str.ofString "many") (376 : Nat), Value.str (Str.ofString "place") (377 : Nat)] }) ::
  (nat_lit 128, { cls := Value.type "tuple", data := Data.seq #[] }) ::
  (nat_lit 130, { cls := Value.type "code", data := Data.fields #[Value.str (Str.ofString "read") (369 : Nat), Value.str (Str.ofString "HuffTable.read") (370 : Nat), Value.str (Str.ofString "/claim/cut.py") (371 : Nat), Value.int (100) (0 : Nat), Value.int (2) (0 : Nat), Value.int (0) (0 : Nat), Value.int (0) (0 : Nat), Value.int (3) (0 : Nat), Value.ref (125 : Nat), Value.bool true, Value.int (181) (0 : Nat), Value.ref (126 : Nat), Value.none, Value.ref (127 : Nat), Value.ref (128 : Nat), Value.ref (129 : Nat), Value.int (378) (0 : Nat), Value.int (100) (0 : Nat), Value.str (Str.ofString "/claim/cut.py") (379 : Nat)] }) ::
  (nat_lit 131, { cls := Value.type "function", data := Data.func { name := Str.ofString "read", qualname := Str.ofString "HuffTable.read", params := argsOf (cls (17 : Nat) (2 : Nat)), body := FuncBody.stmts (bodyOf (cls (17 : Nat) (2 : Nat))), scope := scopeOf (cls (17 : Nat) (2 : Nat)), globals := (3 : Nat), closure := [], defaults := Value.none, kwdefaults := Value.none, pyModule := Value.str (Str.ofString "pixelpress.huffman") (306 : Nat), code := Value.ref (130 : Nat) } }) ::
  (nat_lit 132, { cls := Value.type "tuple", data := Data.seq #[Value.str (Str.ofString "codes") (381 : Nat), Value.str (Str.ofString "counts") (382 : Nat), Value.str (Str.ofString "rows") (383 : Nat), Value.str (Str.ofString "symbols") (384 : Nat)] }) ::
  (nat_lit 133, { cls := Value.type "dict", data := Data.dict #[{ hash := PyData.keyHash P (Str.ofString "__module__"), key := Value.str (Str.ofString "__module__") (341 : Nat), val := Value.str (Str.ofString "pixelpress.huffman") (306 : Nat) }, { hash := PyData.keyHash P (Str.ofString "__firstlineno__"), key := Value.str (Str.ofString "__firstlineno__") (345 : Nat), val := Value.int (81) (344 : Nat) }, { hash := PyData.keyHash P (Str.ofString "__init__"), key := Value.str (Str.ofString "__init__") (359 : Nat), val := Value.ref (117 : Nat) }, { hash := PyData.keyHash P (Str.ofString "code"), key := Value.str (Str.ofString "code") (368 : Nat), val := Value.ref (124 : Nat) }, { hash := PyData.keyHash P (Str.ofString "read"), key := Value.str (Str.ofString "read") (380 : Nat), val := Value.ref (131 : Nat) }, { hash := PyData.keyHash P (Str.ofString "__static_attributes__"), key := Value.str (Str.ofString "__static_attributes__") (385 : Nat), val := Value.ref (132 : Nat) }, { hash := PyData.keyHash P (Str.ofString "__dict__"), key := Value.str (Str.ofString "__dict__") (387 : Nat), val := Value.ref (135 : Nat) }, { hash := PyData.keyHash P (Str.ofString "__weakref__"), key := Value.str (Str.ofString "__weakref__") (389 : Nat), val := Value.ref (136 : Nat) }, { hash := PyData.keyHash P (Str.ofString "__doc__"), key := Value.str (Str.ofString "__doc__") (390 : Nat), val := Value.none }] (4 : Nat) }) ::
  (nat_lit 134, { cls := Value.type "type", data := Data.cls { name := Str.ofString "HuffTable", bases := [Value.type "object"], mro := [Value.ref (134 : Nat), Value.type "object"], ns := (133 : Nat), qualname := Str.ofString "HuffTable" }, slots := #[none, none, some (Value.str (Str.ofString "HuffTable") (334 : Nat)), some (Value.str (Str.ofString "HuffTable") (342 : Nat)), some (Value.builtin "object.__new__"), some (Value.bool true)] }) ::
  (nat_lit 135, { cls := Value.type "getset_descriptor", data := Data.fields #[Value.str (Str.ofString "__dict__") (386 : Nat), Value.ref (134 : Nat), Value.builtin "function.__dict__", Value.builtin "function.__dict__#set"] }) ::
  (nat_lit 136, { cls := Value.type "getset_descriptor", data := Data.fields #[Value.str (Str.ofString "__weakref__") (388 : Nat), Value.ref (134 : Nat), Value.builtin "ExceptionGroup.__weakref__", Value.none] }) ::
  (nat_lit 139, { cls := Value.type "tuple", data := Data.seq #[] }) ::
  (nat_lit 141, { cls := Value.type "tuple", data := Data.seq #[Value.str (Str.ofString "script") (398 : Nat), Value.str (Str.ofString "cell") (399 : Nat), Value.str (Str.ofString "big") (400 : Nat), Value.str (Str.ofString "mixed") (401 : Nat)] }) ::
  (nat_lit 142, { cls := Value.type "tuple", data := Data.seq #[] }) ::
  (nat_lit 144, { cls := Value.type "code", data := Data.fields #[Value.str (Str.ofString "_law_pool") (395 : Nat), Value.str (Str.ofString "_law_pool") (396 : Nat), Value.str (Str.ofString "/claim/cut.py") (397 : Nat), Value.int (108) (0 : Nat), Value.int (1) (0 : Nat), Value.int (0) (0 : Nat), Value.int (0) (0 : Nat), Value.int (3) (0 : Nat), Value.ref (139 : Nat), Value.bool true, Value.int (181) (0 : Nat), Value.ref (140 : Nat), Value.none, Value.ref (141 : Nat), Value.ref (142 : Nat), Value.ref (143 : Nat), Value.int (402) (0 : Nat), Value.int (108) (0 : Nat), Value.str (Str.ofString "/claim/cut.py") (403 : Nat)] }) ::
  (nat_lit 145, { cls := Value.type "function", data := Data.func { name := Str.ofString "_law_pool", qualname := Str.ofString "_law_pool", params := argsOf (cell (19 : Nat)), body := FuncBody.stmts (bodyOf (cell (19 : Nat))), scope := scopeOf (cell (19 : Nat)), globals := (3 : Nat), closure := [], defaults := Value.none, kwdefaults := Value.none, pyModule := Value.str (Str.ofString "law_ok0135_01") (393 : Nat), code := Value.ref (144 : Nat) } }) ::
  (nat_lit 146, { cls := Value.type "tuple", data := Data.seq #[] }) ::
  (nat_lit 148, { cls := Value.type "tuple", data := Data.seq #[Value.str (Str.ofString "source") (408 : Nat), Value.str (Str.ofString "top") (409 : Nat), Value.str (Str.ofString "drawn") (410 : Nat)] }) ::
  (nat_lit 149, { cls := Value.type "tuple", data := Data.seq #[] }) ::
  (nat_lit 151, { cls := Value.type "code", data := Data.fields #[Value.str (Str.ofString "_law_take") (405 : Nat), Value.str (Str.ofString "_law_take") (406 : Nat), Value.str (Str.ofString "/claim/cut.py") (407 : Nat), Value.int (115) (0 : Nat), Value.int (2) (0 : Nat), Value.int (0) (0 : Nat), Value.int (0) (0 : Nat), Value.int (3) (0 : Nat), Value.ref (146 : Nat), Value.bool true, Value.int (181) (0 : Nat), Value.ref (147 : Nat), Value.none, Value.ref (148 : Nat), Value.ref (149 : Nat), Value.ref (150 : Nat), Value.int (411) (0 : Nat), Value.int (115) (0 : Nat), Value.str (Str.ofString "/claim/cut.py") (412 : Nat)] }) ::
  (nat_lit 152, { cls := Value.type "function", data := Data.func { name := Str.ofString "_law_take", qualname := Str.ofString "_law_take", params := argsOf (cell (20 : Nat)), body := FuncBody.stmts (bodyOf (cell (20 : Nat))), scope := scopeOf (cell (20 : Nat)), globals := (3 : Nat), closure := [], defaults := Value.none, kwdefaults := Value.none, pyModule := Value.str (Str.ofString "law_ok0135_01") (393 : Nat), code := Value.ref (151 : Nat) } }) ::
  (nat_lit 153, { cls := Value.type "tuple", data := Data.seq #[] }) ::
  (nat_lit 156, { cls := Value.type "code", data := Data.fields #[Value.str (Str.ofString "_law_least") (414 : Nat), Value.str (Str.ofString "_law_least") (415 : Nat), Value.str (Str.ofString "/claim/cut.py") (416 : Nat), Value.int (122) (0 : Nat), Value.int (2) (0 : Nat), Value.int (0) (0 : Nat), Value.int (0) (0 : Nat), Value.int (3) (0 : Nat), Value.ref (153 : Nat), Value.bool true, Value.int (181) (0 : Nat), Value.ref (154 : Nat), Value.none, Value.none, Value.none, Value.ref (155 : Nat), Value.int (417) (0 : Nat), Value.int (122) (0 : Nat), Value.str (Str.ofString "/claim/cut.py") (418 : Nat)] }) ::
  (nat_lit 157, { cls := Value.type "function", data := Data.func { name := Str.ofString "_law_least", qualname := Str.ofString "_law_least", params := argsOf (cell (21 : Nat)), body := FuncBody.stmts (bodyOf (cell (21 : Nat))), scope := scopeOf (cell (21 : Nat)), globals := (3 : Nat), closure := [], defaults := Value.none, kwdefaults := Value.none, pyModule := Value.str (Str.ofString "law_ok0135_01") (393 : Nat), code := Value.ref (156 : Nat) } }) ::
  (nat_lit 158, { cls := Value.type "tuple", data := Data.seq #[] }) ::
  (nat_lit 161, { cls := Value.type "code", data := Data.fields #[Value.str (Str.ofString "_law_coins") (420 : Nat), Value.str (Str.ofString "_law_coins") (421 : Nat), Value.str (Str.ofString "/claim/cut.py") (422 : Nat), Value.int (130) (0 : Nat), Value.int (2) (0 : Nat), Value.int (0) (0 : Nat), Value.int (0) (0 : Nat), Value.int (3) (0 : Nat), Value.ref (158 : Nat), Value.bool true, Value.int (181) (0 : Nat), Value.ref (159 : Nat), Value.none, Value.none, Value.none, Value.ref (160 : Nat), Value.int (423) (0 : Nat), Value.int (130) (0 : Nat), Value.str (Str.ofString "/claim/cut.py") (424 : Nat)] }) ::
  (nat_lit 162, { cls := Value.type "function", data := Data.func { name := Str.ofString "_law_coins", qualname := Str.ofString "_law_coins", params := argsOf (cell (22 : Nat)), body := FuncBody.stmts (bodyOf (cell (22 : Nat))), scope := scopeOf (cell (22 : Nat)), globals := (3 : Nat), closure := [], defaults := Value.none, kwdefaults := Value.none, pyModule := Value.str (Str.ofString "law_ok0135_01") (393 : Nat), code := Value.ref (161 : Nat) } }) ::
  (nat_lit 163, { cls := Value.type "tuple", data := Data.seq #[] }) ::
  (nat_lit 166, { cls := Value.type "code", data := Data.fields #[Value.str (Str.ofString "_law_rows_right") (426 : Nat), Value.str (Str.ofString "_law_rows_right") (427 : Nat), Value.str (Str.ofString "/claim/cut.py") (428 : Nat), Value.int (133) (0 : Nat), Value.int (1) (0 : Nat), Value.int (0) (0 : Nat), Value.int (0) (0 : Nat), Value.int (3) (0 : Nat), Value.ref (163 : Nat), Value.bool true, Value.int (181) (0 : Nat), Value.ref (164 : Nat), Value.none, Value.none, Value.none, Value.ref (165 : Nat), Value.int (429) (0 : Nat), Value.int (133) (0 : Nat), Value.str (Str.ofString "/claim/cut.py") (430 : Nat)] }) ::
  (nat_lit 167, { cls := Value.type "function", data := Data.func { name := Str.ofString "_law_rows_right", qualname := Str.ofString "_law_rows_right", params := argsOf (cell (23 : Nat)), body := FuncBody.stmts (bodyOf (cell (23 : Nat))), scope := scopeOf (cell (23 : Nat)), globals := (3 : Nat), closure := [], defaults := Value.none, kwdefaults := Value.none, pyModule := Value.str (Str.ofString "law_ok0135_01") (393 : Nat), code := Value.ref (166 : Nat) } }) ::
  (nat_lit 168, { cls := Value.type "tuple", data := Data.seq #[] }) ::
  (nat_lit 170, { cls := Value.type "tuple", data := Data.seq #[Value.str (Str.ofString "frequencies") (435 : Nat), Value.str (Str.ofString "most") (436 : Nat)] }) ::
  (nat_lit 171, { cls := Value.type "tuple", data := Data.seq #[] }) ::
  (nat_lit 173, { cls := Value.type "code", data := Data.fields #[Value.str (Str.ofString "_law_told") (432 : Nat), Value.str (Str.ofString "_law_told") (433 : Nat), Value.str (Str.ofString "/claim/cut.py") (434 : Nat), Value.int (144) (0 : Nat), Value.int (2) (0 : Nat), Value.int (0) (0 : Nat), Value.int (0) (0 : Nat), Value.int (3) (0 : Nat), Value.ref (168 : Nat), Value.bool true, Value.int (181) (0 : Nat), Value.ref (169 : Nat), Value.none, Value.ref (170 : Nat), Value.ref (171 : Nat), Value.ref (172 : Nat), Value.int (437) (0 : Nat), Value.int (144) (0 : Nat), Value.str (Str.ofString "/claim/cut.py") (438 : Nat)] }) ::
  (nat_lit 174, { cls := Value.type "function", data := Data.func { name := Str.ofString "_law_told", qualname := Str.ofString "_law_told", params := argsOf (cell (24 : Nat)), body := FuncBody.stmts (bodyOf (cell (24 : Nat))), scope := scopeOf (cell (24 : Nat)), globals := (3 : Nat), closure := [], defaults := Value.none, kwdefaults := Value.none, pyModule := Value.str (Str.ofString "law_ok0135_01") (393 : Nat), code := Value.ref (173 : Nat) } }) ::
  (nat_lit 175, { cls := Value.type "tuple", data := Data.seq #[] }) ::
  (nat_lit 178, { cls := Value.type "code", data := Data.fields #[Value.str (Str.ofString "law") (440 : Nat), Value.str (Str.ofString "law") (441 : Nat), Value.str (Str.ofString "/claim/cut.py") (442 : Nat), Value.int (149) (0 : Nat), Value.int (1) (0 : Nat), Value.int (0) (0 : Nat), Value.int (0) (0 : Nat), Value.int (3) (0 : Nat), Value.ref (175 : Nat), Value.bool true, Value.int (181) (0 : Nat), Value.ref (176 : Nat), Value.none, Value.none, Value.none, Value.ref (177 : Nat), Value.int (443) (0 : Nat), Value.int (149) (0 : Nat), Value.str (Str.ofString "/claim/cut.py") (444 : Nat)] }) ::
  (nat_lit 179, { cls := Value.type "function", data := Data.func { name := Str.ofString "law", qualname := Str.ofString "law", params := argsOf (cell (25 : Nat)), body := FuncBody.stmts (bodyOf (cell (25 : Nat))), scope := scopeOf (cell (25 : Nat)), globals := (3 : Nat), closure := [], defaults := Value.none, kwdefaults := Value.none, pyModule := Value.str (Str.ofString "law_ok0135_01") (393 : Nat), code := Value.ref (178 : Nat) } }) :: [] : List (Nat × Obj))
noncomputable def hdA : List Nat := nat_lit 2 :: nat_lit 3 :: nat_lit 15 :: nat_lit 22 :: nat_lit 24 :: nat_lit 25 :: nat_lit 27 :: nat_lit 28 :: nat_lit 29 :: nat_lit 30 :: nat_lit 31 :: nat_lit 32 :: nat_lit 35 :: nat_lit 42 :: nat_lit 43 :: nat_lit 44 :: nat_lit 47 :: nat_lit 54 :: nat_lit 55 :: nat_lit 56 :: nat_lit 59 :: nat_lit 61 :: nat_lit 62 :: nat_lit 64 :: nat_lit 65 :: nat_lit 66 :: nat_lit 68 :: nat_lit 69 :: nat_lit 71 :: nat_lit 72 :: nat_lit 73 :: nat_lit 76 :: nat_lit 77 :: nat_lit 78 :: nat_lit 80 :: nat_lit 81 :: nat_lit 83 :: nat_lit 84 :: nat_lit 85 :: nat_lit 88 :: nat_lit 89 :: nat_lit 90 :: nat_lit 92 :: nat_lit 93 :: nat_lit 95 :: nat_lit 96 :: nat_lit 97 :: nat_lit 99 :: nat_lit 100 :: nat_lit 102 :: nat_lit 103 :: nat_lit 111 :: nat_lit 113 :: nat_lit 114 :: nat_lit 116 :: nat_lit 117 :: nat_lit 118 :: nat_lit 120 :: nat_lit 121 :: nat_lit 123 :: nat_lit 124 :: nat_lit 125 :: nat_lit 127 :: nat_lit 128 :: nat_lit 130 :: nat_lit 131 :: nat_lit 132 :: nat_lit 133 :: nat_lit 134 :: nat_lit 135 :: nat_lit 136 :: nat_lit 139 :: nat_lit 141 :: nat_lit 142 :: nat_lit 144 :: nat_lit 145 :: nat_lit 146 :: nat_lit 148 :: nat_lit 149 :: nat_lit 151 :: nat_lit 152 :: nat_lit 153 :: nat_lit 156 :: nat_lit 157 :: nat_lit 158 :: nat_lit 161 :: nat_lit 162 :: nat_lit 163 :: nat_lit 166 :: nat_lit 167 :: nat_lit 168 :: nat_lit 170 :: nat_lit 171 :: nat_lit 173 :: nat_lit 174 :: nat_lit 175 :: nat_lit 178 :: nat_lit 179 :: []
theorem hdE : ∀ P, hdA = (hdK P).map (·.1) := fun _ => by kernel_rfl
set_option maxHeartbeats 4000000 in
theorem said_ok : PySem.Challenge.rw_ok0135_01.wellSaid = true := by
  unfold OpenLaw.wellSaid OpenRow.wellSaid OpenRow.partSaid looksOpen
  repeat' (with_reducible refine Bool.and_eq_true_iff.mpr ⟨?_, ?_⟩)
  all_goals decide +kernel
/-- the objects of two lists in the order of their addresses -/
noncomputable def topMrg : Nat → Nat → Frag → List Obj → List Obj
  | 0, _, _, _ => []
  | k + 1, n, [], x :: l => x :: topMrg k (n + 1) [] l
  | _ + 1, _, [], [] => []
  | k + 1, n, (a, o) :: r, l => match Nat.beq a n with
    | true => o :: topMrg k (n + 1) r l
    | false => match l with
      | x :: l => x :: topMrg k (n + 1) ((a, o) :: r) l
      | [] => []
/-- all objects at the end of the top -/
noncomputable def topObjs (P : Params) : List Obj := topMrg 180 0 (hdK P) [
boot_o_0 P,
  boot_o_1 P,
  boot_o_4 P,
  boot_o_5 P,
  boot_o_6 P,
  boot_o_7 P,
  boot_o_8 P,
  boot_o_9 P,
  boot_o_10 P,
  { cls := Value.type "tuple", data := Data.seq #[] },
  { cls := Value.none, data := Data.fields #[Value.int 2 0, Value.int 0 0, Value.ref 20, Value.int 7 0, Value.int 0 0, Value.ref 40, Value.int 9 0, Value.int 0 0, Value.ref 52, Value.int 14 0, Value.int 0 0, Value.ref 64, Value.int 25 0, Value.int 0 0, Value.ref 71, Value.int 31 0, Value.int 0 0, Value.ref 76, Value.int 34 0, Value.int 0 0, Value.ref 83, Value.int 50 0, Value.int 0 0, Value.ref 88, Value.int 59 0, Value.int 0 0, Value.ref 95, Value.int 71 0, Value.int 0 0, Value.ref 102, Value.int 81 0, Value.int 0 0, Value.ref 109, Value.int 108 0, Value.int 0 0, Value.ref 144, Value.int 115 0, Value.int 0 0, Value.ref 151, Value.int 122 0, Value.int 0 0, Value.ref 156, Value.int 130 0, Value.int 0 0, Value.ref 161, Value.int 133 0, Value.int 0 0, Value.ref 166, Value.int 144 0, Value.int 0 0, Value.ref 173, Value.int 149 0, Value.int 0 0, Value.ref 178] },
  { cls := Value.type "code", data := Data.fields #[Value.str (Str.ofString "<module>") 182, Value.str (Str.ofString "<module>") 183, Value.str (Str.ofString "/claim/cut.py") 184, Value.int 1 0, Value.int 0 0, Value.int 0 0, Value.int 0 0, Value.int 0 0, Value.ref 11, Value.bool false, Value.int 181 0, Value.ref 12, Value.none, Value.none, Value.none, Value.none, Value.int 185 0, Value.int 1 0, Value.str (Str.ofString "/claim/cut.py") 186] },
  { cls := Value.type "frame", slots := #[some (Value.ref 13), some (Value.ref 3), some (Value.ref 3), none, some (Value.str (Str.ofString "__main__") 164), none, some (Value.ref 0)] },
  { cls := Value.type "builtin_function_or_method", data := Data.fields #[Value.builtin "type.__prepare__", Value.type "type"] },
  { cls := Value.type "dict", data := Data.dict #[{ hash := PyData.keyHash P (Str.ofString "__module__"), key := Value.str (Str.ofString "__module__") 196, val := Value.str (Str.ofString "pixelpress.errors") 187 }, { hash := PyData.keyHash P (Str.ofString "__qualname__"), key := Value.str (Str.ofString "__qualname__") 198, val := Value.str (Str.ofString "PressError") 197 }, { hash := PyData.keyHash P (Str.ofString "__firstlineno__"), key := Value.str (Str.ofString "__firstlineno__") 200, val := Value.int 2 199 }, { hash := PyData.keyHash P (Str.ofString "__init__"), key := Value.str (Str.ofString "__init__") 208, val := Value.ref 28 }, { hash := PyData.keyHash P (Str.ofString "__static_attributes__"), key := Value.str (Str.ofString "__static_attributes__") 210, val := Value.ref 29 }] 5 },
  { cls := Value.type "tuple", data := Data.seq #[] },
  { cls := Value.none, data := Data.fields #[Value.int 4 0, Value.int 4 0, Value.ref 27] },
  { cls := Value.type "code", data := Data.fields #[Value.str (Str.ofString "PressError") 191, Value.str (Str.ofString "PressError") 192, Value.str (Str.ofString "/claim/cut.py") 193, Value.int 2 0, Value.int 0 0, Value.int 0 0, Value.int 0 0, Value.int 0 0, Value.ref 18, Value.bool false, Value.int 181 0, Value.ref 19, Value.none, Value.none, Value.none, Value.none, Value.int 194 0, Value.int 2 0, Value.str (Str.ofString "/claim/cut.py") 195] },
  { cls := Value.type "frame", slots := #[some (Value.ref 20), some (Value.ref 3), some (Value.ref 17), none, some (Value.str (Str.ofString "pixelpress.errors") 187), none, some (Value.ref 0)] },
  { cls := Value.none, data := Data.fields #[] },
  { cls := Value.none, data := Data.func { name := Str.ofString "__init__", qualname := Str.ofString "PressError.__init__", params := argsOf (cls 1 0), body := FuncBody.stmts (bodyOf (cls 1 0)), scope := scopeOf (cls 1 0), globals := 0, closure := [], defaults := Value.none, kwdefaults := Value.none } },
  { cls := Value.type "super", data := Data.fields #[Value.ref 31, Value.ref 31, Value.ref 31] },
  { cls := Value.type "builtin_function_or_method", data := Data.fields #[Value.builtin "object.__init_subclass__", Value.ref 31] },
  { cls := Value.type "builtin_function_or_method", data := Data.fields #[Value.builtin "type.__prepare__", Value.type "type"] },
  { cls := Value.type "dict", data := Data.dict #[{ hash := PyData.keyHash P (Str.ofString "__module__"), key := Value.str (Str.ofString "__module__") 225, val := Value.str (Str.ofString "pixelpress.errors") 187 }, { hash := PyData.keyHash P (Str.ofString "__qualname__"), key := Value.str (Str.ofString "__qualname__") 227, val := Value.str (Str.ofString "TableError") 226 }, { hash := PyData.keyHash P (Str.ofString "__firstlineno__"), key := Value.str (Str.ofString "__firstlineno__") 229, val := Value.int 7 228 }, { hash := PyData.keyHash P (Str.ofString "__static_attributes__"), key := Value.str (Str.ofString "__static_attributes__") 230, val := Value.ref 42 }] 4 },
  { cls := Value.type "tuple", data := Data.seq #[] },
  { cls := Value.none, data := Data.fields #[] },
  { cls := Value.type "code", data := Data.fields #[Value.str (Str.ofString "TableError") 220, Value.str (Str.ofString "TableError") 221, Value.str (Str.ofString "/claim/cut.py") 222, Value.int 7 0, Value.int 0 0, Value.int 0 0, Value.int 0 0, Value.int 0 0, Value.ref 38, Value.bool false, Value.int 181 0, Value.ref 39, Value.none, Value.none, Value.none, Value.none, Value.int 223 0, Value.int 7 0, Value.str (Str.ofString "/claim/cut.py") 224] },
  { cls := Value.type "frame", slots := #[some (Value.ref 40), some (Value.ref 3), some (Value.ref 37), none, some (Value.str (Str.ofString "pixelpress.errors") 187), none, some (Value.ref 0)] },
  { cls := Value.type "super", data := Data.fields #[Value.ref 44, Value.ref 44, Value.ref 44] },
  { cls := Value.type "builtin_function_or_method", data := Data.fields #[Value.builtin "object.__init_subclass__", Value.ref 44] },
  { cls := Value.type "builtin_function_or_method", data := Data.fields #[Value.builtin "type.__prepare__", Value.type "type"] },
  { cls := Value.type "dict", data := Data.dict #[{ hash := PyData.keyHash P (Str.ofString "__module__"), key := Value.str (Str.ofString "__module__") 241, val := Value.str (Str.ofString "pixelpress.errors") 187 }, { hash := PyData.keyHash P (Str.ofString "__qualname__"), key := Value.str (Str.ofString "__qualname__") 243, val := Value.str (Str.ofString "CodeError") 242 }, { hash := PyData.keyHash P (Str.ofString "__firstlineno__"), key := Value.str (Str.ofString "__firstlineno__") 245, val := Value.int 9 244 }, { hash := PyData.keyHash P (Str.ofString "__static_attributes__"), key := Value.str (Str.ofString "__static_attributes__") 246, val := Value.ref 54 }] 4 },
  { cls := Value.type "tuple", data := Data.seq #[] },
  { cls := Value.none, data := Data.fields #[] },
  { cls := Value.type "code", data := Data.fields #[Value.str (Str.ofString "CodeError") 236, Value.str (Str.ofString "CodeError") 237, Value.str (Str.ofString "/claim/cut.py") 238, Value.int 9 0, Value.int 0 0, Value.int 0 0, Value.int 0 0, Value.int 0 0, Value.ref 50, Value.bool false, Value.int 181 0, Value.ref 51, Value.none, Value.none, Value.none, Value.none, Value.int 239 0, Value.int 9 0, Value.str (Str.ofString "/claim/cut.py") 240] },
  { cls := Value.type "frame", slots := #[some (Value.ref 52), some (Value.ref 3), some (Value.ref 49), none, some (Value.str (Str.ofString "pixelpress.errors") 187), none, some (Value.ref 0)] },
  { cls := Value.type "super", data := Data.fields #[Value.ref 56, Value.ref 56, Value.ref 56] },
  { cls := Value.type "builtin_function_or_method", data := Data.fields #[Value.builtin "object.__init_subclass__", Value.ref 56] },
  { cls := Value.none, data := Data.fields #[] },
  { cls := Value.none, data := Data.func { name := Str.ofString "merged", qualname := Str.ofString "merged", params := argsOf (cell 7), body := FuncBody.stmts (bodyOf (cell 7)), scope := scopeOf (cell 7), globals := 0, closure := [], defaults := Value.none, kwdefaults := Value.none } },
  { cls := Value.none, data := Data.fields #[] },
  { cls := Value.none, data := Data.func { name := Str.ofString "packed", qualname := Str.ofString "packed", params := argsOf (cell 8), body := FuncBody.stmts (bodyOf (cell 8)), scope := scopeOf (cell 8), globals := 0, closure := [], defaults := Value.none, kwdefaults := Value.none } },
  { cls := Value.none, data := Data.fields #[] },
  { cls := Value.none, data := Data.func { name := Str.ofString "by_worth", qualname := Str.ofString "by_worth", params := argsOf (cell 9), body := FuncBody.stmts (bodyOf (cell 9)), scope := scopeOf (cell 9), globals := 0, closure := [], defaults := Value.none, kwdefaults := Value.none } },
  { cls := Value.none, data := Data.fields #[] },
  { cls := Value.none, data := Data.func { name := Str.ofString "best_sizes", qualname := Str.ofString "best_sizes", params := argsOf (cell 10), body := FuncBody.stmts (bodyOf (cell 10)), scope := scopeOf (cell 10), globals := 0, closure := [], defaults := Value.none, kwdefaults := Value.none } },
  { cls := Value.none, data := Data.fields #[] },
  { cls := Value.none, data := Data.func { name := Str.ofString "table_of", qualname := Str.ofString "table_of", params := argsOf (cell 11), body := FuncBody.stmts (bodyOf (cell 11)), scope := scopeOf (cell 11), globals := 0, closure := [], defaults := Value.none, kwdefaults := Value.none } },
  { cls := Value.none, data := Data.fields #[] },
  { cls := Value.none, data := Data.func { name := Str.ofString "code_rows", qualname := Str.ofString "code_rows", params := argsOf (cell 15), body := FuncBody.stmts (bodyOf (cell 15)), scope := scopeOf (cell 15), globals := 0, closure := [], defaults := Value.none, kwdefaults := Value.none } },
  { cls := Value.none, data := Data.fields #[] },
  { cls := Value.none, data := Data.func { name := Str.ofString "check_told", qualname := Str.ofString "check_told", params := argsOf (cell 16), body := FuncBody.stmts (bodyOf (cell 16)), scope := scopeOf (cell 16), globals := 0, closure := [], defaults := Value.none, kwdefaults := Value.none } },
  { cls := Value.type "tuple", data := Data.seq #[] },
  { cls := Value.type "builtin_function_or_method", data := Data.fields #[Value.builtin "type.__prepare__", Value.type "type"] },
  { cls := Value.type "dict", data := Data.dict #[{ hash := PyData.keyHash P (Str.ofString "__module__"), key := Value.str (Str.ofString "__module__") 341, val := Value.str (Str.ofString "pixelpress.huffman") 306 }, { hash := PyData.keyHash P (Str.ofString "__qualname__"), key := Value.str (Str.ofString "__qualname__") 343, val := Value.str (Str.ofString "HuffTable") 342 }, { hash := PyData.keyHash P (Str.ofString "__firstlineno__"), key := Value.str (Str.ofString "__firstlineno__") 345, val := Value.int 81 344 }, { hash := PyData.keyHash P (Str.ofString "__init__"), key := Value.str (Str.ofString "__init__") 359, val := Value.ref 117 }, { hash := PyData.keyHash P (Str.ofString "code"), key := Value.str (Str.ofString "code") 368, val := Value.ref 124 }, { hash := PyData.keyHash P (Str.ofString "read"), key := Value.str (Str.ofString "read") 380, val := Value.ref 131 }, { hash := PyData.keyHash P (Str.ofString "__static_attributes__"), key := Value.str (Str.ofString "__static_attributes__") 385, val := Value.ref 132 }] 7 },
  { cls := Value.type "tuple", data := Data.seq #[] },
  { cls := Value.none, data := Data.fields #[Value.int 83 0, Value.int 4 0, Value.ref 116, Value.int 94 0, Value.int 4 0, Value.ref 123, Value.int 100 0, Value.int 4 0, Value.ref 130] },
  { cls := Value.type "code", data := Data.fields #[Value.str (Str.ofString "HuffTable") 336, Value.str (Str.ofString "HuffTable") 337, Value.str (Str.ofString "/claim/cut.py") 338, Value.int 81 0, Value.int 0 0, Value.int 0 0, Value.int 0 0, Value.int 0 0, Value.ref 107, Value.bool false, Value.int 181 0, Value.ref 108, Value.none, Value.none, Value.none, Value.none, Value.int 339 0, Value.int 81 0, Value.str (Str.ofString "/claim/cut.py") 340] },
  { cls := Value.type "frame", slots := #[some (Value.ref 109), some (Value.ref 3), some (Value.ref 106), none, some (Value.str (Str.ofString "pixelpress.huffman") 306), none, some (Value.ref 0)] },
  { cls := Value.none, data := Data.fields #[] },
  { cls := Value.none, data := Data.func { name := Str.ofString "__init__", qualname := Str.ofString "HuffTable.__init__", params := argsOf (cls 17 0), body := FuncBody.stmts (bodyOf (cls 17 0)), scope := scopeOf (cls 17 0), globals := 0, closure := [], defaults := Value.none, kwdefaults := Value.none } },
  { cls := Value.none, data := Data.fields #[] },
  { cls := Value.none, data := Data.func { name := Str.ofString "code", qualname := Str.ofString "HuffTable.code", params := argsOf (cls 17 1), body := FuncBody.stmts (bodyOf (cls 17 1)), scope := scopeOf (cls 17 1), globals := 0, closure := [], defaults := Value.none, kwdefaults := Value.none } },
  { cls := Value.none, data := Data.fields #[] },
  { cls := Value.none, data := Data.func { name := Str.ofString "read", qualname := Str.ofString "HuffTable.read", params := argsOf (cls 17 2), body := FuncBody.stmts (bodyOf (cls 17 2)), scope := scopeOf (cls 17 2), globals := 0, closure := [], defaults := Value.none, kwdefaults := Value.none } },
  { cls := Value.type "super", data := Data.fields #[Value.ref 134, Value.ref 134, Value.ref 134] },
  { cls := Value.type "builtin_function_or_method", data := Data.fields #[Value.builtin "object.__init_subclass__", Value.ref 134] },
  { cls := Value.none, data := Data.fields #[] },
  { cls := Value.none, data := Data.func { name := Str.ofString "_law_pool", qualname := Str.ofString "_law_pool", params := argsOf (cell 19), body := FuncBody.stmts (bodyOf (cell 19)), scope := scopeOf (cell 19), globals := 0, closure := [], defaults := Value.none, kwdefaults := Value.none } },
  { cls := Value.none, data := Data.fields #[] },
  { cls := Value.none, data := Data.func { name := Str.ofString "_law_take", qualname := Str.ofString "_law_take", params := argsOf (cell 20), body := FuncBody.stmts (bodyOf (cell 20)), scope := scopeOf (cell 20), globals := 0, closure := [], defaults := Value.none, kwdefaults := Value.none } },
  { cls := Value.none, data := Data.fields #[] },
  { cls := Value.none, data := Data.func { name := Str.ofString "_law_least", qualname := Str.ofString "_law_least", params := argsOf (cell 21), body := FuncBody.stmts (bodyOf (cell 21)), scope := scopeOf (cell 21), globals := 0, closure := [], defaults := Value.none, kwdefaults := Value.none } },
  { cls := Value.none, data := Data.fields #[] },
  { cls := Value.none, data := Data.func { name := Str.ofString "_law_coins", qualname := Str.ofString "_law_coins", params := argsOf (cell 22), body := FuncBody.stmts (bodyOf (cell 22)), scope := scopeOf (cell 22), globals := 0, closure := [], defaults := Value.none, kwdefaults := Value.none } },
  { cls := Value.none, data := Data.fields #[] },
  { cls := Value.none, data := Data.func { name := Str.ofString "_law_rows_right", qualname := Str.ofString "_law_rows_right", params := argsOf (cell 23), body := FuncBody.stmts (bodyOf (cell 23)), scope := scopeOf (cell 23), globals := 0, closure := [], defaults := Value.none, kwdefaults := Value.none } },
  { cls := Value.none, data := Data.fields #[] },
  { cls := Value.none, data := Data.func { name := Str.ofString "_law_told", qualname := Str.ofString "_law_told", params := argsOf (cell 24), body := FuncBody.stmts (bodyOf (cell 24)), scope := scopeOf (cell 24), globals := 0, closure := [], defaults := Value.none, kwdefaults := Value.none } },
  { cls := Value.none, data := Data.fields #[] },
  { cls := Value.none, data := Data.func { name := Str.ofString "law", qualname := Str.ofString "law", params := argsOf (cell 25), body := FuncBody.stmts (bodyOf (cell 25)), scope := scopeOf (cell 25), globals := 0, closure := [], defaults := Value.none, kwdefaults := Value.none } }]
noncomputable def topHp0 (P : Params) : Heap := { objs := (((((topObjs P).take 15).set 2 (boot_o_2 P)).set 3 (boot_o_3 P)).set 12 ({ cls := Value.none, data := Data.fields #[] })).toArray }
noncomputable def topHp1 (P : Params) : Heap := { objs := (((((topObjs P).take 47).set 3 ({ cls := Value.type "dict", data := Data.dict #[{ hash := PyData.keyHash P (Str.ofString "__name__"), key := Value.str (Str.ofString "__name__") 165, val := Value.str (Str.ofString "pixelpress.errors") 187 }, { hash := PyData.keyHash P (Str.ofString "__doc__"), key := Value.str (Str.ofString "__doc__") 166, val := Value.none }, { hash := PyData.keyHash P (Str.ofString "__package__"), key := Value.str (Str.ofString "__package__") 167, val := Value.none }, { hash := PyData.keyHash P (Str.ofString "__loader__"), key := Value.str (Str.ofString "__loader__") 168, val := Value.builtin "__main__.__loader__#opaque" }, { hash := PyData.keyHash P (Str.ofString "__spec__"), key := Value.str (Str.ofString "__spec__") 169, val := Value.none }, { hash := PyData.keyHash P (Str.ofString "__annotations__"), key := Value.str (Str.ofString "__annotations__") 170, val := Value.ref 6 }, { hash := PyData.keyHash P (Str.ofString "__builtins__"), key := Value.str (Str.ofString "__builtins__") 171, val := Value.ref 4 }, { hash := PyData.keyHash P (Str.ofString "__file__"), key := Value.str (Str.ofString "__file__") 173, val := Value.str (Str.ofString "/claim/cut.py") 172 }, { hash := PyData.keyHash P (Str.ofString "__cached__"), key := Value.str (Str.ofString "__cached__") 174, val := Value.none }, { hash := PyData.keyHash P (Str.ofString "PressError"), key := Value.str (Str.ofString "PressError") 217, val := Value.ref 31 }, { hash := PyData.keyHash P (Str.ofString "TableError"), key := Value.str (Str.ofString "TableError") 233, val := Value.ref 44 }] 11 })).set 12 ({ cls := Value.none, data := Data.fields #[Value.int 2 0, Value.int 0 0, Value.ref 20, Value.int 7 0, Value.int 0 0, Value.ref 40] })).set 31 ({ cls := Value.type "type", data := Data.cls { name := Str.ofString "PressError", bases := [Value.type "Exception"], mro := [Value.ref 31, Value.type "Exception", Value.type "BaseException", Value.type "object"], ns := 30, qualname := Str.ofString "PressError", subclasses := [Value.ref 44] }, slots := #[some (Value.ref 15), none, some (Value.str (Str.ofString "PressError") 189), some (Value.str (Str.ofString "PressError") 197), some (Value.builtin "Exception.__new__"), some (Value.bool true)] })).toArray }
noncomputable def topHp2 (P : Params) : Heap := { objs := ((((topObjs P).take 104).set 3 ({ cls := Value.type "dict", data := Data.dict #[{ hash := PyData.keyHash P (Str.ofString "__name__"), key := Value.str (Str.ofString "__name__") 165, val := Value.str (Str.ofString "pixelpress.huffman") 306 }, { hash := PyData.keyHash P (Str.ofString "__doc__"), key := Value.str (Str.ofString "__doc__") 166, val := Value.none }, { hash := PyData.keyHash P (Str.ofString "__package__"), key := Value.str (Str.ofString "__package__") 167, val := Value.none }, { hash := PyData.keyHash P (Str.ofString "__loader__"), key := Value.str (Str.ofString "__loader__") 168, val := Value.builtin "__main__.__loader__#opaque" }, { hash := PyData.keyHash P (Str.ofString "__spec__"), key := Value.str (Str.ofString "__spec__") 169, val := Value.none }, { hash := PyData.keyHash P (Str.ofString "__annotations__"), key := Value.str (Str.ofString "__annotations__") 170, val := Value.ref 6 }, { hash := PyData.keyHash P (Str.ofString "__builtins__"), key := Value.str (Str.ofString "__builtins__") 171, val := Value.ref 4 }, { hash := PyData.keyHash P (Str.ofString "__file__"), key := Value.str (Str.ofString "__file__") 173, val := Value.str (Str.ofString "/claim/cut.py") 172 }, { hash := PyData.keyHash P (Str.ofString "__cached__"), key := Value.str (Str.ofString "__cached__") 174, val := Value.none }, { hash := PyData.keyHash P (Str.ofString "PressError"), key := Value.str (Str.ofString "PressError") 217, val := Value.ref 31 }, { hash := PyData.keyHash P (Str.ofString "TableError"), key := Value.str (Str.ofString "TableError") 233, val := Value.ref 44 }, { hash := PyData.keyHash P (Str.ofString "CodeError"), key := Value.str (Str.ofString "CodeError") 249, val := Value.ref 56 }, { hash := PyData.keyHash P (Str.ofString "MOST_BITS_huffman_build"), key := Value.str (Str.ofString "MOST_BITS_huffman_build") 253, val := Value.int 16 252 }, { hash := PyData.keyHash P (Str.ofString "NOBODY"), key := Value.str (Str.ofString "NOBODY") 256, val := Value.int (-1) 255 }, { hash := PyData.keyHash P (Str.ofString "merged"), key := Value.str (Str.ofString "merged") 267, val := Value.ref 65 }, { hash := PyData.keyHash P (Str.ofString "packed"), key := Value.str (Str.ofString "packed") 278, val := Value.ref 72 }, { hash := PyData.keyHash P (Str.ofString "by_worth"), key := Value.str (Str.ofString "by_worth") 284, val := Value.ref 77 }, { hash := PyData.keyHash P (Str.ofString "best_sizes"), key := Value.str (Str.ofString "best_sizes") 299, val := Value.ref 84 }, { hash := PyData.keyHash P (Str.ofString "table_of"), key := Value.str (Str.ofString "table_of") 305, val := Value.ref 89 }, { hash := PyData.keyHash P (Str.ofString "MOST_BITS_huffman"), key := Value.str (Str.ofString "MOST_BITS_huffman") 309, val := Value.int 16 308 }, { hash := PyData.keyHash P (Str.ofString "MOST_SYMBOLS"), key := Value.str (Str.ofString "MOST_SYMBOLS") 311, val := Value.int 256 310 }, { hash := PyData.keyHash P (Str.ofString "code_rows"), key := Value.str (Str.ofString "code_rows") 323, val := Value.ref 96 }, { hash := PyData.keyHash P (Str.ofString "check_told"), key := Value.str (Str.ofString "check_told") 333, val := Value.ref 103 }] 23 })).set 12 ({ cls := Value.none, data := Data.fields #[Value.int 2 0, Value.int 0 0, Value.ref 20, Value.int 7 0, Value.int 0 0, Value.ref 40, Value.int 9 0, Value.int 0 0, Value.ref 52, Value.int 14 0, Value.int 0 0, Value.ref 64, Value.int 25 0, Value.int 0 0, Value.ref 71, Value.int 31 0, Value.int 0 0, Value.ref 76, Value.int 34 0, Value.int 0 0, Value.ref 83, Value.int 50 0, Value.int 0 0, Value.ref 88, Value.int 59 0, Value.int 0 0, Value.ref 95, Value.int 71 0, Value.int 0 0, Value.ref 102] })).toArray }
noncomputable def topHp3 (P : Params) : Heap := { objs := ((((topObjs P).take 139).set 3 ({ cls := Value.type "dict", data := Data.dict #[{ hash := PyData.keyHash P (Str.ofString "__name__"), key := Value.str (Str.ofString "__name__") 165, val := Value.str (Str.ofString "pixelpress.huffman") 306 }, { hash := PyData.keyHash P (Str.ofString "__doc__"), key := Value.str (Str.ofString "__doc__") 166, val := Value.none }, { hash := PyData.keyHash P (Str.ofString "__package__"), key := Value.str (Str.ofString "__package__") 167, val := Value.none }, { hash := PyData.keyHash P (Str.ofString "__loader__"), key := Value.str (Str.ofString "__loader__") 168, val := Value.builtin "__main__.__loader__#opaque" }, { hash := PyData.keyHash P (Str.ofString "__spec__"), key := Value.str (Str.ofString "__spec__") 169, val := Value.none }, { hash := PyData.keyHash P (Str.ofString "__annotations__"), key := Value.str (Str.ofString "__annotations__") 170, val := Value.ref 6 }, { hash := PyData.keyHash P (Str.ofString "__builtins__"), key := Value.str (Str.ofString "__builtins__") 171, val := Value.ref 4 }, { hash := PyData.keyHash P (Str.ofString "__file__"), key := Value.str (Str.ofString "__file__") 173, val := Value.str (Str.ofString "/claim/cut.py") 172 }, { hash := PyData.keyHash P (Str.ofString "__cached__"), key := Value.str (Str.ofString "__cached__") 174, val := Value.none }, { hash := PyData.keyHash P (Str.ofString "PressError"), key := Value.str (Str.ofString "PressError") 217, val := Value.ref 31 }, { hash := PyData.keyHash P (Str.ofString "TableError"), key := Value.str (Str.ofString "TableError") 233, val := Value.ref 44 }, { hash := PyData.keyHash P (Str.ofString "CodeError"), key := Value.str (Str.ofString "CodeError") 249, val := Value.ref 56 }, { hash := PyData.keyHash P (Str.ofString "MOST_BITS_huffman_build"), key := Value.str (Str.ofString "MOST_BITS_huffman_build") 253, val := Value.int 16 252 }, { hash := PyData.keyHash P (Str.ofString "NOBODY"), key := Value.str (Str.ofString "NOBODY") 256, val := Value.int (-1) 255 }, { hash := PyData.keyHash P (Str.ofString "merged"), key := Value.str (Str.ofString "merged") 267, val := Value.ref 65 }, { hash := PyData.keyHash P (Str.ofString "packed"), key := Value.str (Str.ofString "packed") 278, val := Value.ref 72 }, { hash := PyData.keyHash P (Str.ofString "by_worth"), key := Value.str (Str.ofString "by_worth") 284, val := Value.ref 77 }, { hash := PyData.keyHash P (Str.ofString "best_sizes"), key := Value.str (Str.ofString "best_sizes") 299, val := Value.ref 84 }, { hash := PyData.keyHash P (Str.ofString "table_of"), key := Value.str (Str.ofString "table_of") 305, val := Value.ref 89 }, { hash := PyData.keyHash P (Str.ofString "MOST_BITS_huffman"), key := Value.str (Str.ofString "MOST_BITS_huffman") 309, val := Value.int 16 308 }, { hash := PyData.keyHash P (Str.ofString "MOST_SYMBOLS"), key := Value.str (Str.ofString "MOST_SYMBOLS") 311, val := Value.int 256 310 }, { hash := PyData.keyHash P (Str.ofString "code_rows"), key := Value.str (Str.ofString "code_rows") 323, val := Value.ref 96 }, { hash := PyData.keyHash P (Str.ofString "check_told"), key := Value.str (Str.ofString "check_told") 333, val := Value.ref 103 }, { hash := PyData.keyHash P (Str.ofString "HuffTable"), key := Value.str (Str.ofString "HuffTable") 392, val := Value.ref 134 }] 24 })).set 12 ({ cls := Value.none, data := Data.fields #[Value.int 2 0, Value.int 0 0, Value.ref 20, Value.int 7 0, Value.int 0 0, Value.ref 40, Value.int 9 0, Value.int 0 0, Value.ref 52, Value.int 14 0, Value.int 0 0, Value.ref 64, Value.int 25 0, Value.int 0 0, Value.ref 71, Value.int 31 0, Value.int 0 0, Value.ref 76, Value.int 34 0, Value.int 0 0, Value.ref 83, Value.int 50 0, Value.int 0 0, Value.ref 88, Value.int 59 0, Value.int 0 0, Value.ref 95, Value.int 71 0, Value.int 0 0, Value.ref 102, Value.int 81 0, Value.int 0 0, Value.ref 109] })).toArray }
noncomputable def topHp4 (P : Params) : Heap := { objs := ((topObjs P).take 180).toArray }
noncomputable abbrev topP : Program := PySem.Challenge.rw_ok0135_01.row.prog
noncomputable def topB : List Stmt := behindTheImports topP
noncomputable def topEnv : Env := { scope := topP.main.scope, locals := mainNs, globals := mainNs, cells := [], code := .ref 13, frame := some 14 }
noncomputable abbrev topCode : Code := .body topB topEnv
noncomputable abbrev topFr : List Frame := [topFrame ⟨0, 0, 0, 0⟩]
noncomputable abbrev topSt0 (w : World) (os : OsState) : Shared := ⟨topHp0 w.params, #[], {}, 187, os⟩
noncomputable abbrev topSt1 (w : World) (os : OsState) : Shared := ⟨topHp1 w.params, #[], {}, 234, os⟩
noncomputable abbrev topSt2 (w : World) (os : OsState) : Shared := ⟨topHp2 w.params, #[], {}, 334, os⟩
noncomputable abbrev topSt3 (w : World) (os : OsState) : Shared := ⟨topHp3 w.params, #[], {}, 393, os⟩
noncomputable abbrev topSt4 (w : World) (os : OsState) : Shared := ⟨topHp4 w.params, #[], {}, 446, os⟩
theorem top_a (w : World) (os : OsState) : topGo treeTable topP w 11 (some (.ref 6)) 12 ⟨boot_heap w.params, #[], boot_drawn, boot_toks, os⟩ (topStub topP) = some (topSt0 w os, ⟨denote treeTable topCode, topCode, ⟨0, 0, 0, 0⟩, topFr⟩) := by kernel_rfl
theorem top_0 (w : World) (os : OsState) : segRun treeTable topP w 11 (some (.ref 6)) 1 1 (topSt0 w os) (blockOf topB topEnv topCode ⟨0, 0, 0, 0⟩ topFr) = some (.next, topSt0 w os, topCode, ⟨0, 0, 0, 0⟩) := by kernel_rfl
theorem top_1 (w : World) (os : OsState) : segRun treeTable topP w 11 (some (.ref 6)) 1 451 (topSt0 w os) (piecesOf (topB.take 3) topEnv topCode ⟨0, 0, 0, 0⟩ topFr) = some (.next, topSt1 w os, topCode, ⟨7, 0, 8, 8⟩) := by kernel_rfl
theorem top_2 (w : World) (os : OsState) : segRun treeTable topP w 11 (some (.ref 6)) 1 494 (topSt1 w os) (piecesOf ((topB.drop 3).take 14) topEnv topCode ⟨7, 0, 8, 8⟩ topFr) = some (.next, topSt2 w os, topCode, ⟨71, 0, 80, 23⟩) := by kernel_rfl
theorem top_3 (w : World) (os : OsState) : segRun treeTable topP w 11 (some (.ref 6)) 1 301 (topSt2 w os) (piecesOf (((topB.drop 3).drop 14).take 1) topEnv topCode ⟨71, 0, 80, 23⟩ topFr) = some (.next, topSt3 w os, topCode, ⟨81, 0, 106, 44⟩) := by kernel_rfl
theorem top_4 (w : World) (os : OsState) : segRun treeTable topP w 11 (some (.ref 6)) 1 207 (topSt3 w os) (piecesOf ((((topB.drop 3).drop 14).drop 1).take 8) topEnv topCode ⟨81, 0, 106, 44⟩ topFr) = some (.next, topSt4 w os, topCode, ⟨149, 0, 177, 99⟩) := by kernel_rfl
theorem top_f (w : World) (os : OsState) : topRun treeTable topP w 11 (some (.ref 6)) 2 (topSt4 w os) (restOf ((((topB.drop 3).drop 14).drop 1).drop 8) topEnv topCode ⟨149, 0, 177, 99⟩ topFr) = some (topSt4 w os) := by kernel_rfl
theorem piece_cut {tb : String → Option Builtin} {p : Program} {w : World} {n₀ : Nat} {ann : Option Value} {env : Env} {q : Pos} {n N k : Nat} {s s' r : Shared} {b : List Stmt} {c : Code} {pos p' : Pos} (h : segRun tb p w n₀ ann 1 n s (piecesOf (b.take k) env c pos [topFrame q]) = some (.next, s', c, p'))
    (kk : topRun tb p w n₀ ann N s' (restOf (b.drop k) env c p' [topFrame q]) = some r) : topRun tb p w n₀ ann (n + N) s (restOf b env c pos [topFrame q]) = some r := by
  have h9 := piece_app h kk
  rwa [List.take_append_drop] at h9
theorem top_run (w : World) (os : OsState) : topRun treeTable topP w 11 (some (.ref 6)) (12 + (1 + (451 + (494 + (301 + (207 + 2)))))) ⟨boot_heap w.params, #[], boot_drawn, boot_toks, os⟩ (topStub topP) = some (topSt4 w os) := go_top (top_a w os) (piece_block (top_0 w os) (piece_cut (top_1 w os) (piece_cut (top_2 w os) (piece_cut (top_3 w os) (piece_cut (top_4 w os) (top_f w os))))))
theorem top_open (w : World) : (fencedOpening treeTable topP w 3024).map (fun s => (s.heap, s.gens, s.drawn, s.toks)) = some (boot_heap w.params, #[], boot_drawn, boot_toks) := by kernel_rfl
theorem top_size (w : World) : ((boot_heap w.params).isNs mainGlobals && (#[] : Array GenState).size == 0, (boot_heap w.params).objs.size, (boot_heap w.params).nsMap mainGlobals "__annotations__") = (true, 11, some (.ref 6)) := by kernel_rfl
theorem left_ok : LeftO PySem.Challenge.rw_ok0135_01.row.prog hdV [] (fun s => xlAt hdV [] s && recOk PySem.Challenge.rw_ok0135_01.row.records s) (kHook hdK hdA hdE).obs (kHook hdK hdA hdE).val 3024 :=
  LeftO.of_pieces (H₀ := boot_heap) (H₁ := topHp4) (M := (12 + (1 + (451 + (494 + (301 + (207 + 2))))))) top_open top_size top_run rfl (fun w => by kernel_rfl)
theorem ok_ok : (chainsOk hdV && opensWell PySem.Challenge.rw_ok0135_01.row.prog && (frees PySem.Challenge.rw_ok0135_01.row.toRowW && PySem.Challenge.rw_ok0135_01.row.within.isEmpty)) = true := by decide +kernel
theorem bare_ok : PySem.Challenge.rw_ok0135_01.row.prog.bare := ⟨rfl, rfl, rfl, rfl, rfl, by decide +kernel⟩
theorem prom_ok : PySem.Challenge.rw_ok0135_01.row.toRowW.promised := ⟨[WData.list []], by decide +kernel, by decide +kernel⟩
end --T_Hd

section --T_Bas
open PySem PySem.W PyProof.Rows PySem.Spec PySem.Calls
noncomputable abbrev Coin := Int × List Int
noncomputable def cD (c : Coin) : Dat := .tuple [.int c.1, .list (c.2.map .int)]
noncomputable def csD (cs : List Coin) : Dat := .list (cs.map cD)
noncomputable abbrev Led := List (Addr × Obj)
noncomputable abbrev tupL (vs : List Value) (n : Nat) : Obj := { cls := .type "tuple", data := .seq vs.toArray n }
noncomputable abbrev tupO (vs : List Value) (n : Nat) : Obj := { cls := .type "tuple", data := .seq vs.toArray n }

theorem all_nil {α : Type} {Φ : α → Prop} : ∀ p, p ∈ ([] : List α) → Φ p := fun _ h => nomatch h
theorem all_cons {α : Type} {Φ : α → Prop} {a : α} {l : List α} (h : Φ a) (t : ∀ p, p ∈ l → Φ p) : ∀ p, p ∈ a :: l → Φ p := List.forall_mem_cons.mpr ⟨h, t⟩
theorem all_app {α : Type} {Φ : α → Prop} {l m : List α} (h : ∀ p, p ∈ l → Φ p) (t : ∀ p, p ∈ m → Φ p) : ∀ p, p ∈ l ++ m → Φ p := fun p hp => (List.mem_append.mp hp).elim (h p) (t p)
theorem all_of_eq {α : Type} {Φ : α → Prop} {l m : List α} (e : l = m) (h : ∀ p, p ∈ m → Φ p) : ∀ p, p ∈ l → Φ p := e ▸ h
theorem mem_of_eq {α : Type} {a : α} {l m : List α} (e : l = m) (h : a ∈ m) : a ∈ l := e ▸ h
noncomputable def DatOf (news : Led) (v : Value) : Dat → Prop
  | .int i => ∃ t, v = .int i t
  | .tuple ds => ∃ a vs n, v = .ref a ∧ (a, tupO vs n) ∈ news ∧ DatAll news vs ds
  | .list ds => ∃ a vs n, v = .ref a ∧ (a, listOf vs.toArray n) ∈ news ∧ DatAll news vs ds
  | _ => True
noncomputable def AllOf (news : Led) (vs : List Value) : List Dat → Prop
  | [] => vs = []
  | d :: ds => ∃ v r, vs = v :: r ∧ DatIn news v d ∧ DatAll news r ds
theorem datOf {news : Led} {v : Value} {d : Dat} (h : DatIn news v d) : DatOf news v d := by
  cases h with
  | int i t => exact ⟨t, rfl⟩
  | tuple h1 h2 => exact ⟨_, _, _, rfl, h1, h2⟩
  | list h1 h2 => exact ⟨_, _, _, rfl, h1, h2⟩
  | _ => trivial
theorem allOf {news : Led} {vs : List Value} {ds : List Dat} (h : DatAll news vs ds) : AllOf news vs ds := by
  cases h with
  | nil => rfl
  | cons h1 h2 => exact ⟨_, _, rfl, h1, h2⟩
theorem datInt {news : Led} {v : Value} {i : Int} (h : DatIn news v (.int i)) : ∃ t, v = .int i t := datOf h
theorem datTup {news : Led} {v : Value} {ds : List Dat} (h : DatIn news v (.tuple ds)) : ∃ a vs n, v = .ref a ∧ (a, tupO vs n) ∈ news ∧ DatAll news vs ds := datOf h
theorem datLst {news : Led} {v : Value} {ds : List Dat} (h : DatIn news v (.list ds)) : ∃ a vs n, v = .ref a ∧ (a, listOf vs.toArray n) ∈ news ∧ DatAll news vs ds := datOf h
theorem datRef {news : Led} {v : Value} {ds : List Dat} (h : DatIn news v (.list ds)) : ∃ c : Addr, v = .ref c := (datLst h).elim fun a h => ⟨a, h.elim fun _ h => h.elim fun _ h => h.1⟩
theorem datCons {news : Led} {vs : List Value} {d : Dat} {ds : List Dat} (h : DatAll news vs (d :: ds)) : ∃ v r, vs = v :: r ∧ DatIn news v d ∧ DatAll news r ds := allOf h
theorem datNil {news : Led} {vs : List Value} (h : DatAll news vs []) : vs = [] := allOf h
theorem datList {news : Led} {a : Addr} {ds : List Dat} (h : DatIn news (.ref a) (.list ds)) : ∃ vs nn, (a, listOf vs.toArray nn) ∈ news ∧ DatAll news vs ds :=
  let ⟨_, vs, n, e, h1, h2⟩ := datLst h
  ⟨vs, n, by injection e with e; rw [e]; exact h1, h2⟩
theorem datIn_ok {news news' : Led} {Ok : Obj → Prop} (ht : ∀ (vs : List Value) n, Ok (tupO vs n)) (hl : ∀ (vs : List Value) n, Ok (listOf vs.toArray n)) (hs : ∀ p ∈ news, Ok p.2 → p ∈ news') {v : Value} {d : Dat} (h : DatIn news v d) : DatIn news' v d :=
  DatIn.rec (motive_1 := fun v d _ => DatIn news' v d) (motive_2 := fun vs ds _ => DatAll news' vs ds) .none .bool .int .str .bytes (fun h _ ih => .tuple (hs _ h (ht _ _)) ih) (fun h _ ih => .list (hs _ h (hl _ _)) ih) .nil (fun _ _ i j => .cons i j) h
theorem cD_inv {news : Led} {v : Value} {c : Coin} (h : DatIn news v (cD c)) :
    ∃ (a : Addr) (t : Tok) (b : Addr) (n : Nat), v = .ref a ∧ (a, tupO [.int c.1 t, .ref b] n) ∈ news ∧ DatIn news (.ref b) (.list (c.2.map .int)) := by
  obtain ⟨a, _, n, rfl, h1, h2⟩ := datTup h
  obtain ⟨_, _, rfl, h3, h2⟩ := datCons h2
  obtain ⟨_, _, rfl, h4, h2⟩ := datCons h2
  obtain rfl := datNil h2
  obtain ⟨t, rfl⟩ := datInt h3
  obtain ⟨b, _, _, rfl, h5, h6⟩ := datLst h4
  exact ⟨a, t, b, n, rfl, h1, .list h5 h6⟩
section
variable {prog : Program} {w : World} {A : Around} {E : Value → Shared → Prop} {s : Shared} {h₀ : Heap} {L l : Addr}
theorem my_len {news : Led} {us : List Value} {k n : Nat} {Q : Value → Shared → Prop} (N : News h₀ L s.heap news) (hm : (l, listOf us.toArray n) ∈ news) (hd : us.length = k) (hfit : k < 2 ^ 62)
    (h : Q (.int (k : Int) (s.toks + 1)) { s with toks := s.toks + 1 + 1 }) : wpAny (model prog w) A (call (.builtin "len") [.ref l]) Q E s := by
  have hl : s.heap.IsList l us.toArray := ⟨_, (N _ hm).1, rfl, n, rfl⟩
  have e : us.toArray.size = k := by rw [List.size_toArray, hd]
  exact len_list hl (by rw [e]; (first | lia | omega)) (by rw [e]; exact h)
theorem coin_item {value slice : PySem.Expr} {news L9 : Led} {us : List Value} {cs : List Coin} {n : Nat} {i : Nat} {u : Tok} {Q : Value → Shared → Prop} (N : News h₀ L s.heap news) (hm : (l, listOf us.toArray n) ∈ news) (hd : DatAll L9 us (cs.map cD))
    (h1 : i < cs.length) (hfit : i < 2 ^ 62) (h : ∀ a t b n, (a, tupO [.int (cs[i]'h1).1 t, .ref b] n) ∈ L9 → DatIn L9 (.ref b) (.list ((cs[i]'h1).2.map .int)) → DatIn L9 (.ref a) (cD (cs[i]'h1)) → Q (.ref a) s)
    (hs : subscripted slice false (.ref l) (.int (i : Int) u) = operate [.ref l, .int (i : Int) u] (getItem (.ref l) (.int (i : Int) u)) := by with_unfolding_all rfl) :
    wpAny (model prog w) A (subscriptTail value slice (.ref l) (.int (i : Int) u)) Q E s := by
  refine kd_item N hm hd (by (first | lia | omega)) (by rw [List.length_map]; (first | lia | omega)) (by (first | lia | omega)) (fun v d e _ hD => ?_) hs
  rw [Int.toNat_natCast, List.getElem?_map, List.getElem?_eq_getElem h1] at e
  cases e
  obtain ⟨a, t, b, n', rfl, h2, h3⟩ := cD_inv hD
  exact h a t b n' h2 h3 hD
end
theorem fm_swap {x z : Str} {A A' B : Option Value} {R : Str → Option Value} (h : x ≠ z) : (fun y => if y = x then A' else if y = z then B else if y = x then A else R y) = (fun y => if y = z then B else if y = x then A' else R y) := by
  funext y
  by_cases h1 : y = x
  · subst h1; simp [h]
  · simp [h1]
theorem fm_same {x : Str} {A A' : Option Value} {R : Str → Option Value} : (fun y => if y = x then A' else if y = x then A else R y) = (fun y => if y = x then A' else R y) := by
  funext y
  by_cases h1 : y = x
  · simp [h1]
  · simp [h1]
section
variable {prog : Program} {w : World} {A : Around} {E : Value → Shared → Prop} {s : Shared} {h₀ : Heap} {L l : Addr}
theorem coin_item1 {value slice : PySem.Expr} {news L9 : Led} {us : List Value} {cs : List Coin} {n : Nat} {i : Nat} {u : Tok} {Q : Value → Shared → Prop} (N : News h₀ L s.heap news) (hm : (l, listOf us.toArray n) ∈ news) (hd : DatAll L9 us (cs.map cD))
    (h1 : i + 1 < cs.length) (hfit : i + 1 < 2 ^ 62) (h : ∀ a t b n, (a, tupO [.int (cs[i + 1]'h1).1 t, .ref b] n) ∈ L9 → DatIn L9 (.ref b) (.list ((cs[i + 1]'h1).2.map .int)) → DatIn L9 (.ref a) (cD (cs[i + 1]'h1)) → Q (.ref a) s)
    (hs : subscripted slice false (.ref l) (.int ((i : Int) + 1) u) = operate [.ref l, .int ((i : Int) + 1) u] (getItem (.ref l) (.int ((i : Int) + 1) u)) := by with_unfolding_all rfl) :
    wpAny (model prog w) A (subscriptTail value slice (.ref l) (.int ((i : Int) + 1) u)) Q E s := by
  have e : ((i : Int) + 1) = ((i + 1 : Nat) : Int) := rfl
  rw [e] at hs ⊢
  exact coin_item N hm hd h1 hfit h hs
end
theorem fmH1 {x1 : Str} {v1 : Option Value} {m : Str → Option Value} (h1 : m x1 = v1) : m = (fun y => if y = x1 then v1 else m y) := by
  funext y
  split
  · rename_i e; rw [e, h1]
  · rfl
theorem fmH2 {x1 x2 : Str} {v1 v2 : Option Value} {m : Str → Option Value} (h1 : m x1 = v1) (h2 : m x2 = v2) : m = (fun y => if y = x1 then v1 else if y = x2 then v2 else m y) := by
  funext y; (repeat' split) <;> simp_all
theorem fmH3 {x1 x2 x3 : Str} {v1 v2 v3 : Option Value} {m : Str → Option Value} (h1 : m x1 = v1) (h2 : m x2 = v2) (h3 : m x3 = v3) : m = (fun y => if y = x1 then v1 else if y = x2 then v2 else if y = x3 then v3 else m y) := by
  funext y; (repeat' split) <;> simp_all
theorem fmH4 {x1 x2 x3 x4 : Str} {v1 v2 v3 v4 : Option Value} {m : Str → Option Value} (h1 : m x1 = v1) (h2 : m x2 = v2) (h3 : m x3 = v3) (h4 : m x4 = v4) : m = (fun y => if y = x1 then v1 else if y = x2 then v2 else if y = x3 then v3 else if y = x4 then v4 else m y) := by
  funext y; (repeat' split) <;> simp_all
section
variable {prog : Program} {w : World} {A : Around} {E : Value → Shared → Prop} {s : Shared} {env : Env} {h₀ : Heap} {x : Str} {body : List Stmt} {Q : Flow → Shared → Prop}
theorem my_range {r : Addr} {a₀ b₀ c : Int} {t₀ u₀ v₀ : Tok} (n : Nat) {m₀ : Str → Option Value} {news : Led} (J : Nat → (Str → Option Value) → Led → Prop)
    (hh : A.handled = none) (hr : IsRange s.heap r a₀ b₀ c t₀ u₀ v₀) (hsmall : Builtin.Range.small a₀ b₀ c = true) (hsz : Builtin.Range.rangeSize a₀ b₀ c = (n : Int)) (F : Fr h₀ env.locals s.heap m₀) (N : News h₀ env.locals s.heap news) (hj : J 0 m₀ news)
    (turn : ∀ i t m₁ nx h tk own, i < n → OwnOff own (nx.map (·.1)) → J i m₁ nx → Fr h₀ env.locals h (fun y => if y = x then some (.int (a₀ + (i : Int) * c) t) else m₁ y) → News h₀ env.locals h (nx ++ own) →
      wpAny (model prog w) A (execs body env) (InvPostG h₀ env.locals (J (i + 1)) own { s with heap := h, toks := tk } Q) E { s with heap := h, toks := tk })
    (done : ∀ m₁ nx h tk, J n m₁ nx → Fr h₀ env.locals h m₁ → News h₀ env.locals h nx → Q .next { s with heap := h, toks := tk }) :
    wpAny (model prog w) A (pyIter (.ref r)) (fun it s₂ => LoopAtV prog w A h₀ env x body Q E it s₂) E s := by
  refine wpAny_pyIter_range hr hsmall ?_
  have W : Walks prog w A s.heap.objs.size [s.heap.objs.size] [s.heap.objs.size] n (fun i v => i < n ∧ ∃ t, v = .int (a₀ + i * c) t)
      (fun i h => IsRangeIter h s.heap.objs.size (a₀ + (i : Nat) * c) ((n : Int) - (i : Nat)) c) := (Walks.range hh _ a₀ c n).bound
  refine kdr_loop J W (fun _ h => h) (fun _ h => h) ?_ ?_ ?_ ?_ (by show IsRangeIter _ _ _ _ _; rw [hsz]; simpa using Heap.get?_push_size _ rfl) (F.push _) (fun p hp => ⟨Heap.get?_push_of_some _ (N p hp).1, (N p hp).2⟩) hj ?_ done
  · intro i h hi b hb
    rw [List.mem_singleton.mp hb]
    exact ⟨_, hi⟩
  · intro hm
    exact absurd F.ns.lt ((List.mem_singleton.mp hm) ▸ Nat.lt_irrefl _)
  · intro b hb
    rw [List.mem_singleton.mp hb]
    exact next_is_new F
  · intro p hp hI
    exact absurd (Heap.lt_size (N p hp).1) ((List.mem_singleton.mp hI) ▸ Nat.lt_irrefl _)
  · rintro i v m₁ nx h tk own hi ⟨_, t, rfl⟩ hoff hJ F₁ N₁
    exact turn i t m₁ nx h tk own hi hoff hJ F₁ N₁
end
theorem size_two (n : Nat) : Builtin.Range.rangeSize 0 ((n : Int) - 1) 2 = ((n / 2 : Nat) : Int) := by
  unfold Builtin.Range.rangeSize
  split <;> rename_i h <;> simp at * <;> (first | lia | omega)
theorem small_two {n : Nat} (h : n ≤ 5000) : Builtin.Range.small 0 ((n : Int) - 1) 2 = true := by
  unfold Builtin.Range.small
  rw [size_two]
  simp only [Builtin.Range.rangeFitsLong, Bool.and_eq_true, Bool.or_eq_true, decide_eq_true_eq, beq_iff_eq]
  refine ⟨by (first | lia | omega), .inr ?_⟩
  rw [if_pos (by decide)]
  simp only [Bool.and_eq_true, decide_eq_true_eq]
  (first | lia | omega)
theorem ints_of {L : Led} : ∀ {us : List Value} {ns : List Int}, DatAll L us (ns.map .int) → IntsAre us ns
  | [], [], _ => .nil
  | [], _ :: _, h => nomatch h
  | _ :: _, [], h => nomatch h
  | _ :: _, _ :: _, .cons h r => by cases h; exact .cons _ _ (ints_of r)
theorem dat_ints {L : Led} : ∀ {us : List Value} {ns : List Int}, IntsAre us ns → DatAll L us (ns.map .int)
  | _, _, .nil => .nil
  | _, _, .cons _ _ r => .cons (.int _ _) (dat_ints r)
theorem datInts {L : Led} {a : Addr} {ns : List Int} (h : DatIn L (.ref a) (.list (ns.map .int))) : ∃ us n, (a, listOf us.toArray n) ∈ L ∧ IntsAre us ns := by
  obtain ⟨us, n, h1, h2⟩ := datList h
  exact ⟨us, n, h1, ints_of h2⟩
section
variable {prog : Program} {w : World} {A : Around} {E : Value → Shared → Prop} {s : Shared} {h₀ : Heap} {L a b : Addr} {m : Str → Option Value}
theorem add_ints {news L1 L2 : Led} {ns ms : List Int} {Q : Value → Shared → Prop} (F : Fr h₀ L s.heap m) (N : News h₀ L s.heap news) (d1 : DatIn L1 (.ref a) (.list (ns.map .int))) (d2 : DatIn L2 (.ref b) (.list (ms.map .int)))
    (s1 : ∀ p ∈ L1, p ∈ news) (s2 : ∀ p ∈ L2, p ∈ news) (z : ns.length + ms.length ≤ 5000)
    (h : ∀ D us h', Fr h₀ L h' m → News h₀ L h' ((D, listOf (List.toArray us) 0) :: news) → (∀ p ∈ news, p.1 < D) → IntsAre us (ns ++ ms) → Q (.ref D) { s with heap := h' }) :
    wpAny (model prog w) A (binaryOp .Add (.ref a) (.ref b)) Q E s := by
  obtain ⟨us1, n1, m1, i1⟩ := datInts d1
  obtain ⟨us2, n2, m2, i2⟩ := datInts d2
  exact kmk_add_ints F N (News.isList N (s1 _ m1)) (News.isList N (s2 _ m2)) i1 i2 h (by rw [sizeLine_eq]; (first | lia | omega))
end
theorem acc_end {h₀ : Heap} {L lf : Addr} {J : (Str → Option Value) → Led → Prop} {m' : Str → Option Value} {own news' rest tl news : Led} {s₁ : Shared} {h' : Heap} {tk : Nat} {o₀ o : Obj} (add : Led)
    (F : Fr h₀ L h' m') (N : News h₀ L h' news') (hown : OwnOff own (((lf, o₀) :: (tl ++ news)).map (·.1))) (hrest : rest = tl ++ news ++ own) (hlt : ∀ q ∈ add, ∀ p ∈ rest, p.1 < q.1)
    (hmem : (lf, o) ∈ news') (hadd : ∀ p ∈ add, p ∈ news') (hr : ∀ p ∈ rest, p ∈ news') (hJ : J m' ((lf, o) :: ((add ++ tl) ++ news))) : InvEndG h₀ L J own s₁ { s₁ with heap := h', toks := tk } := by
  subst hrest
  refine ⟨h', tk, m', news', _, rfl, F, N, ?_, fun p hp => hr p (by simp [hp]), ?_, hJ⟩
  · intro p hp
    rcases List.mem_cons.mp hp with rfl | hp
    · exact hmem
    rcases List.mem_append.mp hp with hp | hp
    · rcases List.mem_append.mp hp with hp | hp
      · exact hadd p hp
      · exact hr p (by simp [hp])
    · exact hr p (by simp [hp])
  · intro p hp b hb
    rw [List.map_cons] at hb
    rcases List.mem_cons.mp hb with rfl | hb
    · exact hown p hp _ (by simp)
    obtain ⟨q, hq, rfl⟩ := List.mem_map.mp hb
    rcases List.mem_append.mp hq with hq | hq
    · rcases List.mem_append.mp hq with hq | hq
      · exact Nat.ne_of_lt (hlt q hq p (by simp [hp]))
      · exact hown p hp _ (List.mem_map.mpr ⟨q, by simp [hq], rfl⟩)
    · exact hown p hp _ (List.mem_map.mpr ⟨q, by simp [hq], rfl⟩)
theorem rest_ne {rest tl news own : Led} {lf : Addr} {o₀ : Obj} (hrest : rest = tl ++ news ++ own) (h6 : ∀ p ∈ tl, lf < p.1) (l1a : ∀ p ∈ news, p.1 < lf) (hown : OwnOff own (((lf, o₀) :: (tl ++ news)).map (·.1))) : ∀ p ∈ rest, p.1 ≠ lf := by
  intro p hp
  rw [hrest] at hp
  rcases List.mem_append.mp hp with hp | hp
  · rcases List.mem_append.mp hp with hp | hp
    · exact Nat.ne_of_gt (h6 p hp)
    · exact Nat.ne_of_lt (l1a p hp)
  · exact hown p hp lf (by simp)
theorem acc_end3 {h₀ : Heap} {L lf : Addr} {J : (Str → Option Value) → Led → Prop} {m' : Str → Option Value} {own rest tl news : Led} {s₁ : Shared} {h' : Heap} {tk : Nat} {o₀ o : Obj} {x1 x2 x3 : Addr × Obj}
    (F : Fr h₀ L h' m') (N : News h₀ L h' (x1 :: x2 :: x3 :: (lf, o) :: rest)) (hown : OwnOff own (((lf, o₀) :: (tl ++ news)).map (·.1))) (hrest : rest = tl ++ news ++ own) (lx1 : ∀ p ∈ rest, p.1 < x1.1) (lx2 : ∀ p ∈ rest, p.1 < x2.1) (lx3 : ∀ p ∈ rest, p.1 < x3.1)
    (hJ : J m' ((lf, o) :: x1 :: x2 :: x3 :: (tl ++ news))) : InvEndG h₀ L J own s₁ { s₁ with heap := h', toks := tk } :=
  acc_end [x1, x2, x3] F N hown hrest (by simp only [List.forall_mem_cons]; exact ⟨lx1, lx2, lx3, fun _ h => nomatch h⟩) (by simp) (by simp) (fun p hp => by simp [hp]) hJ
section
variable {prog : Program} {w : World} {A : Around} {E : Value → Shared → Prop} {s : Shared} {h₀ : Heap} {L a l : Addr}
theorem my_lenT {news : Led} {us : List Value} {k n : Nat} {Q : Value → Shared → Prop} (N : News h₀ L s.heap news) (hm : (l, tupL us n) ∈ news) (hd : us.length = k) (hfit : k < 2 ^ 62)
    (h : Q (.int (k : Int) (s.toks + 1)) { s with toks := s.toks + 1 + 1 }) : wpAny (model prog w) A (call (.builtin "len") [.ref l]) Q E s := by
  have e : us.toArray.size = k := by rw [List.size_toArray, hd]
  exact len_tuple (News.isTup N hm) (by rw [e]; (first | lia | omega)) (by rw [e]; exact h)
theorem lst_item {value slice : PySem.Expr} {news : Led} {us : List Value} {x : Value} {n : Nat} {k : Int} {u : Tok} {Q : Value → Shared → Prop} (N : News h₀ L s.heap news) (hm : (a, listOf us.toArray n) ∈ news) (h0 : 0 ≤ k) (hfit : k < 2 ^ 63) (hx : us[k.toNat]? = some x) (h : Q x s)
    (hs : subscripted slice false (.ref a) (.int k u) = operate [.ref a, .int k u] (getItem (.ref a) (.int k u)) := by with_unfolding_all rfl) :
    wpAny (model prog w) A (subscriptTail value slice (.ref a) (.int k u)) Q E s :=
  tail_any (News.isList N hm).typeIs (slot_list_getitem).lookup (wpAny_getItem_list (News.isList N hm) h0 hfit (by simpa using hx) h) hs
theorem tupL_item {value slice : PySem.Expr} {news : Led} {us : List Value} {x : Value} {n : Nat} {k : Int} {u : Tok} {Q : Value → Shared → Prop} (N : News h₀ L s.heap news) (hm : (a, tupL us n) ∈ news) (h0 : 0 ≤ k) (hfit : k < 2 ^ 63) (hx : us[k.toNat]? = some x) (h : Q x s)
    (hs : subscripted slice false (.ref a) (.int k u) = operate [.ref a, .int k u] (getItem (.ref a) (.int k u)) := by with_unfolding_all rfl) :
    wpAny (model prog w) A (subscriptTail value slice (.ref a) (.int k u)) Q E s := by
  have hi : k.toNat < us.length := (List.getElem?_eq_some_iff.mp hx).1
  have hj9 : seqIndex? k us.length = some k.toNat := by
    unfold seqIndex?
    have h9 : ¬ k < 0 := by (first | lia | omega)
    simp only [h9, if_false]
    rw [if_pos (by simp; (first | lia | omega))]
  exact item_tupleT (News.isTup N hm) (by (first | lia | omega)) hfit (j := k.toNat) hj9 hx h hs
/-- an item of a list of ints -/
theorem int_item {value slice : PySem.Expr} {news : Led} {us : List Value} {ns : List Int} {n : Nat} {k : Int} {u : Tok} {Q : Value → Shared → Prop} (N : News h₀ L s.heap news) (hm : (a, listOf us.toArray n) ∈ news) (hi : IntsAre us ns) (h0 : 0 ≤ k) (h1 : k < ns.length) (hfit : ns.length < 2 ^ 62)
    (h : ∀ t, Q (.int (ns.getD k.toNat 0) t) s)
    (hs : subscripted slice false (.ref a) (.int k u) = operate [.ref a, .int k u] (getItem (.ref a) (.int k u)) := by with_unfolding_all rfl) :
    wpAny (model prog w) A (subscriptTail value slice (.ref a) (.int k u)) Q E s := by
  obtain ⟨t, hx⟩ := hi.get k.toNat (ns.getD k.toNat 0) (by have h9 : k.toNat < ns.length := by (first | lia | omega)
                                                           simp [List.getD, h9])
  exact lst_item N hm h0 (by (first | lia | omega)) hx (h t) hs
theorem int_itemT {value slice : PySem.Expr} {news : Led} {us : List Value} {ns : List Int} {n : Nat} {k : Int} {u : Tok} {Q : Value → Shared → Prop} (N : News h₀ L s.heap news) (hm : (a, tupL us n) ∈ news) (hi : IntsAre us ns) (h0 : 0 ≤ k) (h1 : k < ns.length) (hfit : ns.length < 2 ^ 62)
    (h : ∀ t, Q (.int (ns.getD k.toNat 0) t) s)
    (hs : subscripted slice false (.ref a) (.int k u) = operate [.ref a, .int k u] (getItem (.ref a) (.int k u)) := by with_unfolding_all rfl) :
    wpAny (model prog w) A (subscriptTail value slice (.ref a) (.int k u)) Q E s := by
  obtain ⟨t, hx⟩ := hi.get k.toNat (ns.getD k.toNat 0) (by have h9 : k.toNat < ns.length := by (first | lia | omega)
                                                           simp [List.getD, h9])
  exact tupL_item N hm h0 (by (first | lia | omega)) hx (h t) hs
theorem mulok {a b : Int} (h : -2 ^ 63 ≤ a ∧ a < 2 ^ 63) : IntMulOk a b := IntMulOk.of_left (intBits_le_64 (by (first | lia | omega)) (by (first | lia | omega)))
end
section
variable {prog : Program} {w : World} {A : Around} {E : Value → Shared → Prop} {s : Shared} {h₀ : Heap} {L l a : Addr} {m : Str → Option Value}
theorem my_tuple {news : Led} {us : List Value} {n : Nat} {Q : Value → Shared → Prop} (F : Fr h₀ L s.heap m) (N : News h₀ L s.heap news) (hm : (l, listOf us.toArray n) ∈ news) (hz : us.length ≤ 5000)
    (h : ∀ D h', Fr h₀ L h' m → News h₀ L h' ((D, tupL us 0) :: news) → (∀ p ∈ news, p.1 < D) → Q (.ref D) { s with heap := h' }) : wpAny (model prog w) A (call (.type "tuple") [.ref l]) Q E s :=
  kde_tupleOf F N (News.isList N hm) (by rw [List.size_toArray]; (first | lia | omega)) rfl h
theorem my_tuple_same {news : Led} {us : List Value} {n : Nat} {Q : Value → Shared → Prop} (N : News h₀ L s.heap news) (hm : (l, tupL us n) ∈ news) (h : Q (.ref l) s) : wpAny (model prog w) A (call (.type "tuple") [.ref l]) Q E s :=
  call_tuple_tup (News.isTup N hm) h
end
theorem getD_get {l : List Int} {i : Nat} (h : i < l.length) : l.getD i 0 = l[i]'h := by simp [List.getD, h]
theorem small1 {a b : Int} (h1 : -5000 ≤ a) (h2 : a ≤ 5000) (h3 : -5000 ≤ b) (h4 : b ≤ 5000) : Builtin.Range.small a b 1 = true := by
  unfold Builtin.Range.small
  rw [rangeSize_nat]
  simp only [Builtin.Range.rangeFitsLong, Bool.and_eq_true, Bool.or_eq_true, decide_eq_true_eq, beq_iff_eq]
  refine ⟨by (first | lia | omega), .inr ?_⟩
  rw [if_pos (by decide)]
  simp only [Bool.and_eq_true, decide_eq_true_eq]
  (first | lia | omega)
theorem size1 {a b : Int} {n : Nat} (h : (b - a).toNat = n) : Builtin.Range.rangeSize a b 1 = (n : Int) := by rw [rangeSize_nat, h]
theorem rgA {n : Nat} (h : n ≤ 5000) : Builtin.Range.small 0 (n : Int) 1 = true := small1 (by decide) (by decide) (by (first | lia | omega)) (by (first | lia | omega))
theorem rgA' {n : Nat} : Builtin.Range.rangeSize 0 (n : Int) 1 = (n : Int) := size1 (by (first | lia | omega))
theorem rgB {n : Nat} (h : n ≤ 5000) : Builtin.Range.small 0 ((n : Int) - 1) 1 = true := small1 (by decide) (by decide) (by (first | lia | omega)) (by (first | lia | omega))
theorem rgB' {n : Nat} : Builtin.Range.rangeSize 0 ((n : Int) - 1) 1 = ((n - 1 : Nat) : Int) := size1 (by (first | lia | omega))
theorem rgC {n : Nat} (h : n < 5000) : Builtin.Range.small 1 ((n : Int) + 1) 1 = true := small1 (by decide) (by decide) (by (first | lia | omega)) (by (first | lia | omega))
theorem rgC' {n : Nat} : Builtin.Range.rangeSize 1 ((n : Int) + 1) 1 = (n : Int) := size1 (by (first | lia | omega))
theorem rgD {x : Int} (h0 : 0 ≤ x) (h : x ≤ 5000) : Builtin.Range.small 0 x 1 = true := small1 (by decide) (by decide) (by (first | lia | omega)) h
theorem rgD' {x : Int} : Builtin.Range.rangeSize 0 x 1 = (x.toNat : Int) := size1 (by (first | lia | omega))
theorem room1 {a i j n : Nat} (h : a + j < n) (hij : i ≤ j) : a + i < n := Nat.lt_of_le_of_lt (Nat.add_le_add_left hij a) h
theorem room2 {a i k j n : Nat} (h : a + j < n) (hij : i + k ≤ j) : a + i + k < n := Nat.lt_of_le_of_lt (Nat.le_trans (Nat.le_of_eq (Nat.add_assoc a i k)) (Nat.add_le_add_left hij a)) h
theorem dec1 {a b i n : Nat} (hn : n = a - i + b) (h : i < a) : a - (i + 1) + b < n := hn ▸ Nat.add_lt_add_right (Nat.sub_lt_sub_left h (Nat.lt_succ_self i)) b
theorem dec2 {a b j n : Nat} (hn : n = a + (b - j)) (h : j < b) : a + (b - (j + 1)) < n := hn ▸ Nat.add_lt_add_left (Nat.sub_lt_sub_left h (Nat.lt_succ_self j)) a
theorem mulokR {a b : Int} (h : -2 ^ 63 ≤ b ∧ b < 2 ^ 63) : IntMulOk a b := IntMulOk.of_right (intBits_le_64 (by (first | lia | omega)) (by (first | lia | omega)))
section
variable {prog : Program} {w : World} {A : Around} {E : Value → Shared → Prop} {s : Shared} {h₀ : Heap} {L a b : Addr} {m : Str → Option Value}
theorem add_any {news : Led} {us vs : List Value} {n1 n2 : Nat} {Q : Value → Shared → Prop} (F : Fr h₀ L s.heap m) (N : News h₀ L s.heap news) (m1 : (a, listOf us.toArray n1) ∈ news) (m2 : (b, listOf vs.toArray n2) ∈ news) (z : us.length + vs.length ≤ 10000)
    (h : ∀ D h', Fr h₀ L h' m → News h₀ L h' ((D, listOf (us ++ vs).toArray 0) :: news) → (∀ p ∈ news, p.1 < D) → Q (.ref D) { s with heap := h' }) :
    wpAny (model prog w) A (binaryOp .Add (.ref a) (.ref b)) Q E s :=
  kmk_add_lit F N (News.isList N m1) (News.isList N m2) rfl h (by rw [sizeLine_eq]; simp; (first | lia | omega))
end
/-- a ledger that has grown in front, by other objects than those of the first -/
noncomputable def Grown (base nw : Led) : Prop := ∃ tl : Led, nw = tl ++ base ∧ ∀ p ∈ tl, ∀ q ∈ base, q.1 ≠ p.1
theorem Grown.refl (base : Led) : Grown base base := ⟨[], rfl, fun _ h => nomatch h⟩
theorem Grown.consN {base nw : Led} {x : Addr × Obj} (g : Grown base nw) (h : ∀ q ∈ base, q.1 ≠ x.1) : Grown base (x :: nw) := by
  obtain ⟨tl, rfl, k⟩ := g
  exact ⟨x :: tl, rfl, List.forall_mem_cons.mpr ⟨h, k⟩⟩
theorem Grown.cons {base nw : Led} {x : Addr × Obj} (g : Grown base nw) (h : ∀ q ∈ base, q.1 < x.1) : Grown base (x :: nw) := g.consN fun q hq => Nat.ne_of_lt (h q hq)
theorem Grown.sub {base nw : Led} (g : Grown base nw) : ∀ p ∈ base, p ∈ nw := by
  obtain ⟨tl, rfl, k⟩ := g
  exact fun p hp => List.mem_append_right _ hp
theorem Grown.trans {a b c : Led} (g : Grown a b) (k : Grown b c) : Grown a c := by
  obtain ⟨t1, rfl, h1⟩ := g
  obtain ⟨t2, rfl, h2⟩ := k
  refine ⟨t2 ++ t1, by rw [List.append_assoc], fun p hp q hq => ?_⟩
  rcases List.mem_append.mp hp with hp | hp
  · exact h2 p hp q (List.mem_append_right _ hq)
  · exact h1 p hp q hq
theorem Grown.lt {base nw : Led} {d : Addr} (g : Grown base nw) (h : AllLt d nw) : ∀ q ∈ base, q.1 < d := fun q hq => tb_ltOf h q (g.sub q hq)
theorem off1_mem {D : Addr} : ∀ {l : Led}, LCg.Off1 D l → ∀ p ∈ l, p.1 ≠ D
  | [], _, _, h => nomatch h
  | _ :: _, x, p, h => by
    rcases List.mem_cons.mp h with rfl | h
    · exact x.1
    · exact off1_mem x.2 p h
end --T_Bas

section --T_Cmp
open PySem PySem.W PyProof.Rows PySem.Spec PySem.Calls
open LCg LCt LCp
section
variable {prog : Program} {w : World} {A : Around} {E : Value → Shared → Prop} {s : Shared} {h₀ : Heap} {L : Addr} {m : Str → Option Value} {env : Env}
noncomputable abbrev Has (srcs : Led) (nw : Led) : Prop := ∀ p ∈ srcs, p ∈ nw
/-- what a comprehension goes over: an iterator is made above all that stands, and it walks -/
structure ItSrc (prog : Program) (w : World) (A : Around) (h₀ : Heap) (L : Addr) (srcs : Led) (n : Nat) (P : Nat → Value → Prop) (xv : Value) (s₁ : Shared) (oI : Obj) (fp : List Addr) (St : Nat → Heap → Prop) : Prop where
  it : ∀ (Q : Value → Shared → Prop) E, Q (.ref s₁.heap.objs.size) { s₁ with heap := s₁.heap.push oI } → wpAny (model prog w) A (pyIter xv) Q E s₁
  W : Walks prog w A s₁.heap.objs.size fp [s₁.heap.objs.size] n P St
  io : ∀ i h, St i h → ∃ o, h.get? s₁.heap.objs.size = some o
  st : ∀ i (h h' : Heap) (o : Obj) (nw : Led), St i h → h.get? s₁.heap.objs.size = some o → h'.get? s₁.heap.objs.size = some o → (∀ b o, h₀.get? b = some o → h'.get? b = some o) → News h₀ L h' nw → Has srcs nw → St i h'
  go : St 0 (s₁.heap.push oI)
  lt : ∀ b ∈ fp, b < (s₁.heap.push oI).objs.size
theorem ItSrc.list {ax : Addr} {its : Array Value} {k : Nat} {news : Led} {s₁ : Shared} (hh : A.handled = none) (N : News h₀ L s₁.heap news) (hm : (ax, listOf its k) ∈ news) :
    ItSrc prog w A h₀ L [(ax, listOf its k)] its.size (fun i v => its[i]? = some v) (.ref ax) s₁ { cls := .type "list_iterator", data := .fields #[.ref ax, .int 0 0] } [s₁.heap.objs.size, ax] (fun i h => h.IsListIter s₁.heap.objs.size ax i ∧ h.IsList ax its) := by
  have hl : s₁.heap.IsList ax its := ⟨_, (N _ hm).1, rfl, k, rfl⟩
  have hlt : ax < s₁.heap.objs.size := Heap.lt_size (N _ hm).1
  refine ⟨fun Q E h => wpAny_pyIter_list hl h, Walks.list hh _ ax (Nat.ne_of_lt hlt) its, fun i h st => let ⟨o, e, _⟩ := st.1; ⟨o, e⟩, ?_, ⟨⟨_, Heap.get?_push_size _ rfl, rfl, rfl⟩, hl.push _⟩, ?_⟩
  · intro i h h' o nw st e e' _ N' S
    refine ⟨?_, _, (N' _ (S _ (.head _))).1, rfl, k, rfl⟩
    obtain ⟨o', q, r⟩ := st.1
    rw [e] at q; cases q; exact ⟨o, e', r⟩
  · intro b hb
    rw [Heap.size_push]
    rcases List.mem_cons.mp hb with rfl | hb
    · exact Nat.lt_succ_self _
    · rw [List.mem_singleton.mp hb]; exact Nat.lt_succ_of_lt hlt
theorem ItSrc.range {r : Addr} {a b c : Int} {t u v : Tok} {n : Nat} {s₁ : Shared} (hh : A.handled = none) (hr : IsRange s₁.heap r a b c t u v) (hsm : Builtin.Range.small a b c = true) (hn : Builtin.Range.rangeSize a b c = (n : Int)) :
    ItSrc prog w A h₀ L [] n (fun i v => i < n ∧ ∃ t, v = .int (a + i * c) t) (.ref r) s₁ { cls := .type "range_iterator", data := .fields #[rawInt a, rawInt (Builtin.Range.rangeSize a b c), rawInt c] } [s₁.heap.objs.size]
      (fun i h => IsRangeIter h s₁.heap.objs.size (a + (i : Nat) * c) ((n : Int) - (i : Nat)) c) := by
  refine ⟨fun Q E h => wpAny_pyIter_range hr hsm h, (Walks.range hh _ a c n).bound, fun i h st => ⟨_, st⟩, ?_, ?_, ?_⟩
  · intro i h h' o nw st e e' _ _ _
    have st' : h.get? s₁.heap.objs.size = some _ := st
    show h'.get? s₁.heap.objs.size = some _
    rw [e', ← e]; exact st'
  · show IsRangeIter _ _ _ _ _; rw [hn]; simpa using Heap.get?_push_size _ rfl
  · intro b hb
    rw [Heap.size_push, List.mem_singleton.mp hb]
    exact Nat.lt_succ_self _
theorem ItSrc.dict {K : Type} [DecidableEq K] {knd : KeyKind prog w K} {d : Addr} {o : Obj} {kvs : List (K × Value)} {news : Led} {s₁ : Shared} (hh : A.handled = none) (N : News h₀ L s₁.heap news) (hm : (d, o) ∈ news) (lo : (d == sysModules) = false) (hd : o.IsDictOf knd kvs) :
    ∃ ep : Nat, ItSrc prog w A h₀ L [(d, o)] kvs.length (fun i v => ∃ k x, kvs[i]? = some (k, x) ∧ knd.is k v = true) (.ref d) s₁ { cls := .type "dict_keyiterator", data := .fields #[.ref d, .int 0 0, .int kvs.length 0, .int ep 0] } [s₁.heap.objs.size, d]
      (fun i h => h.IsKeyIter s₁.heap.objs.size d i kvs.length ep ∧ h.DictAt knd d kvs ep) := by
  obtain ⟨es, ep, hd'⟩ := hd
  have hl : s₁.heap.DictAt knd d kvs ep := ⟨o, es, (N _ hm).1, hd'⟩
  have hlt : d < s₁.heap.objs.size := Heap.lt_size (N _ hm).1
  refine ⟨ep, fun Q E h => wpAny_pyIter_dict lo hl h, Walks.dictKeys hh _ d (Nat.ne_of_lt hlt) kvs ep, fun i h st => let ⟨o, e, _⟩ := st.1; ⟨o, e⟩, ?_, ⟨⟨_, Heap.get?_push_size _ rfl, rfl, rfl⟩, hl.push _⟩, ?_⟩
  · intro i h h' o' nw st e e' _ N' S
    refine ⟨?_, o, es, (N' _ (S _ (.head _))).1, hd'⟩
    obtain ⟨o', q, r⟩ := st.1
    rw [e] at q; cases q; exact ⟨_, e', r⟩
  · intro b hb
    rw [Heap.size_push]
    rcases List.mem_cons.mp hb with rfl | hb
    · exact Nat.lt_succ_self _
    · rw [List.mem_singleton.mp hb]; exact Nat.lt_succ_of_lt hlt
theorem compEnd_mono {I C D : Addr} {oI oC oD : Obj} {s₁ s₂ : Shared} {S : Led → Prop} {R R' : Value → Led → Prop} {y : Value} (h : CompEnd h₀ L m s₁ I oI C oC D oD S R y s₂) (hr : ∀ y nw, S nw → R y nw → R' y nw) : CompEnd h₀ L m s₁ I oI C oC D oD S R' y s₂ := by
  (have hJ10 := h; (first | with_reducible refine el3_6 hJ10 ?_ | refine el3_6 hJ10 ?_); clear hJ10; try clear h; rintro h' tk nw e F N o hS r)
  exact ⟨h', tk, nw, e, F, N, o, hS, hr y nw hS r⟩
/-- the turns of a comprehension with one test, by an invariant over the turn's number, the made items and the ledger -/
theorem restT_inv {ct elt : PySem.Expr} {x : Str} {scope : Scope} {cl : List (Str × Addr)} {S : Led → Prop} {P : Nat → Value → Prop} {Fin : List Value → Led → Prop} {n : Nat} (J : Nat → List Value → Led → Prop)
    (turn : ∀ i ys nw v I oI C oC D m₂ h tk (E' : Value → Shared → Prop), i < n → J i ys nw → P i v → NsObj oC m₂ → m₂ x = some v → Fr h₀ L h m → News h₀ L h ((I, oI) :: (C, oC) :: (D, lst ys) :: nw) → Off3 I C D nw → ((@Ne Nat I C) ∧ (@Ne Nat I D) ∧ (@Ne Nat C D)) → S nw →
      wpAny (model prog w) A (isTrue ct (compEnvC scope cl C env) (eval ct (compEnvC scope cl C env))) (fun ok s' => if ok = true then
        wpAny (model prog w) A (eval elt (compEnvC scope cl C env)) (CompEnd h₀ L m { s with heap := h, toks := tk } I oI C oC D (lst ys) S (fun y nw' => J (i + 1) (ys ++ [y]) nw')) E' s'
        else CompEnd h₀ L m { s with heap := h, toks := tk } I oI C oC D (lst ys) S (fun _ nw' => J (i + 1) ys nw') Value.none s') E' { s with heap := h, toks := tk })
    (fin : ∀ ys nw, J n ys nw → Fin ys nw) : ∀ (k i : Nat) (ys : List Value) (nw : Led), i + k = n → J i ys nw → S nw → CompRestT prog w A h₀ L m env ct elt x scope cl s S P Fin k i ys nw
  | 0, i, ys, nw, e, hj, _ => by
    obtain rfl : i = n := by (first | lia | omega)
    exact CompRestT.zero (fin _ _ hj)
  | k + 1, i, ys, nw, e, hj, hS => by
    refine CompRestT.succ fun v I oI C oC D m₂ h tk E' hP hC hx F N off ne => ?_
    refine wpAny_mono (turn i ys nw v I oI C oC D m₂ h tk E' (by (first | lia | omega)) hj hP hC hx F N off ne hS) (fun ok s' h' => ?_) fun _ _ e => e
    cases ok with
    | true =>
      simp only [if_true] at h' ⊢
      refine wpAny_mono h' (fun y s₂ h₂ => compEnd_mono h₂ fun y nw' hS' hj' => restT_inv J turn fin k (i + 1) _ nw' (by (first | lia | omega)) hj' hS') fun _ _ e => e
    | false =>
      simp only [Bool.false_eq_true, if_false] at h' ⊢
      exact compEnd_mono h' fun y nw' hS' hj' => restT_inv J turn fin k (i + 1) _ nw' (by (first | lia | omega)) hj' hS'
theorem restU_inv {elt : PySem.Expr} {x : Str} {scope : Scope} {cl : List (Str × Addr)} {S : Led → Prop} {P : Nat → Value → Prop} {Fin : List Value → Led → Prop} {n : Nat} (J : Nat → List Value → Led → Prop)
    (turn : ∀ i ys nw v I oI C oC D m₂ h tk (E' : Value → Shared → Prop), i < n → J i ys nw → P i v → NsObj oC m₂ → m₂ x = some v → Fr h₀ L h m → News h₀ L h ((I, oI) :: (C, oC) :: (D, lst ys) :: nw) → Off3 I C D nw → ((@Ne Nat I C) ∧ (@Ne Nat I D) ∧ (@Ne Nat C D)) → S nw →
      wpAny (model prog w) A (eval elt (compEnvC scope cl C env)) (CompEnd h₀ L m { s with heap := h, toks := tk } I oI C oC D (lst ys) S (fun y nw' => J (i + 1) (ys ++ [y]) nw')) E' { s with heap := h, toks := tk })
    (fin : ∀ ys nw, J n ys nw → Fin ys nw) : ∀ (k i : Nat) (ys : List Value) (nw : Led), i + k = n → J i ys nw → S nw → CompRest prog w A h₀ L m env elt x scope cl s S P Fin k i ys nw
  | 0, i, ys, nw, e, hj, _ => by
    obtain rfl : i = n := by (first | lia | omega)
    exact CompRest.zero (fin _ _ hj)
  | k + 1, i, ys, nw, e, hj, hS => by
    refine CompRest.succ fun v I oI C oC D m₂ h tk E' hP hC hx F N off ne => ?_
    exact wpAny_mono (turn i ys nw v I oI C oC D m₂ h tk E' (by (first | lia | omega)) hj hP hC hx F N off ne hS) (fun y s₂ h₂ => compEnd_mono h₂ fun y nw' hS' hj' => restU_inv J turn fin k (i + 1) _ nw' (by (first | lia | omega)) hj' hS') fun _ _ e => e
theorem restP_inv {elt : PySem.Expr} {x x₂ : Str} {scope : Scope} {cl : List (Str × Addr)} {S : Led → Prop} {P : Nat → Value → Prop} {Fin : List Value → Led → Prop} {n : Nat} (J : Nat → List Value → Led → Prop)
    (turn : ∀ i ys nw v, i < n → J i ys nw → P i v → S nw → ∃ (t : Addr) (ot : Obj) (v₁ v₂ : Value) (nt : Nat), v = .ref t ∧ (t, ot) ∈ nw ∧ ot.cls = .type "tuple" ∧ ot.data = .seq #[v₁, v₂] nt ∧
      ∀ I oI C oC D m₂ h tk (E' : Value → Shared → Prop), NsObj oC m₂ → m₂ x = some v₁ → m₂ x₂ = some v₂ → Fr h₀ L h m → News h₀ L h ((I, oI) :: (C, oC) :: (D, lst ys) :: nw) → Off3 I C D nw → ((@Ne Nat I C) ∧ (@Ne Nat I D) ∧ (@Ne Nat C D)) →
      wpAny (model prog w) A (eval elt (compEnvC scope cl C env)) (CompEnd h₀ L m { s with heap := h, toks := tk } I oI C oC D (lst ys) S (fun y nw' => J (i + 1) (ys ++ [y]) nw')) E' { s with heap := h, toks := tk })
    (fin : ∀ ys nw, J n ys nw → Fin ys nw) : ∀ (k i : Nat) (ys : List Value) (nw : Led), i + k = n → J i ys nw → S nw → CompRestP prog w A h₀ L m env elt x x₂ scope cl s S P Fin k i ys nw
  | 0, i, ys, nw, e, hj, _ => by
    obtain rfl : i = n := by (first | lia | omega)
    exact CompRestP.zero (fin _ _ hj)
  | k + 1, i, ys, nw, e, hj, hS => by
    refine CompRestP.succ fun v hP => ?_
    (have hJ11 := turn i ys nw v (by (first | lia | omega)) hj hP hS; (first | with_reducible refine el5_5 hJ11 ?_ | refine el5_5 hJ11 ?_); clear hJ11; rintro t ot v₁ v₂ nt e1 e2 e3 e4 hb)
    refine ⟨t, ot, v₁, v₂, nt, e1, e2, e3, e4, fun I oI C oC D m₂ h tk E' hC hx hx2 F N off ne => ?_⟩
    exact wpAny_mono (hb I oI C oC D m₂ h tk E' hC hx hx2 F N off ne) (fun y s₂ h₂ => compEnd_mono h₂ fun y nw' hS' hj' => restP_inv J turn fin k (i + 1) _ nw' (by (first | lia | omega)) hj' hS') fun _ _ e => e
noncomputable def SrcT (prog : Program) (w : World) (A : Around) (h₀ : Heap) (L : Addr) (m : Str → Option Value) (env : Env) (ct elt : PySem.Expr) (x : Str) (scope : Scope) (cl : List (Str × Addr)) (Fin : Shared → List Value → Led → Prop) (xv : Value) (s₁ : Shared) : Prop :=
  ∃ n P srcs news oI fp St, Fr h₀ L s₁.heap m ∧ News h₀ L s₁.heap news ∧ Has srcs news ∧ ItSrc prog w A h₀ L srcs n P xv s₁ oI fp St ∧ n ≤ sizeLine ∧
    ∀ g, CompRestT prog w A h₀ L m env ct elt x scope cl { s₁ with heap := g } (Has srcs) P (Fin { s₁ with heap := g }) n 0 [] news
noncomputable def SrcU (prog : Program) (w : World) (A : Around) (h₀ : Heap) (L : Addr) (m : Str → Option Value) (env : Env) (elt : PySem.Expr) (x : Str) (scope : Scope) (cl : List (Str × Addr)) (Fin : Shared → List Value → Led → Prop) (xv : Value) (s₁ : Shared) : Prop :=
  ∃ n P srcs news oI fp St, Fr h₀ L s₁.heap m ∧ News h₀ L s₁.heap news ∧ Has srcs news ∧ ItSrc prog w A h₀ L srcs n P xv s₁ oI fp St ∧ n ≤ sizeLine ∧
    ∀ g, CompRest prog w A h₀ L m env elt x scope cl { s₁ with heap := g } (Has srcs) P (Fin { s₁ with heap := g }) n 0 [] news
theorem comp_finE {D C : Addr} {h : Heap} {tk : Nat} {m' : Str → Option Value} {ys : List Value} {news' : Led} {s₂ : Shared} {Q : Value → Shared → Prop} (fin : FinE h₀ L m s₂ Q ys news') (F' : Fr h₀ L h m) (N' : News h₀ L h ((D, lst ys) :: news')) (o1 : Off1 D news') (hn : h.Ns C m') (hC₀ : h₀.get? C = none) (hCL : C ≠ L) (hCD : C ≠ D) (offC : ∀ p ∈ news', p.1 ≠ C) :
    ∃ m', h.Ns C m' ∧ ∀ h'', Heap.SameBut C h h'' → Q (.ref D) { s₂ with heap := h'', toks := tk } := by
  refine ⟨m', hn, fun h'' hs => fin D h'' tk (F'.change hs hCL hC₀) (fun p hp => ⟨hs.extBut _ _ ?_ (N' p hp).1, (N' p hp).2⟩) o1⟩
  rcases List.mem_cons.mp hp with rfl | hp
  · exact Ne.symm hCD
  · exact offC p hp
theorem comp_T {ct elt iter : PySem.Expr} {x : Str} {px : Pos} {scope : Scope} {cl : List (Str × Addr)} {pos : Pos} {Q : Value → Shared → Prop} (F₀ : Fr h₀ L s.heap m)
    (hclos : closureFor scope env = pure cl) (hcell : ∀ y ∈ scope.names, y.2 ≠ .cell) (hkind : scope.kind = .function)
    (hnames : ∀ y ∈ scope.names, y.2 = .local → scope.names.lookup y.1 = some .local) (hx : scope.names.lookup x = some .local)
    (h : wpAny (model prog w) A (eval iter env) (SrcT prog w A h₀ L m env ct elt x scope cl (fun s₂ => FinE h₀ L m s₂ Q)) E s)
    (hs : ∀ x, foldedSetIterable iter env x = pure x := by intro _; rfl) :
    wpAny (model prog w) A (eval (.ListComp elt [⟨.Name x px, iter, [ct], 0⟩] scope pos) env) Q E s := by
  rw [eval_ListComp]
  refine wpAny_comprehension_free (use := none) rfl hs hclos hkind hnames (wpAny_mono h (fun xv s₁ h₁ => ?_) fun _ _ e => e)
  (have hJ12 := h₁; (first | with_reducible refine el7_6 hJ12 ?_ | refine el7_6 hJ12 ?_); clear hJ12; try clear h₁; rintro n P srcs news oI fp St F N hS I hsz R)
  refine I.it _ _ (block_T I.W hsz I.io I.st hcell hkind hx I.go I.lt (F.push _) (N.grown fun b o e => Heap.get?_push_of_some _ e) (Nat.ne_of_lt F.ns.lt) (next_is_new F) (fun p hp => Nat.ne_of_lt (Heap.lt_size (N p hp).1)) hS (R _) ?_)
  intro D C h tk m' ys news' F' N' o1 hn hC₀ hD₀ hCL hDL hCD offC fin
  exact comp_finE fin F' N' o1 hn hC₀ hCL hCD offC
theorem comp_U {elt iter : PySem.Expr} {x : Str} {px : Pos} {scope : Scope} {cl : List (Str × Addr)} {pos : Pos} {Q : Value → Shared → Prop} (F₀ : Fr h₀ L s.heap m)
    (hclos : closureFor scope env = pure cl) (hcell : ∀ y ∈ scope.names, y.2 ≠ .cell) (hkind : scope.kind = .function)
    (hnames : ∀ y ∈ scope.names, y.2 = .local → scope.names.lookup y.1 = some .local) (hx : scope.names.lookup x = some .local)
    (h : wpAny (model prog w) A (eval iter env) (SrcU prog w A h₀ L m env elt x scope cl (fun s₂ => FinE h₀ L m s₂ Q)) E s)
    (hs : ∀ x, foldedSetIterable iter env x = pure x := by intro _; rfl) :
    wpAny (model prog w) A (eval (.ListComp elt [⟨.Name x px, iter, [], 0⟩] scope pos) env) Q E s := by
  rw [eval_ListComp]
  refine wpAny_comprehension_free (use := none) rfl hs hclos hkind hnames (wpAny_mono h (fun xv s₁ h₁ => ?_) fun _ _ e => e)
  (have hJ13 := h₁; (first | with_reducible refine el7_6 hJ13 ?_ | refine el7_6 hJ13 ?_); clear hJ13; try clear h₁; rintro n P srcs news oI fp St F N hS I hsz R)
  refine I.it _ _ (block_U I.W hsz I.io I.st hcell hkind hx I.go I.lt (F.push _) (N.grown fun b o e => Heap.get?_push_of_some _ e) (Nat.ne_of_lt F.ns.lt) (next_is_new F) (fun p hp => Nat.ne_of_lt (Heap.lt_size (N p hp).1)) hS (R _) ?_)
  intro D C h tk m' ys news' F' N' o1 hn hC₀ hD₀ hCL hDL hCD offC fin
  exact comp_finE fin F' N' o1 hn hC₀ hCL hCD offC
theorem comp_finA {D C : Addr} {h : Heap} {tk : Nat} {m' : Str → Option Value} {ys : List Value} {news' : Led} {s₂ : Shared} {y : Str} {py : Pos} {Q : Flow → Shared → Prop} {A' : Around} {E' : Value → Shared → Prop} (hy : env.kindOf y = some .local) (hp : (env.scope.kind == .class || (env.scope.kind == .module && env.locals != env.globals)) = false)
    (fin : FinA h₀ env.locals m s₂ y Q ys news') (F' : Fr h₀ env.locals h m) (N' : News h₀ env.locals h ((D, lst ys) :: news')) (o1 : Off1 D news') (hn : h.Ns C m') (hC₀ : h₀.get? C = none) (hCL : C ≠ env.locals) (hCD : C ≠ D) (offC : ∀ p ∈ news', p.1 ≠ C) :
    wpAny (model prog w) A' (assign (.Name y py) env (.ref D)) (fun _ s3 => ∃ m', s3.heap.Ns C m' ∧ ∀ h'', Heap.SameBut C s3.heap h'' → Q .next { s3 with heap := h'' }) E' { s₂ with heap := h, toks := tk } := by
  refine wpAny_assign_Name (wpAny_storeName_local hy F'.ns (fun h₂ hn₂ hs₂ => ?_) hp)
  have F₂ : Fr h₀ env.locals h₂ (fun z => if z = y then some (.ref D) else m z) := ⟨hn₂, fun b o e => hs₂.extBut b o (fun q => by rw [q, Heap.get?_none_of_le F'.above] at e; cases e) (F'.keep b o e), F'.above⟩
  refine ⟨m', hn.sameBut hs₂ hCL, fun h'' hs => fin D h'' _ (F₂.change hs hCL hC₀) (fun p hp => ⟨hs.extBut _ _ ?_ (hs₂.extBut _ _ (N' p hp).2.1 (N' p hp).1), (N' p hp).2⟩) o1⟩
  rcases List.mem_cons.mp hp with rfl | hp
  · exact Ne.symm hCD
  · exact offC p hp
theorem comp_TA {ct elt iter : PySem.Expr} {x y : Str} {px py : Pos} {scope : Scope} {cl : List (Str × Addr)} {pos spos : Pos} {Q : Flow → Shared → Prop} (_F₀ : Fr h₀ L s.heap m) (hLe : env.locals = L)
    (hsw : swapsWith (.ListComp elt [⟨.Name x px, iter, [ct], 0⟩] scope pos) (some (.Name y py)) spos.line env = pure true)
    (hclos : closureFor scope env = pure cl) (hcell : ∀ z ∈ scope.names, z.2 ≠ .cell) (hkind : scope.kind = .function)
    (hnames : ∀ z ∈ scope.names, z.2 = .local → scope.names.lookup z.1 = some .local) (hx : scope.names.lookup x = some .local)
    (hy : env.kindOf y = some .local) (hp : (env.scope.kind == .class || (env.scope.kind == .module && env.locals != env.globals)) = false)
    (h : wpAny (model prog w) A (eval iter env) (SrcT prog w A h₀ L m env ct elt x scope cl (fun s₂ => FinA h₀ L m s₂ y Q)) E s)
    (hs : ∀ x, foldedSetIterable iter env x = pure x := by intro _; rfl) :
    wpAny (model prog w) A (exec (.Assign [.Name y py] (.ListComp elt [⟨.Name x px, iter, [ct], 0⟩] scope pos) spos) env) Q E s := by
  subst hLe
  rw [exec_Assign_Name_used _ _ _ _ hsw]
  refine wpAny_bind (wpAny_standAt (wpAny_bind ?_))
  show wpAny _ A (do let _ ← comprehension (.ListComp elt [⟨.Name x px, iter, [ct], 0⟩] scope pos) scope env _ (newList []) false (eval iter env) (some (assign (.Name y py) env))) _ _ s
  refine wpAny_bind (wpAny_mono (wpAny_comprehension_free (use := some (assign (.Name y py) env)) (Q := fun _ s' => Q .next s') rfl hs hclos hkind hnames
    (wpAny_mono h (fun xv s₁ h₁ => ?_) fun _ _ e => e)) (fun _ s' hq => wpAny_pure (wpAny_pure hq)) fun _ _ e => e)
  (have hJ14 := h₁; (first | with_reducible refine el7_6 hJ14 ?_ | refine el7_6 hJ14 ?_); clear hJ14; try clear h₁; rintro n P srcs news oI fp St F N hS I hsz R)
  refine I.it _ _ (block_T I.W hsz I.io I.st hcell hkind hx I.go I.lt (F.push _) (N.grown fun b o e => Heap.get?_push_of_some _ e) (Nat.ne_of_lt F.ns.lt) (next_is_new F) (fun p hp => Nat.ne_of_lt (Heap.lt_size (N p hp).1)) hS (R _) ?_)
  intro D C h tk m' ys news' F' N' o1 hn hC₀ hD₀ hCL hDL hCD offC fin
  exact comp_finA hy hp fin F' N' o1 hn hC₀ hCL hCD offC
theorem comp_UA {elt iter : PySem.Expr} {x y : Str} {px py : Pos} {scope : Scope} {cl : List (Str × Addr)} {pos spos : Pos} {Q : Flow → Shared → Prop} (_F₀ : Fr h₀ L s.heap m) (hLe : env.locals = L)
    (hsw : swapsWith (.ListComp elt [⟨.Name x px, iter, [], 0⟩] scope pos) (some (.Name y py)) spos.line env = pure true)
    (hclos : closureFor scope env = pure cl) (hcell : ∀ z ∈ scope.names, z.2 ≠ .cell) (hkind : scope.kind = .function)
    (hnames : ∀ z ∈ scope.names, z.2 = .local → scope.names.lookup z.1 = some .local) (hx : scope.names.lookup x = some .local)
    (hy : env.kindOf y = some .local) (hp : (env.scope.kind == .class || (env.scope.kind == .module && env.locals != env.globals)) = false)
    (h : wpAny (model prog w) A (eval iter env) (SrcU prog w A h₀ L m env elt x scope cl (fun s₂ => FinA h₀ L m s₂ y Q)) E s)
    (hs : ∀ x, foldedSetIterable iter env x = pure x := by intro _; rfl) :
    wpAny (model prog w) A (exec (.Assign [.Name y py] (.ListComp elt [⟨.Name x px, iter, [], 0⟩] scope pos) spos) env) Q E s := by
  subst hLe
  rw [exec_Assign_Name_used _ _ _ _ hsw]
  refine wpAny_bind (wpAny_standAt (wpAny_bind ?_))
  show wpAny _ A (do let _ ← comprehension (.ListComp elt [⟨.Name x px, iter, [], 0⟩] scope pos) scope env _ (newList []) false (eval iter env) (some (assign (.Name y py) env))) _ _ s
  refine wpAny_bind (wpAny_mono (wpAny_comprehension_free (use := some (assign (.Name y py) env)) (Q := fun _ s' => Q .next s') rfl hs hclos hkind hnames
    (wpAny_mono h (fun xv s₁ h₁ => ?_) fun _ _ e => e)) (fun _ s' hq => wpAny_pure (wpAny_pure hq)) fun _ _ e => e)
  (have hJ15 := h₁; (first | with_reducible refine el7_6 hJ15 ?_ | refine el7_6 hJ15 ?_); clear hJ15; try clear h₁; rintro n P srcs news oI fp St F N hS I hsz R)
  refine I.it _ _ (block_U I.W hsz I.io I.st hcell hkind hx I.go I.lt (F.push _) (N.grown fun b o e => Heap.get?_push_of_some _ e) (Nat.ne_of_lt F.ns.lt) (next_is_new F) (fun p hp => Nat.ne_of_lt (Heap.lt_size (N p hp).1)) hS (R _) ?_)
  intro D C h tk m' ys news' F' N' o1 hn hC₀ hD₀ hCL hDL hCD offC fin
  exact comp_finA hy hp fin F' N' o1 hn hC₀ hCL hCD offC

theorem ItSrc.mono {srcs : Led} {n : Nat} {P P' : Nat → Value → Prop} {xv : Value} {s₁ : Shared} {oI : Obj} {fp : List Addr} {St : Nat → Heap → Prop} (I : ItSrc prog w A h₀ L srcs n P xv s₁ oI fp St) (hp : ∀ i v, P i v → P' i v) : ItSrc prog w A h₀ L srcs n P' xv s₁ oI fp St :=
  ⟨I.it, { sub := I.W.sub, frame := I.W.frame, done := I.W.done, self := I.W.self, item := fun i s Q E hi st hQ => I.W.item i s Q E hi st fun v h' tk hP => hQ v h' tk (hp _ _ hP) }, I.io, I.st, I.go, I.lt⟩
theorem srcT_list {ct elt : PySem.Expr} {x : Str} {scope : Scope} {cl : List (Str × Addr)} {Fin : Shared → List Value → Led → Prop} {s₁ : Shared} {news : Led} {ax : Addr} {us : List Value} {k : Nat} (hh : A.handled = none) (F : Fr h₀ L s₁.heap m) (N : News h₀ L s₁.heap news) (hm : (ax, listOf us.toArray k) ∈ news) (hsz : us.length ≤ 5000)
    (J : Nat → List Value → Led → Prop) (h0 : J 0 [] news)
    (turn : ∀ i ys nw v I oI C oC D m₂ h tk (E' : Value → Shared → Prop), i < us.length → J i ys nw → (us[i]? = some v) → NsObj oC m₂ → m₂ x = some v → Fr h₀ L h m → News h₀ L h ((I, oI) :: (C, oC) :: (D, lst ys) :: nw) → Off3 I C D nw → ((@Ne Nat I C) ∧ (@Ne Nat I D) ∧ (@Ne Nat C D)) → Has [(ax, listOf us.toArray k)] nw →
      wpAny (model prog w) A (isTrue ct (compEnvC scope cl C env) (eval ct (compEnvC scope cl C env))) (fun ok s' => if ok = true then
        wpAny (model prog w) A (eval elt (compEnvC scope cl C env)) (CompEnd h₀ L m { s₁ with heap := h, toks := tk } I oI C oC D (lst ys) (Has [(ax, listOf us.toArray k)]) (fun y nw' => J (i + 1) (ys ++ [y]) nw')) E' s'
        else CompEnd h₀ L m { s₁ with heap := h, toks := tk } I oI C oC D (lst ys) (Has [(ax, listOf us.toArray k)]) (fun _ nw' => J (i + 1) ys nw') Value.none s') E' { s₁ with heap := h, toks := tk })
    (fin : ∀ g ys nw, J us.length ys nw → Has [(ax, listOf us.toArray k)] nw → Fin { s₁ with heap := g } ys nw) : SrcT prog w A h₀ L m env ct elt x scope cl Fin (.ref ax) s₁ :=
  ⟨_, _, [(ax, listOf us.toArray k)], _, _, _, _, F, N, fun p hp => by rw [List.mem_singleton.mp hp]; exact hm, (by have I := ItSrc.list (prog := prog) (w := w) (A := A) hh N hm; rw [List.size_toArray] at I; exact I.mono fun i v h => by simpa using h), (by rw [sizeLine_eq]; (first | lia | omega)), fun g => restT_inv (s := { s₁ with heap := g }) (fun i ys nw => J i ys nw ∧ Has [(ax, listOf us.toArray k)] nw) (fun i ys nw v I oI C oC D m₂ h tk E' hi hj hP hC hx F' N' o ne hS => wpAny_mono (turn i ys nw v I oI C oC D m₂ h tk E' hi hj.1 hP hC hx F' N' o ne hS) (fun ok s' hq => by cases ok with | true => (simp only [if_true] at hq ⊢; exact wpAny_mono hq (fun y s₂ h₂ => compEnd_mono h₂ fun _ _ a b => ⟨b, a⟩) fun _ _ e => e) | false => (simp only [Bool.false_eq_true, if_false] at hq ⊢; exact compEnd_mono hq fun _ _ a b => ⟨b, a⟩)) fun _ _ e => e) (fun ys nw hj => fin g ys nw hj.1 hj.2) _ 0 [] _ (Nat.zero_add _) ⟨h0, fun p hp => by rw [List.mem_singleton.mp hp]; exact hm⟩ (fun p hp => by rw [List.mem_singleton.mp hp]; exact hm)⟩
theorem srcT_range {ct elt : PySem.Expr} {x : Str} {scope : Scope} {cl : List (Str × Addr)} {Fin : Shared → List Value → Led → Prop} {s₁ : Shared} {news : Led} {r : Addr} {a b c : Int} {t u v : Tok} {n : Nat} (hh : A.handled = none) (F : Fr h₀ L s₁.heap m) (N : News h₀ L s₁.heap news) (hr : IsRange s₁.heap r a b c t u v) (hsm : Builtin.Range.small a b c = true) (hn : Builtin.Range.rangeSize a b c = (n : Int)) (hsz : n ≤ 5000)
    (J : Nat → List Value → Led → Prop) (h0 : J 0 [] news)
    (turn : ∀ i ys nw v I oI C oC D m₂ h tk (E' : Value → Shared → Prop), i < n → J i ys nw → (∃ t, v = .int (a + (i : Int) * c) t) → NsObj oC m₂ → m₂ x = some v → Fr h₀ L h m → News h₀ L h ((I, oI) :: (C, oC) :: (D, lst ys) :: nw) → Off3 I C D nw → ((@Ne Nat I C) ∧ (@Ne Nat I D) ∧ (@Ne Nat C D)) → Has [] nw →
      wpAny (model prog w) A (isTrue ct (compEnvC scope cl C env) (eval ct (compEnvC scope cl C env))) (fun ok s' => if ok = true then
        wpAny (model prog w) A (eval elt (compEnvC scope cl C env)) (CompEnd h₀ L m { s₁ with heap := h, toks := tk } I oI C oC D (lst ys) (Has []) (fun y nw' => J (i + 1) (ys ++ [y]) nw')) E' s'
        else CompEnd h₀ L m { s₁ with heap := h, toks := tk } I oI C oC D (lst ys) (Has []) (fun _ nw' => J (i + 1) ys nw') Value.none s') E' { s₁ with heap := h, toks := tk })
    (fin : ∀ g ys nw, J n ys nw → Has [] nw → Fin { s₁ with heap := g } ys nw) : SrcT prog w A h₀ L m env ct elt x scope cl Fin (.ref r) s₁ :=
  ⟨_, _, [], _, _, _, _, F, N, (fun _ h => nomatch h), ((ItSrc.range hh hr hsm hn).mono fun i v h => h.2), (by rw [sizeLine_eq]; (first | lia | omega)), fun g => restT_inv (s := { s₁ with heap := g }) (fun i ys nw => J i ys nw ∧ Has [] nw) (fun i ys nw v I oI C oC D m₂ h tk E' hi hj hP hC hx F' N' o ne hS => wpAny_mono (turn i ys nw v I oI C oC D m₂ h tk E' hi hj.1 hP hC hx F' N' o ne hS) (fun ok s' hq => by cases ok with | true => (simp only [if_true] at hq ⊢; exact wpAny_mono hq (fun y s₂ h₂ => compEnd_mono h₂ fun _ _ a b => ⟨b, a⟩) fun _ _ e => e) | false => (simp only [Bool.false_eq_true, if_false] at hq ⊢; exact compEnd_mono hq fun _ _ a b => ⟨b, a⟩)) fun _ _ e => e) (fun ys nw hj => fin g ys nw hj.1 hj.2) _ 0 [] _ (Nat.zero_add _) ⟨h0, (fun _ h => nomatch h)⟩ (fun _ h => nomatch h)⟩
theorem srcU_list {elt : PySem.Expr} {x : Str} {scope : Scope} {cl : List (Str × Addr)} {Fin : Shared → List Value → Led → Prop} {s₁ : Shared} {news : Led} {ax : Addr} {us : List Value} {k : Nat} (hh : A.handled = none) (F : Fr h₀ L s₁.heap m) (N : News h₀ L s₁.heap news) (hm : (ax, listOf us.toArray k) ∈ news) (hsz : us.length ≤ 5000)
    (J : Nat → List Value → Led → Prop) (h0 : J 0 [] news)
    (turn : ∀ i ys nw v I oI C oC D m₂ h tk (E' : Value → Shared → Prop), i < us.length → J i ys nw → (us[i]? = some v) → NsObj oC m₂ → m₂ x = some v → Fr h₀ L h m → News h₀ L h ((I, oI) :: (C, oC) :: (D, lst ys) :: nw) → Off3 I C D nw → ((@Ne Nat I C) ∧ (@Ne Nat I D) ∧ (@Ne Nat C D)) → Has [(ax, listOf us.toArray k)] nw →
      wpAny (model prog w) A (eval elt (compEnvC scope cl C env)) (CompEnd h₀ L m { s₁ with heap := h, toks := tk } I oI C oC D (lst ys) (Has [(ax, listOf us.toArray k)]) (fun y nw' => J (i + 1) (ys ++ [y]) nw')) E' { s₁ with heap := h, toks := tk })
    (fin : ∀ g ys nw, J us.length ys nw → Has [(ax, listOf us.toArray k)] nw → Fin { s₁ with heap := g } ys nw) : SrcU prog w A h₀ L m env elt x scope cl Fin (.ref ax) s₁ :=
  ⟨_, _, [(ax, listOf us.toArray k)], _, _, _, _, F, N, fun p hp => by rw [List.mem_singleton.mp hp]; exact hm, (by have I := ItSrc.list (prog := prog) (w := w) (A := A) hh N hm; rw [List.size_toArray] at I; exact I.mono fun i v h => by simpa using h), (by rw [sizeLine_eq]; (first | lia | omega)), fun g => restU_inv (s := { s₁ with heap := g }) (fun i ys nw => J i ys nw ∧ Has [(ax, listOf us.toArray k)] nw) (fun i ys nw v I oI C oC D m₂ h tk E' hi hj hP hC hx F' N' o ne hS => wpAny_mono (turn i ys nw v I oI C oC D m₂ h tk E' hi hj.1 hP hC hx F' N' o ne hS) (fun y s₂ h₂ => compEnd_mono h₂ fun _ _ a b => ⟨b, a⟩) fun _ _ e => e) (fun ys nw hj => fin g ys nw hj.1 hj.2) _ 0 [] _ (Nat.zero_add _) ⟨h0, fun p hp => by rw [List.mem_singleton.mp hp]; exact hm⟩ (fun p hp => by rw [List.mem_singleton.mp hp]; exact hm)⟩
theorem srcU_range {elt : PySem.Expr} {x : Str} {scope : Scope} {cl : List (Str × Addr)} {Fin : Shared → List Value → Led → Prop} {s₁ : Shared} {news : Led} {r : Addr} {a b c : Int} {t u v : Tok} {n : Nat} (hh : A.handled = none) (F : Fr h₀ L s₁.heap m) (N : News h₀ L s₁.heap news) (hr : IsRange s₁.heap r a b c t u v) (hsm : Builtin.Range.small a b c = true) (hn : Builtin.Range.rangeSize a b c = (n : Int)) (hsz : n ≤ 5000)
    (J : Nat → List Value → Led → Prop) (h0 : J 0 [] news)
    (turn : ∀ i ys nw v I oI C oC D m₂ h tk (E' : Value → Shared → Prop), i < n → J i ys nw → (∃ t, v = .int (a + (i : Int) * c) t) → NsObj oC m₂ → m₂ x = some v → Fr h₀ L h m → News h₀ L h ((I, oI) :: (C, oC) :: (D, lst ys) :: nw) → Off3 I C D nw → ((@Ne Nat I C) ∧ (@Ne Nat I D) ∧ (@Ne Nat C D)) → Has [] nw →
      wpAny (model prog w) A (eval elt (compEnvC scope cl C env)) (CompEnd h₀ L m { s₁ with heap := h, toks := tk } I oI C oC D (lst ys) (Has []) (fun y nw' => J (i + 1) (ys ++ [y]) nw')) E' { s₁ with heap := h, toks := tk })
    (fin : ∀ g ys nw, J n ys nw → Has [] nw → Fin { s₁ with heap := g } ys nw) : SrcU prog w A h₀ L m env elt x scope cl Fin (.ref r) s₁ :=
  ⟨_, _, [], _, _, _, _, F, N, (fun _ h => nomatch h), ((ItSrc.range hh hr hsm hn).mono fun i v h => h.2), (by rw [sizeLine_eq]; (first | lia | omega)), fun g => restU_inv (s := { s₁ with heap := g }) (fun i ys nw => J i ys nw ∧ Has [] nw) (fun i ys nw v I oI C oC D m₂ h tk E' hi hj hP hC hx F' N' o ne hS => wpAny_mono (turn i ys nw v I oI C oC D m₂ h tk E' hi hj.1 hP hC hx F' N' o ne hS) (fun y s₂ h₂ => compEnd_mono h₂ fun _ _ a b => ⟨b, a⟩) fun _ _ e => e) (fun ys nw hj => fin g ys nw hj.1 hj.2) _ 0 [] _ (Nat.zero_add _) ⟨h0, (fun _ h => nomatch h)⟩ (fun _ h => nomatch h)⟩
theorem cend_0 {I C D : Addr} {oI oC oD : Obj} {srcs nw : Led} {s₁ : Shared} {R : Value → Led → Prop} {y : Value} {h' : Heap} {tk : Nat} (F : Fr h₀ L h' m) (N : News h₀ L h' ((I, oI) :: (C, oC) :: (D, oD) :: nw)) (off : Off3 I C D nw) (hS : Has srcs nw) (r : R y (nw)) :
    CompEnd h₀ L m s₁ I oI C oC D oD (Has srcs) R y { s₁ with heap := h', toks := tk } := by
  refine CompEnd.intro F N (nw) ?_ ?_ (fun p hp => (hS p hp)) r
  · intro p hp
    simp only [List.mem_cons] at hp ⊢
    rcases hp with hp | hp | hp | hp <;> simp [hp]
  · exact off
theorem cend_1 {I C D : Addr} {oI oC oD : Obj} {srcs nw : Led} {s₁ : Shared} {R : Value → Led → Prop} {y : Value} {h' : Heap} {tk : Nat} {x1 : Addr × Obj} (F : Fr h₀ L h' m) (N : News h₀ L h' (x1 :: (I, oI) :: (C, oC) :: (D, oD) :: nw)) (off : Off3 I C D nw) (hS : Has srcs nw) (ax1 : I < x1.1) (bx1 : C < x1.1) (cx1 : D < x1.1) (r : R y (x1 :: nw)) :
    CompEnd h₀ L m s₁ I oI C oC D oD (Has srcs) R y { s₁ with heap := h', toks := tk } := by
  refine CompEnd.intro F N (x1 :: nw) ?_ ?_ (fun p hp => .tail _ ((hS p hp))) r
  · intro p hp
    simp only [List.mem_cons] at hp ⊢
    rcases hp with hp | hp | hp | hp | hp <;> simp [hp]
  · exact ⟨⟨Nat.ne_of_gt ax1, Nat.ne_of_gt bx1, Nat.ne_of_gt cx1⟩, off⟩
theorem cend_2 {I C D : Addr} {oI oC oD : Obj} {srcs nw : Led} {s₁ : Shared} {R : Value → Led → Prop} {y : Value} {h' : Heap} {tk : Nat} {x1 x2 : Addr × Obj} (F : Fr h₀ L h' m) (N : News h₀ L h' (x1 :: x2 :: (I, oI) :: (C, oC) :: (D, oD) :: nw)) (off : Off3 I C D nw) (hS : Has srcs nw) (ax1 : I < x1.1) (bx1 : C < x1.1) (cx1 : D < x1.1) (ax2 : I < x2.1) (bx2 : C < x2.1) (cx2 : D < x2.1) (r : R y (x1 :: x2 :: nw)) :
    CompEnd h₀ L m s₁ I oI C oC D oD (Has srcs) R y { s₁ with heap := h', toks := tk } := by
  refine CompEnd.intro F N (x1 :: x2 :: nw) ?_ ?_ (fun p hp => .tail _ (.tail _ ((hS p hp)))) r
  · intro p hp
    simp only [List.mem_cons] at hp ⊢
    rcases hp with hp | hp | hp | hp | hp | hp <;> simp [hp]
  · exact ⟨⟨Nat.ne_of_gt ax1, Nat.ne_of_gt bx1, Nat.ne_of_gt cx1⟩, ⟨⟨Nat.ne_of_gt ax2, Nat.ne_of_gt bx2, Nat.ne_of_gt cx2⟩, off⟩⟩
theorem compEnd_S {I C D : Addr} {oI oC oD : Obj} {s₁ s₂ : Shared} {S S' : Led → Prop} {R R' : Value → Led → Prop} {y : Value} (h : CompEnd h₀ L m s₁ I oI C oC D oD S R y s₂) (hs : ∀ nw, S nw → S' nw) (hr : ∀ y nw, S nw → R y nw → R' y nw) : CompEnd h₀ L m s₁ I oI C oC D oD S' R' y s₂ := by
  (have hJ16 := h; (first | with_reducible refine el3_6 hJ16 ?_ | refine el3_6 hJ16 ?_); clear hJ16; try clear h; rintro h' tk nw e F N o hS r)
  exact ⟨h', tk, nw, e, F, N, o, hs nw hS, hr y nw hS r⟩
theorem srcP_list {elt : PySem.Expr} {x x₂ : Str} {scope : Scope} {cl : List (Str × Addr)} {Fin : Shared → List Value → Led → Prop} {s₁ : Shared} {news : Led} {ax : Addr} {us : List Value} {k : Nat} (hh : A.handled = none) (F : Fr h₀ L s₁.heap m) (N : News h₀ L s₁.heap news) (hm : (ax, listOf us.toArray k) ∈ news) (hsz : us.length ≤ 5000)
    (J : Nat → List Value → Led → Prop) (h0 : J 0 [] news)
    (turn : ∀ i ys nw v, i < us.length → J i ys nw → us[i]? = some v → Has [(ax, listOf us.toArray k)] nw → ∃ (t : Addr) (v₁ v₂ : Value) (nt : Nat), v = .ref t ∧ (t, tupO [v₁, v₂] nt) ∈ nw ∧
      ∀ I oI C oC D m₂ h tk (E' : Value → Shared → Prop), NsObj oC m₂ → m₂ x = some v₁ → m₂ x₂ = some v₂ → Fr h₀ L h m → News h₀ L h ((I, oI) :: (C, oC) :: (D, lst ys) :: nw) → Off3 I C D nw → ((@Ne Nat I C) ∧ (@Ne Nat I D) ∧ (@Ne Nat C D)) →
      wpAny (model prog w) A (eval elt (compEnvC scope cl C env)) (CompEnd h₀ L m { s₁ with heap := h, toks := tk } I oI C oC D (lst ys) (Has [(ax, listOf us.toArray k)]) (fun y nw' => J (i + 1) (ys ++ [y]) nw')) E' { s₁ with heap := h, toks := tk })
    (fin : ∀ g ys nw, J us.length ys nw → Has [(ax, listOf us.toArray k)] nw → Fin { s₁ with heap := g } ys nw) : SrcLP prog w A h₀ L m env elt x x₂ scope cl Fin (.ref ax) s₁ := by
  have hl : us.toArray.size = us.length := List.size_toArray
  have hS0 : Has [(ax, listOf us.toArray k)] news := fun p hp => by rw [List.mem_singleton.mp hp]; exact hm
  refine SrcLP.ledger (its := us.toArray) (k := k) hh F N hm (by rw [hl, sizeLine_eq]; (first | lia | omega)) fun g => ?_
  refine restP_inv (s := { s₁ with heap := g }) (fun i ys nw => J i ys nw ∧ Has [(ax, listOf us.toArray k)] nw) (fun i ys nw v hi hj hP _ => ?_) (fun ys nw hj => fin g ys nw (by rw [← hl]; exact hj.1) hj.2) _ 0 [] _ (Nat.zero_add _) ⟨h0, hS0⟩ (.inr ⟨_, hm, rfl, _, rfl⟩)
  obtain ⟨t, v₁, v₂, nt, e1, e2, hb⟩ := turn i ys nw v (by rw [← hl]; exact hi) hj.1 (by simpa using hP) hj.2
  refine ⟨t, _, v₁, v₂, nt, e1, e2, rfl, rfl, fun I oI C oC D m₂ h tk E' hC hx hx2 F' N' off ne => ?_⟩
  exact wpAny_mono (hb I oI C oC D m₂ h tk E' hC hx hx2 F' N' off ne) (fun y s₂ h₂ => compEnd_S h₂ (fun nw' h' => .inr ⟨_, h' _ (.head _), rfl, _, rfl⟩) fun _ _ a b => ⟨b, a⟩) fun _ _ e => e
end
end --T_Cmp

section --T_Cmz
open PySem PySem.W PyProof.Rows PySem.Spec PySem.Calls
open LCg LCt LCp
section
variable {prog : Program} {w : World} {A : Around} {E : Value → Shared → Prop} {s : Shared} {h₀ : Heap} {L : Addr} {m : Str → Option Value} {env : Env}
theorem off1_of {D : Addr} : ∀ {l : Led}, (∀ p ∈ l, p.1 ≠ D) → Off1 D l
  | [], _ => trivial
  | _ :: _, h => ⟨h _ (.head _), off1_of fun p hp => h p (.tail _ hp)⟩
theorem newEnvZ {M : Model} {scope : Scope} {globals : Addr} {cl : List (Str × Addr)} {qual : Str} {o : Env} {x : Str} {Q : Env → Shared → Prop} (hc : ∀ n acc, cellsFrom n scope.names acc = (x, n) :: acc) (hp : ∀ h, pushCells h scope.names = h.push { cls := .type "cell", data := .cell none })
    (hQ : Q { scope, locals := s.heap.objs.size, globals, cells := (x, s.heap.objs.size + 1) :: cl, qual, func := none, code := o.code, frame := o.frame, builtins := o.builtins } { s with heap := (s.heap.push { cls := .type "dict", data := .dict #[] }).push { cls := .type "cell", data := .cell none } }) :
    wpAny M A (newFunctionEnv scope globals cl [] qual none .none (some o)) Q E s := by
  simp only [newFunctionEnv, Option.isSome_some, if_true]
  refine wpAny_bind (wpAny_alloc ?_)
  refine wpAny_bind (wpAny_layCells _ (fun name kind cells => by cases hkc : kind == NameKind.cell <;> simp [hkc]) _ _ _ _ ?_)
  rw [hc, hp]
  rw [show ({ s with heap := s.heap.push { cls := .type "dict", data := .dict #[] } } : Shared).heap.objs.size = s.heap.objs.size + 1 from Heap.size_push ..]
  exact wpAny_bind (wpAny_pure (wpAny_pure hQ))
noncomputable def ZEnd (h₀ : Heap) (L : Addr) (m : Str → Option Value) (s₁ : Shared) (I : Addr) (oI : Obj) (C : Addr) (oC : Obj) (Z : Addr) (oZ : Obj) (D : Addr) (ys : List Value) (R : Value → Led → Prop) (y : Value) (s₂ : Shared) : Prop :=
  ∃ h' tk' nw', s₂ = { s₁ with heap := h', toks := tk' } ∧ Fr h₀ L h' m ∧ News h₀ L h' ((I, oI) :: (C, oC) :: (Z, oZ) :: (D, lst ys) :: nw') ∧ (∀ p ∈ nw', p.1 ≠ I ∧ p.1 ≠ C ∧ p.1 ≠ Z ∧ p.1 ≠ D) ∧ R y nw'
noncomputable def SrcZ (prog : Program) (w : World) (A : Around) (h₀ : Heap) (L : Addr) (m : Str → Option Value) (env : Env) (elt : PySem.Expr) (x : Str) (scope : Scope) (cl : List (Str × Addr)) (Fin : Shared → List Value → Led → Prop) (xv : Value) (s₁ : Shared) : Prop :=
  ∃ (r : Addr) (a b c : Int) (t u v : Tok) (n : Nat) (news : Led) (J : Nat → List Value → Led → Prop), xv = .ref r ∧ A.handled = none ∧ Fr h₀ L s₁.heap m ∧ News h₀ L s₁.heap news ∧ IsRange s₁.heap r a b c t u v ∧ Builtin.Range.small a b c = true ∧ Builtin.Range.rangeSize a b c = (n : Int) ∧ n ≤ 5000 ∧ J 0 [] news ∧
    (∀ i ys nw v I oI C oC Z oZ D h tk (E' : Value → Shared → Prop), i < n → J i ys nw → (∃ t, v = .int (a + (i : Int) * c) t) → oZ.data = .cell (some v) → Fr h₀ L h m → News h₀ L h ((I, oI) :: (C, oC) :: (Z, oZ) :: (D, lst ys) :: nw) → (∀ p ∈ nw, p.1 ≠ I ∧ p.1 ≠ C ∧ p.1 ≠ Z ∧ p.1 ≠ D) →
      wpAny (model prog w) A (eval elt (compEnvC scope ((x, Z) :: cl) C env)) (ZEnd h₀ L m s₁ I oI C oC Z oZ D ys (fun y nw' => J (i + 1) (ys ++ [y]) nw')) E' { s₁ with heap := h, toks := tk }) ∧
    (∀ ys nw, J n ys nw → Fin s₁ ys nw)
theorem comp_Z {elt iter : PySem.Expr} {x : Str} {px : Pos} {scope : Scope} {cl : List (Str × Addr)} {pos : Pos} {Q : Value → Shared → Prop} (_F₀ : Fr h₀ L s.heap m)
    (hclos : closureFor scope env = pure cl) (hc : ∀ n acc, cellsFrom n scope.names acc = (x, n) :: acc) (hp : ∀ h, pushCells h scope.names = h.push { cls := .type "cell", data := .cell none }) (hkind : scope.kind = .function)
    (hnames : ∀ y ∈ scope.names, y.2 = .local → scope.names.lookup y.1 = some .local) (hx : (relabel scope env).names.lookup x = some .cell)
    (h : wpAny (model prog w) A (eval iter env) (SrcZ prog w A h₀ L m env elt x scope cl (fun s₂ => FinE h₀ L m s₂ Q)) E s)
    (hs : ∀ x, foldedSetIterable iter env x = pure x := by intro _; rfl) :
    wpAny (model prog w) A (eval (.ListComp elt [⟨.Name x px, iter, [], 0⟩] scope pos) env) Q E s := by
  rw [eval_ListComp]
  refine wpAny_comprehension_free (use := none) rfl hs hclos hkind hnames (wpAny_mono h (fun xv s₁ h₁ => ?_) fun _ _ e => e)
  (have hJ17 := h₁; (first | with_reducible refine el10_11 hJ17 ?_ | refine el10_11 hJ17 ?_); clear hJ17; try clear h₁; rintro r a b c t u v n news J rfl hh F N hr hsm hn hsz h0 turn fin)
  refine wpAny_pyIter_range hr hsm (wpAny_newObj_type (newEnvZ hc hp ?_))
  dsimp only
  refine el1_1 (⟨_, rfl⟩ : ∃ I : Addr, I = s₁.heap.objs.size) ?_
  intro I hI
  simp only [Heap.size_push]
  rw [← hI]
  generalize hH : ((((s₁.heap.push { cls := .type "range_iterator", data := .fields #[rawInt a, rawInt (Builtin.Range.rangeSize a b c), rawInt c] }).push { cls := .type "list", dict := none, data := .seq ([] : List Value).toArray }).push { cls := .type "dict", data := .dict #[] }).push { cls := .type "cell", data := .cell none }) = H
  have old : ∀ b o, s₁.heap.get? b = some o → H.get? b = some o := fun b o e => by
    rw [← hH]
    exact Heap.get?_push_of_some _ (Heap.get?_push_of_some _ (Heap.get?_push_of_some _ (Heap.get?_push_of_some _ e)))
  have gI : H.get? I = some { cls := .type "range_iterator", data := .fields #[rawInt a, rawInt (Builtin.Range.rangeSize a b c), rawInt c] } := by
    rw [← hH, hI]
    exact Heap.get?_push_of_some _ (Heap.get?_push_of_some _ (Heap.get?_push_of_some _ (Heap.get?_push_size _ rfl)))
  have gD : H.get? (I + 1) = some (lst []) := by
    rw [← hH, hI]
    refine Heap.get?_push_of_some _ (Heap.get?_push_of_some _ ?_)
    have e := Heap.get?_push_size (s₁.heap.push { cls := .type "range_iterator", data := .fields #[rawInt a, rawInt (Builtin.Range.rangeSize a b c), rawInt c] }) (o := { cls := .type "list", dict := none, data := .seq ([] : List Value).toArray }) rfl
    rwa [Heap.size_push] at e
  have gC : H.Ns (I + 1 + 1) (fun _ => none) := by
    rw [← hH, hI]
    have e := Heap.Ns.new ((s₁.heap.push { cls := .type "range_iterator", data := .fields #[rawInt a, rawInt (Builtin.Range.rangeSize a b c), rawInt c] }).push { cls := .type "list", dict := none, data := .seq ([] : List Value).toArray }) (.type "dict")
    rw [Heap.size_push, Heap.size_push] at e
    exact e.keeps fun b o e => Heap.get?_push_of_some _ e
  have gZ : H.get? (I + 1 + 1 + 1) = some { cls := .type "cell", data := .cell none } := by
    rw [← hH, hI]
    have e := Heap.get?_push_size (((s₁.heap.push { cls := .type "range_iterator", data := .fields #[rawInt a, rawInt (Builtin.Range.rangeSize a b c), rawInt c] }).push { cls := .type "list", dict := none, data := .seq ([] : List Value).toArray }).push { cls := .type "dict", data := .dict #[] }) (o := { cls := .type "cell", data := .cell none }) rfl
    rwa [Heap.size_push, Heap.size_push, Heap.size_push] at e
  refine el1_1 (⟨_, rfl⟩ : ∃ D : Addr, D = I + 1) ?_
  intro D hD
  refine el1_1 (⟨_, rfl⟩ : ∃ C : Addr, C = I + 1 + 1) ?_
  intro C hC
  refine el1_1 (⟨_, rfl⟩ : ∃ Z : Addr, Z = I + 1 + 1 + 1) ?_
  intro Z hZ
  have hLI : @LT.lt Nat _ L I := by rw [hI]; exact F.ns.lt
  have above : @LE.le Nat _ h₀.objs.size L := F.above
  have fresh : ∀ x : Addr, @LE.le Nat _ I x → h₀.get? x = none := fun x hx => Heap.get?_none_of_le (Nat.le_trans above (Nat.le_trans (Nat.le_of_lt hLI) hx))
  have eI : @LE.le Nat _ I I := Nat.le_refl _
  have eD : @LE.le Nat _ I D := by rw [hD]; exact Nat.le_succ _
  have eC : @LE.le Nat _ I C := by rw [hC]; exact Nat.le_trans (Nat.le_succ _) (Nat.le_succ _)
  have eZ : @LE.le Nat _ I Z := by rw [hZ]; exact Nat.le_trans (Nat.le_succ _) (Nat.le_trans (Nat.le_succ _) (Nat.le_succ _))
  have hDI : @Ne Nat D I := by rw [hD]; exact Nat.ne_of_gt (Nat.lt_succ_self _)
  have hCI : @Ne Nat C I := by rw [hC]; exact Nat.ne_of_gt (.step .refl)
  have hZI : @Ne Nat Z I := by rw [hZ]; exact Nat.ne_of_gt (.step (.step .refl))
  have hCD : @Ne Nat C D := by rw [hC, hD]; exact Nat.ne_of_gt (.refl)
  have hZD : @Ne Nat Z D := by rw [hZ, hD]; exact Nat.ne_of_gt (.step .refl)
  have hZC : @Ne Nat Z C := by rw [hZ, hC]; exact Nat.ne_of_gt (.refl)
  have neL : ∀ x : Addr, @LE.le Nat _ I x → @Ne Nat x L := fun x hx => Nat.ne_of_gt (Nat.lt_of_lt_of_le hLI hx)
  rw [← hZ, ← hC, ← hD]
  rw [← hD] at gD
  rw [← hC] at gC
  rw [← hZ] at gZ
  have off0 : ∀ p ∈ news, p.1 ≠ I ∧ p.1 ≠ C ∧ p.1 ≠ Z ∧ p.1 ≠ D := fun p hp => by
    have hl : @LT.lt Nat _ p.1 I := by rw [hI]; exact Heap.lt_size (N p hp).1
    exact ⟨Nat.ne_of_lt hl, Nat.ne_of_lt (Nat.lt_of_lt_of_le hl eC), Nat.ne_of_lt (Nat.lt_of_lt_of_le hl eZ), Nat.ne_of_lt (Nat.lt_of_lt_of_le hl eD)⟩
  have W := (Walks.range (prog := prog) (w := w) hh I a c n).bound
  have hst₀ : IsRangeIter H I (a + ((0 : Nat) : Int) * c) ((n : Int) - ((0 : Nat) : Int)) c := by
    show H.get? I = some _
    rw [gI, hn]; simp
  have loop : ∀ s₃ : Shared, s₃ = { s₁ with heap := H } → codeAny (model prog w) A (.compLoop (.ListComp elt [⟨.Name x px, iter, [], 0⟩] scope pos) 0 (.ref I) (.ref D) (compEnvC scope ((x, Z) :: cl) C env)) (compPost (model prog w) A E none Q (.ref D) C) s₃ := by
    rintro s₃ rfl
    refine codeAny_compLoop_tests
      (fun k s' => ∃ h' tk i ys nw mC oZ v0, s' = { s₁ with heap := h', toks := tk } ∧ i ≤ n ∧ k = n + 1 - i ∧ ys.length = i ∧ IsRangeIter h' I (a + ((i : Nat) : Int) * c) ((n : Int) - ((i : Nat) : Int)) c ∧ Fr h₀ L h' m ∧ h'.Ns C mC ∧ oZ.data = .cell v0 ∧ News h₀ L h' ((Z, oZ) :: (D, lst ys) :: nw) ∧
        (∀ p ∈ nw, p.1 ≠ I ∧ p.1 ≠ C ∧ p.1 ≠ Z ∧ p.1 ≠ D) ∧ J i ys nw) ?_ (n + 1)
      ⟨H, _, 0, [], news, _, { cls := .type "cell", data := .cell none }, _, rfl, Nat.zero_le _, rfl, rfl, hst₀, F.keeps old, gC, rfl, ?_, off0, h0⟩
    · intro k s' hJ20
      refine el8_11 hJ20 ?_
      clear hJ20
      rintro h' tk i ys nw mC oZ v0 rfl hi rfl hyl hst' F' hn' hoZ N' off' hJ
      have zZ := N' (Z, oZ) (.head _)
      have zD := N' (D, lst ys) (.tail _ (.head _))
      by_cases hlt : i < n
      · refine W.item i _ _ _ hlt hst' fun v h₂ tk₂ hPv hst₂ hk₂ => ?_
        have kk : ∀ b o, @Ne Nat b I → h'.get? b = some o → h₂.get? b = some o := fun b o hb e => hk₂ b o (by simpa using hb) e
        refine wpAny_assign_Name (wpAny_storeName_cell (c := Z) hkind hx (by simp [compEnvC]) ⟨oZ, kk Z oZ hZI zZ.1, hoZ⟩ (fun h₃ hc₃ hs₃ => ?_))
        refine wpAny_tests_nil ?_
        simp only [if_true]
        refine el1_2 hc₃ ?_
        clear hc₃
        intro oZ3 eZ3 dZ
        have k3 : ∀ b o, @Ne Nat b Z → h₂.get? b = some o → h₃.get? b = some o := fun b o hb e => hs₃.extBut b o hb e
        refine el1_2 (ns_obj (hn'.at' (h' := h₃) fun o e => k3 C o (Ne.symm hZC) (kk C o hCI e))) ?_
        intro oC heC hoC
        have stI : h₃.get? I = some _ := k3 I _ (Ne.symm hZI) hst₂
        have F₃ : Fr h₀ L h₃ m := (fr_but F' hk₂ (Ne.symm (neL I eI)) (fresh I eI)).change hs₃ (neL Z eZ) (fresh Z eZ)
        have N₃ : News h₀ L h₃ ((I, _) :: (C, oC) :: (Z, oZ3) :: (D, lst ys) :: nw) := all_cons ⟨stI, neL I eI, fresh I eI⟩ (all_cons ⟨heC, neL C eC, fresh C eC⟩ (all_cons ⟨eZ3, neL Z eZ, fresh Z eZ⟩ (all_cons ⟨k3 _ _ (Ne.symm hZD) (kk _ _ hDI zD.1), zD.2⟩
          fun p hp => ⟨k3 _ _ (off' p hp).2.2.1 (kk _ _ (off' p hp).1 (N' p (.tail _ (.tail _ hp))).1), (N' p (.tail _ (.tail _ hp))).2⟩)))
        refine wpAny_mono (turn i ys nw v I _ C oC Z oZ3 D h₃ _ _ hlt hJ hPv.2 dZ F₃ N₃ off') (fun y s₄ h₄ => ?_) fun _ _ e => e
        (have hJ18 := h₄; (first | with_reducible refine el3_5 hJ18 ?_ | refine el3_5 hJ18 ?_); clear hJ18; try clear h₄; rintro h₄ tk₄ nw₄ rfl F₄ N₄ off₄ J₄)
        have yI := N₄ _ (.head _)
        have yC := N₄ _ (.tail _ (.head _))
        have yZ := N₄ _ (.tail _ (.tail _ (.head _)))
        have yD := N₄ _ (.tail _ (.tail _ (.tail _ (.head _))))
        refine append_at (hsz := by show ys.toArray.size ≤ sizeLine; rw [List.size_toArray, hyl, sizeLine_eq]; (first | lia | omega)) yD.1 fun h₅ hs₅ hD₅ => ?_
        have k5 : ∀ b o, @Ne Nat b D → h₄.get? b = some o → h₅.get? b = some o := fun b o hb e => hs₅.extBut b o hb e
        refine ⟨n + 1 - (i + 1), by (first | lia | omega), h₅, tk₄, i + 1, ys ++ [y], nw₄, _, oZ3, _, rfl, hlt, rfl, by rw [List.length_append, List.length_singleton, hyl], k5 I _ (Ne.symm hDI) yI.1, F₄.change hs₅ (neL D eD) (fresh D eD),
          (hoC.ns yC.1).sameBut hs₅ hCD, dZ, all_cons ⟨k5 _ _ hZD yZ.1, yZ.2⟩ (all_cons ⟨hD₅.trans (congrArg some (lst_snoc ys y)), yD.2⟩ fun p hp => ⟨k5 _ _ (off₄ p hp).2.2.2 (N₄ p (.tail _ (.tail _ (.tail _ (.tail _ hp))))).1, (N₄ p (.tail _ (.tail _ (.tail _ (.tail _ hp))))).2⟩), off₄, J₄⟩
      · obtain rfl : i = n := Nat.le_antisymm hi (Nat.not_lt.mp hlt)
        refine W.done _ _ _ hst' fun h₂ tk₂ hk₂ => ?_
        have kk : ∀ b o, @Ne Nat b I → h'.get? b = some o → h₂.get? b = some o := fun b o hb e => hk₂ b o (by simpa using hb) e
        have N2 : News h₀ L h₂ ((D, lst ys) :: nw) := all_cons ⟨kk _ _ hDI zD.1, zD.2⟩ fun p hp => ⟨kk _ _ (off' p hp).1 (N' p (.tail _ (.tail _ hp))).1, (N' p (.tail _ (.tail _ hp))).2⟩
        exact comp_finE (fin ys nw hJ) (fr_but F' hk₂ (Ne.symm (neL I eI)) (fresh I eI)) N2 (off1_of fun p hp => (off' p hp).2.2.2) (hn'.at' fun o e => kk C o hCI e) (fresh C eC) (neL C eC) hCD (fun p hp => (off' p hp).2.1)
    · exact all_cons ⟨gZ, neL Z eZ, fresh Z eZ⟩ (all_cons ⟨gD, neL D eD, fresh D eD⟩ fun p hp => ⟨old _ _ (N p hp).1, (N p hp).2⟩)
  exact codeAny_compStart_list (loop _ rfl) (W.self 0 _ _ _ hst₀ (loop _ rfl))
end
end --T_Cmz

section --T_Lop
open PySem PySem.W PyProof.Rows PySem.Spec PySem.Calls
open LCg LCt LCp
section
variable {prog : Program} {w : World} {A : Around} {E : Value → Shared → Prop} {s : Shared} {h₀ : Heap} {L : Addr} {m : Str → Option Value} {env : Env}
/-- the end of a turn: the iterator's entry, ahead, stands; the rest is as the invariant says -/
noncomputable def TurnOk (h₀ : Heap) (L I : Addr) (oI : Obj) (srcs : Led) (J : (Str → Option Value) → Led → Prop) (s₁ s₂ : Shared) : Prop :=
  ∃ h' tk m' nx, s₂ = { s₁ with heap := h', toks := tk } ∧ Fr h₀ L h' m' ∧ News h₀ L h' ((I, oI) :: nx) ∧ (∀ p ∈ nx, p.1 ≠ I) ∧ Has srcs nx ∧ J m' nx
noncomputable def TurnEnd (h₀ : Heap) (L I : Addr) (oI : Obj) (srcs : Led) (J : (Str → Option Value) → Led → Prop) (Q : Flow → Shared → Prop) (s₁ : Shared) (f : Flow) (s₂ : Shared) : Prop :=
  match f with
  | .ret v => Q (.ret v) s₂
  | .brk => Q .next s₂
  | _ => TurnOk h₀ L I oI srcs J s₁ s₂
theorem my_for_any {Q : Flow → Shared → Prop} {target iter : PySem.Expr} {pos : Pos} {body : List Stmt} (h₀ : Heap)
    (h : wpAny (model prog w) A (eval iter env) (fun xv s₁ => ∃ (n : Nat) (P : Nat → Value → Prop) (srcs : Led) (oI : Obj) (fp : List Addr) (St : Nat → Heap → Prop) (m₀ : Str → Option Value) (news : Led) (J : Nat → (Str → Option Value) → Led → Prop),
      Fr h₀ env.locals s₁.heap m₀ ∧ News h₀ env.locals s₁.heap news ∧ Has srcs news ∧ ItSrc prog w A h₀ env.locals srcs n P xv s₁ oI fp St ∧ J 0 m₀ news ∧
      (∀ i v (s' : Shared) (Q' : Unit → Shared → Prop) E', i < n → P i v → St (i + 1) s'.heap → Q' () s' → wpAny (model prog w) A (letOwnedTupleGo target (.ref s₁.heap.objs.size) v) Q' E' s') ∧
      (∀ i v m₁ nx h tk oI', i < n → P i v → J i m₁ nx → Has srcs nx → (∀ p ∈ nx, p.1 ≠ s₁.heap.objs.size) → Fr h₀ env.locals h m₁ → News h₀ env.locals h ((s₁.heap.objs.size, oI') :: nx) →
        wpAny (model prog w) A (assign target env v) (fun _ s₂ => wpAny (model prog w) A (execs body env) (TurnEnd h₀ env.locals s₁.heap.objs.size oI' srcs (J (i + 1)) Q { s₁ with heap := h, toks := tk }) E s₂) E { s₁ with heap := h, toks := tk }) ∧
      (∀ m₁ nx h tk, J n m₁ nx → Fr h₀ env.locals h m₁ → News h₀ env.locals h nx → Q .next { s₁ with heap := h, toks := tk })) E s)
    (hs : ∀ x, foldedSetIterable iter env x = pure x := by intro _; rfl)
    (hE : PassesOwn (model prog w) A env E := by passes_own) :
    wpAny (model prog w) A (exec (.For target iter body [] pos) env) Q E s := by
  refine wpAny_For (wpAny_mono h (fun xv s₁ h₁ => ?_) fun _ _ e => e) hs
  (have hJ1 := h₁; (first | with_reducible refine el9_8 hJ1 ?_ | refine el9_8 hJ1 ?_); clear hJ1; try clear h₁; rintro n P srcs oI fp St m₀ news J F N hS I hj hgo turn done)
  refine I.it _ _ ?_
  have hI₀ : h₀.get? s₁.heap.objs.size = none := next_is_new F
  have hLI : env.locals ≠ s₁.heap.objs.size := Nat.ne_of_lt F.ns.lt
  refine codeAny_forLoop_any (R := fun r s' => match r with | .ok f => Q f s' | .error e => cameBackBy (model prog w) A env E e s')
    (fun k s' => ∃ h' tk m' nx i, s' = { s₁ with heap := h', toks := tk } ∧ St i h' ∧ Fr h₀ env.locals h' m' ∧ News h₀ env.locals h' nx ∧ (∀ p ∈ nx, p.1 ≠ s₁.heap.objs.size) ∧ Has srcs nx ∧ J i m' nx ∧ i ≤ n ∧ k = n + 1 - i) ?_ (n + 1)
    ⟨_, _, m₀, news, 0, rfl, I.go, F.push _, N.grown fun b o e => Heap.get?_push_of_some _ e, fun p hp => Nat.ne_of_lt (Heap.lt_size (N p hp).1), hS, hj, Nat.zero_le _, rfl⟩
  (rintro k s' hJ2; (first | with_reducible refine el5_9 hJ2 ?_ | refine el5_9 hJ2 ?_); clear hJ2; rintro h' tk m' nx i rfl hst F' N' off hS' hJ hi rfl)
  by_cases hlt : i < n
  · refine I.W.item i _ _ _ hlt hst fun v h₁ tk₁ hP hst₁ hk₁ => ?_
    have F₁ := fr_but F' hk₁ hLI hI₀
    have N₁ := news_but N' hk₁ off
    obtain ⟨oI', eI⟩ := I.io _ _ hst₁
    have N₂ : News h₀ env.locals h₁ ((s₁.heap.objs.size, oI') :: nx) := fun p hp => by
      rcases List.mem_cons.mp hp with rfl | hp
      · exact ⟨eI, Ne.symm hLI, hI₀⟩
      · exact N₁ p hp
    refine hgo i v _ _ _ hlt hP hst₁ ?_
    refine wpAny_mono (turn i v m' nx h₁ tk₁ oI' hlt hP hJ hS' off F₁ N₂) (fun _ s₂ h₂ => ?_) (fun e s'' he => hE e s'' he)
    refine wpAny_mono h₂ (fun f s₃ hE₃ => ?_) (fun e s'' he => hE e s'' he)
    have fin : TurnOk h₀ env.locals s₁.heap.objs.size oI' srcs (J (i + 1)) { s₁ with heap := h₁, toks := tk₁ } s₃ → ∃ k, k < n + 1 - i ∧ ∃ h' tk m' nx i, s₃ = { s₁ with heap := h', toks := tk } ∧ St i h' ∧ Fr h₀ env.locals h' m' ∧ News h₀ env.locals h' nx ∧ (∀ p ∈ nx, p.1 ≠ s₁.heap.objs.size) ∧ Has srcs nx ∧ J i m' nx ∧ i ≤ n ∧ k = n + 1 - i := by
      (rintro hJ3; (first | with_reducible refine el4_6 hJ3 ?_ | refine el4_6 hJ3 ?_); clear hJ3; rintro h₃ tk₃ m₃ nx₃ rfl F₃ N₃ off₃ hS₃ hJ₃)
      refine ⟨n + 1 - (i + 1), by (first | lia | omega), h₃, tk₃, m₃, nx₃, i + 1, rfl, ?_, F₃, fun p hp => N₃ p (.tail _ hp), off₃, hS₃, hJ₃, hlt, rfl⟩
      exact I.st _ _ _ _ _ hst₁ eI (N₃ _ (.head _)).1 F₃.keep (fun p hp => N₃ p (.tail _ hp)) hS₃
    cases f with
    | ret v => exact hE₃
    | brk => exact hE₃
    | next => exact fin hE₃
    | cont => exact fin hE₃
  · have hin : i = n := by (first | lia | omega)
    subst hin
    refine I.W.done _ _ _ hst fun h₁ tk₁ hk₁ => wpAny_execs_nil ?_
    exact done m' nx h₁ tk₁ hJ (fr_but F' hk₁ hLI hI₀) (news_but N' hk₁ off)
/-- over a plain name -/
theorem my_for {x : Str} {px : Pos} {Q : Flow → Shared → Prop} {iter : PySem.Expr} {pos : Pos} {body : List Stmt} (h₀ : Heap) (hx : env.kindOf x = some .local) (hp : (env.scope.kind == .class || (env.scope.kind == .module && env.locals != env.globals)) = false)
    (h : wpAny (model prog w) A (eval iter env) (fun xv s₁ => ∃ (n : Nat) (P : Nat → Value → Prop) (srcs : Led) (oI : Obj) (fp : List Addr) (St : Nat → Heap → Prop) (m₀ : Str → Option Value) (news : Led) (J : Nat → (Str → Option Value) → Led → Prop),
      Fr h₀ env.locals s₁.heap m₀ ∧ News h₀ env.locals s₁.heap news ∧ Has srcs news ∧ ItSrc prog w A h₀ env.locals srcs n P xv s₁ oI fp St ∧ J 0 m₀ news ∧
      (∀ i v m₁ nx h tk oI', i < n → P i v → J i m₁ nx → Has srcs nx → (∀ p ∈ nx, p.1 ≠ s₁.heap.objs.size) → Fr h₀ env.locals h (fun y => if y = x then some v else m₁ y) → News h₀ env.locals h ((s₁.heap.objs.size, oI') :: nx) →
        wpAny (model prog w) A (execs body env) (TurnEnd h₀ env.locals s₁.heap.objs.size oI' srcs (J (i + 1)) Q { s₁ with heap := h, toks := tk }) E { s₁ with heap := h, toks := tk }) ∧
      (∀ m₁ nx h tk, J n m₁ nx → Fr h₀ env.locals h m₁ → News h₀ env.locals h nx → Q .next { s₁ with heap := h, toks := tk })) E s)
    (hs : ∀ x, foldedSetIterable iter env x = pure x := by intro _; rfl)
    (hE : PassesOwn (model prog w) A env E := by passes_own) :
    wpAny (model prog w) A (exec (.For (.Name x px) iter body [] pos) env) Q E s := by
  refine my_for_any h₀ (wpAny_mono h (fun xv s₁ h₁ => ?_) fun _ _ e => e) hs hE
  (have hJ4 := h₁; (first | with_reducible refine el9_7 hJ4 ?_ | refine el9_7 hJ4 ?_); clear hJ4; try clear h₁; rintro n P srcs oI fp St m₀ news J F N hS I hj turn done)
  refine ⟨n, P, srcs, oI, fp, St, m₀, news, J, F, N, hS, I, hj, fun _ _ _ _ _ _ _ _ hq => wpAny_pure hq, ?_, done⟩
  intro i v m₁ nx h tk oI' hi hP hJ hS' off F' N'
  refine wpAny_assign_Name (wpAny_storeName_local hx F'.ns (fun h₂ hn₂ hs₂ => ?_) hp)
  refine wpAny_mono (turn i v m₁ nx h₂ _ oI' hi hP hJ hS' off (F'.set hn₂ hs₂) (N'.set hs₂)) (fun f s₂ h₂ => ?_) fun _ _ e => e
  cases f with
  | ret v => exact h₂
  | brk => exact h₂
  | next => exact h₂
  | cont => exact h₂
/-- over a pair of names: a list of pairs -/
theorem my_forP {x₁ x₂ : Str} {p₁ p₂ pt : Pos} {x1 : Nat} {Q : Flow → Shared → Prop} {iter : PySem.Expr} {pos : Pos} {body : List Stmt} (h₀ : Heap) (hh : A.handled = none) (hx : env.kindOf x₁ = some .local) (hx2 : env.kindOf x₂ = some .local) (hp : (env.scope.kind == .class || (env.scope.kind == .module && env.locals != env.globals)) = false)
    (h : wpAny (model prog w) A (eval iter env) (fun xv s₁ => ∃ (ax : Addr) (us : List Value) (k : Nat) (m₀ : Str → Option Value) (news : Led) (J : Nat → (Str → Option Value) → Led → Prop),
      xv = .ref ax ∧ (ax, listOf us.toArray k) ∈ news ∧ Fr h₀ env.locals s₁.heap m₀ ∧ News h₀ env.locals s₁.heap news ∧ J 0 m₀ news ∧ (∀ v ∈ us, ∃ b, v = Value.ref b) ∧
      (∀ i v m₁ nx, us[i]? = some v → J i m₁ nx → (ax, listOf us.toArray k) ∈ nx → ∃ (t : Addr) (v₁ v₂ : Value) (nt : Nat), v = .ref t ∧ (t, tupO [v₁, v₂] nt) ∈ nx ∧ ∀ h tk oI', (∀ p ∈ nx, p.1 ≠ s₁.heap.objs.size) → Fr h₀ env.locals h (fun y => if y = x₂ then some v₂ else if y = x₁ then some v₁ else m₁ y) → News h₀ env.locals h ((s₁.heap.objs.size, oI') :: nx) →
        wpAny (model prog w) A (execs body env) (TurnEnd h₀ env.locals s₁.heap.objs.size oI' [(ax, listOf us.toArray k)] (J (i + 1)) Q { s₁ with heap := h, toks := tk }) E { s₁ with heap := h, toks := tk }) ∧
      (∀ m₁ nx h tk, J us.length m₁ nx → Fr h₀ env.locals h m₁ → News h₀ env.locals h nx → Q .next { s₁ with heap := h, toks := tk })) E s)
    (hs : ∀ x, foldedSetIterable iter env x = pure x := by intro _; rfl)
    (hE : PassesOwn (model prog w) A env E := by passes_own) :
    wpAny (model prog w) A (exec (.For (.Tuple [.Name x₁ p₁, .Name x₂ p₂] x1 pt) iter body [] pos) env) Q E s := by
  refine my_for_any h₀ (wpAny_mono h (fun xv s₁ h₁ => ?_) fun _ _ e => e) hs hE
  (have hJ5 := h₁; (first | with_reducible refine el6_8 hJ5 ?_ | refine el6_8 hJ5 ?_); clear hJ5; try clear h₁; rintro ax us k m₀ news J rfl hm F N hj href turn done)
  refine ⟨us.toArray.size, _, _, _, _, _, m₀, news, J, F, N, ?_, ItSrc.list hh N hm, hj, ?_, ?_, by rw [List.size_toArray]; exact done⟩
  · intro p hp
    rw [List.mem_singleton.mp hp]; exact hm
  · intro i v s' Q' E' hi hP hst hq
    obtain ⟨b, rfl⟩ := href v (List.mem_of_getElem? (i := i) (by simpa using hP))
    exact wpAny_letOwnedTupleGo_listiter hst.1 hq
  · intro i v m₁ nx h tk oI' hi hP hJ hS' off F' N'
    (have hJ6 := turn i v m₁ nx (by simpa using hP) hJ (hS' _ (.head _)); (first | with_reducible refine el4_3 hJ6 ?_ | refine el4_3 hJ6 ?_); clear hJ6; rintro t v₁ v₂ nt rfl hmt hb)
    refine assign_Tuple_tuple hh (News.isTup N' (.tail _ hmt)) rfl rfl fun h₅ he => ?_
    have he' : ∀ b o, h.get? b = some o → h₅.get? b = some o := fun b o e => he b o (Nat.ne_of_lt (Heap.lt_size e)) e
    have F₅ := F'.keeps he'
    refine assignInOrder_cons (wpAny_assign_Name (wpAny_storeName_local hx F₅.ns (fun h₆ hn₆ hs₆ => ?_) hp))
    have F₆ := F₅.set hn₆ hs₆
    refine assignInOrder_cons (wpAny_assign_Name (wpAny_storeName_local hx2 F₆.ns (fun h₇ hn₇ hs₇ => ?_) hp))
    refine assignInOrder_nil ?_
    refine wpAny_mono (hb h₇ _ oI' off (F₆.set hn₇ hs₇) (((N'.grown he').set hs₆).set hs₇)) (fun f s₂ h₂ => ?_) fun _ _ e => e
    cases f with
    | ret v => exact h₂
    | brk => exact h₂
    | next => exact h₂
    | cont => exact h₂
end
section --TEND
variable {h₀ : Heap} {L : Addr}
theorem tend_0 {I lf : Addr} {oI o o₀ : Obj} {srcs rest : Led} {s₁ : Shared} {J : (Str → Option Value) → Led → Prop} {m' : Str → Option Value} {h' : Heap} {tk : Nat} (F : Fr h₀ L h' m') (N : News h₀ L h' ((I, oI) :: (lf, o) :: rest)) (off : ∀ p ∈ (lf, o₀) :: rest, p.1 ≠ I) (hS : Has srcs rest) (r : J m' ((lf, o) :: rest)) :
    TurnOk h₀ L I oI srcs J s₁ { s₁ with heap := h', toks := tk } := by
  refine ⟨h', tk, m', _, rfl, F, fun p hp => N p ?_, ?_, fun p hp => .tail _ ((hS p hp)), r⟩
  · simp only [List.mem_cons] at hp ⊢
    rcases hp with hp | hp | hp <;> simp [hp]
  · simp only [List.forall_mem_cons] at off ⊢
    exact ⟨off.1, off.2⟩
theorem tend_1 {I lf : Addr} {oI o o₀ : Obj} {srcs rest : Led} {s₁ : Shared} {J : (Str → Option Value) → Led → Prop} {m' : Str → Option Value} {h' : Heap} {tk : Nat} {x1 : Addr × Obj} (F : Fr h₀ L h' m') (N : News h₀ L h' (x1 :: (I, oI) :: (lf, o) :: rest)) (off : ∀ p ∈ (lf, o₀) :: rest, p.1 ≠ I) (hS : Has srcs rest) (ax1 : I < x1.1) (r : J m' ((lf, o) :: (x1 :: rest))) :
    TurnOk h₀ L I oI srcs J s₁ { s₁ with heap := h', toks := tk } := by
  refine ⟨h', tk, m', _, rfl, F, fun p hp => N p ?_, ?_, fun p hp => .tail _ (.tail _ ((hS p hp))), r⟩
  · simp only [List.mem_cons] at hp ⊢
    rcases hp with hp | hp | hp | hp <;> simp [hp]
  · simp only [List.forall_mem_cons] at off ⊢
    exact ⟨off.1, Nat.ne_of_gt ax1, off.2⟩
end
section --FOR
open LCg LCt LCp
variable {prog : Program} {w : World} {A : Around} {E : Value → Shared → Prop} {s : Shared} {h₀ : Heap} {L : Addr} {m : Str → Option Value} {env : Env}
noncomputable def ForSrc (prog : Program) (w : World) (A : Around) (h₀ : Heap) (env : Env) (x : Str) (body : List Stmt) (Q : Flow → Shared → Prop) (E : Value → Shared → Prop) (xv : Value) (s₁ : Shared) : Prop :=
  ∃ (n : Nat) (P : Nat → Value → Prop) (srcs : Led) (oI : Obj) (fp : List Addr) (St : Nat → Heap → Prop) (m₀ : Str → Option Value) (news : Led) (J : Nat → (Str → Option Value) → Led → Prop),
      Fr h₀ env.locals s₁.heap m₀ ∧ News h₀ env.locals s₁.heap news ∧ Has srcs news ∧ ItSrc prog w A h₀ env.locals srcs n P xv s₁ oI fp St ∧ J 0 m₀ news ∧
      (∀ i v m₁ nx h tk oI', i < n → P i v → J i m₁ nx → Has srcs nx → (∀ p ∈ nx, p.1 ≠ s₁.heap.objs.size) → Fr h₀ env.locals h (fun y => if y = x then some v else m₁ y) → News h₀ env.locals h ((s₁.heap.objs.size, oI') :: nx) →
        wpAny (model prog w) A (execs body env) (TurnEnd h₀ env.locals s₁.heap.objs.size oI' srcs (J (i + 1)) Q { s₁ with heap := h, toks := tk }) E { s₁ with heap := h, toks := tk }) ∧
      (∀ m₁ nx h tk, J n m₁ nx → Fr h₀ env.locals h m₁ → News h₀ env.locals h nx → Q .next { s₁ with heap := h, toks := tk })
theorem my_forS {x : Str} {px : Pos} {Q : Flow → Shared → Prop} {iter : PySem.Expr} {pos : Pos} {body : List Stmt} (h₀ : Heap) (hx : env.kindOf x = some .local) (hp : (env.scope.kind == .class || (env.scope.kind == .module && env.locals != env.globals)) = false)
    (h : wpAny (model prog w) A (eval iter env) (ForSrc prog w A h₀ env x body Q E) E s)
    (hs : ∀ x, foldedSetIterable iter env x = pure x := by intro _; rfl)
    (hE : PassesOwn (model prog w) A env E := by passes_own) :
    wpAny (model prog w) A (exec (.For (.Name x px) iter body [] pos) env) Q E s := my_for h₀ hx hp h hs hE
theorem ItSrc.tuple {ax : Addr} {us : List Value} {k : Nat} {news : Led} {s₁ : Shared} (hh : A.handled = none) (N : News h₀ L s₁.heap news) (hm : (ax, tupL us k) ∈ news) :
    ItSrc prog w A h₀ L [(ax, tupL us k)] us.length (fun i v => us[i]? = some v) (.ref ax) s₁ { cls := .type "tuple_iterator", data := .fields #[.ref ax, .int 0 0] } [s₁.heap.objs.size, ax] (fun i h => h.IsTupleIter s₁.heap.objs.size ax i ∧ h.IsTuple ax us.toArray) := by
  have hl : s₁.heap.IsTuple ax us.toArray := ⟨_, (N _ hm).1, rfl, k, rfl⟩
  have hlt : ax < s₁.heap.objs.size := Heap.lt_size (N _ hm).1
  have W := Walks.tuple (prog := prog) (w := w) hh s₁.heap.objs.size ax (Nat.ne_of_lt hlt) us.toArray
  rw [List.size_toArray] at W
  refine ⟨fun Q E h => wpAny_pyIter_tuple hl h, { sub := W.sub, frame := W.frame, done := W.done, self := W.self, item := fun i s Q E hi st hQ => W.item i s Q E hi st fun v h' tk hP => hQ v h' tk (by simpa using hP) }, fun i h st => let ⟨o, e, _⟩ := st.1; ⟨o, e⟩, ?_, ⟨⟨_, Heap.get?_push_size _ rfl, rfl, rfl⟩, hl.push _⟩, ?_⟩
  · intro i h h' o nw st e e' _ N' S
    refine ⟨?_, _, (N' _ (S _ (.head _))).1, rfl, k, rfl⟩
    obtain ⟨o', q, r⟩ := st.1
    rw [e] at q; cases q; exact ⟨o, e', r⟩
  · intro b hb
    rw [Heap.size_push]
    rcases List.mem_cons.mp hb with rfl | hb
    · exact Nat.lt_succ_self _
    · rw [List.mem_singleton.mp hb]; exact Nat.lt_succ_of_lt hlt
theorem for_list {x : Str} {Q : Flow → Shared → Prop} {body : List Stmt} {s₁ : Shared} {m₀ : Str → Option Value} {news : Led} {ax : Addr} {us : List Value} {k : Nat} (hh : A.handled = none) (F : Fr h₀ env.locals s₁.heap m₀) (N : News h₀ env.locals s₁.heap news) (hm : (ax, listOf us.toArray k) ∈ news)
    (J : Nat → (Str → Option Value) → Led → Prop) (h0 : J 0 m₀ news)
    (turn : ∀ i v m₁ nx h tk (I : Addr) oI', i < us.length → (us[i]? = some v) → J i m₁ nx → Has [(ax, listOf us.toArray k)] nx → (∀ p ∈ nx, p.1 ≠ I) → Fr h₀ env.locals h (fun y => if y = x then some v else m₁ y) → News h₀ env.locals h ((I, oI') :: nx) →
        wpAny (model prog w) A (execs body env) (TurnEnd h₀ env.locals I oI' [(ax, listOf us.toArray k)] (J (i + 1)) Q { s₁ with heap := h, toks := tk }) E { s₁ with heap := h, toks := tk })
    (done : ∀ m₁ nx h tk, J us.length m₁ nx → Has [(ax, listOf us.toArray k)] nx → Fr h₀ env.locals h m₁ → News h₀ env.locals h nx → Q .next { s₁ with heap := h, toks := tk }) : ForSrc prog w A h₀ env x body Q E (.ref ax) s₁ := by
  have I := ItSrc.list (prog := prog) (w := w) (A := A) hh N hm
  rw [List.size_toArray] at I
  replace I := I.mono (P' := fun i v => us[i]? = some v) fun i v h => by simpa using h
  refine ⟨_, _, [(ax, listOf us.toArray k)], _, _, _, m₀, news, fun i m' nx => J i m' nx ∧ Has [(ax, listOf us.toArray k)] nx, F, N, (fun p hp => by rw [List.mem_singleton.mp hp]; exact hm), I, ⟨h0, (fun p hp => by rw [List.mem_singleton.mp hp]; exact hm)⟩, fun i v m₁ nx h tk oI' hi hP hJ hS off F' N' => wpAny_mono (turn i v m₁ nx h tk _ oI' hi hP hJ.1 hS off F' N') (fun f s₂ hf => ?_) (fun _ _ e => e), fun m₁ nx h tk hJ F' N' => done m₁ nx h tk hJ.1 hJ.2 F' N'⟩
  have fin : TurnOk h₀ env.locals s₁.heap.objs.size oI' [(ax, listOf us.toArray k)] (J (i + 1)) { s₁ with heap := h, toks := tk } s₂ → TurnOk h₀ env.locals s₁.heap.objs.size oI' [(ax, listOf us.toArray k)] (fun m' nx => J (i + 1) m' nx ∧ Has [(ax, listOf us.toArray k)] nx) { s₁ with heap := h, toks := tk } s₂ := by
    (rintro hJ7; (first | with_reducible refine el4_6 hJ7 ?_ | refine el4_6 hJ7 ?_); clear hJ7; rintro h' tk' m' nx' e F2 N2 o2 hS2 j2)
    exact ⟨h', tk', m', nx', e, F2, N2, o2, hS2, j2, hS2⟩
  cases f with
  | ret v => exact hf
  | brk => exact hf
  | next => exact fin hf
  | cont => exact fin hf
theorem for_tuple {x : Str} {Q : Flow → Shared → Prop} {body : List Stmt} {s₁ : Shared} {m₀ : Str → Option Value} {news : Led} {ax : Addr} {us : List Value} {k : Nat} (hh : A.handled = none) (F : Fr h₀ env.locals s₁.heap m₀) (N : News h₀ env.locals s₁.heap news) (hm : (ax, tupL us k) ∈ news)
    (J : Nat → (Str → Option Value) → Led → Prop) (h0 : J 0 m₀ news)
    (turn : ∀ i v m₁ nx h tk (I : Addr) oI', i < us.length → (us[i]? = some v) → J i m₁ nx → Has [(ax, tupL us k)] nx → (∀ p ∈ nx, p.1 ≠ I) → Fr h₀ env.locals h (fun y => if y = x then some v else m₁ y) → News h₀ env.locals h ((I, oI') :: nx) →
        wpAny (model prog w) A (execs body env) (TurnEnd h₀ env.locals I oI' [(ax, tupL us k)] (J (i + 1)) Q { s₁ with heap := h, toks := tk }) E { s₁ with heap := h, toks := tk })
    (done : ∀ m₁ nx h tk, J us.length m₁ nx → Has [(ax, tupL us k)] nx → Fr h₀ env.locals h m₁ → News h₀ env.locals h nx → Q .next { s₁ with heap := h, toks := tk }) : ForSrc prog w A h₀ env x body Q E (.ref ax) s₁ := by
  have I := ItSrc.tuple (prog := prog) (w := w) (A := A) hh N hm
  refine ⟨_, _, [(ax, tupL us k)], _, _, _, m₀, news, fun i m' nx => J i m' nx ∧ Has [(ax, tupL us k)] nx, F, N, (fun p hp => by rw [List.mem_singleton.mp hp]; exact hm), I, ⟨h0, (fun p hp => by rw [List.mem_singleton.mp hp]; exact hm)⟩, fun i v m₁ nx h tk oI' hi hP hJ hS off F' N' => wpAny_mono (turn i v m₁ nx h tk _ oI' hi hP hJ.1 hS off F' N') (fun f s₂ hf => ?_) (fun _ _ e => e), fun m₁ nx h tk hJ F' N' => done m₁ nx h tk hJ.1 hJ.2 F' N'⟩
  have fin : TurnOk h₀ env.locals s₁.heap.objs.size oI' [(ax, tupL us k)] (J (i + 1)) { s₁ with heap := h, toks := tk } s₂ → TurnOk h₀ env.locals s₁.heap.objs.size oI' [(ax, tupL us k)] (fun m' nx => J (i + 1) m' nx ∧ Has [(ax, tupL us k)] nx) { s₁ with heap := h, toks := tk } s₂ := by
    (rintro hJ8; (first | with_reducible refine el4_6 hJ8 ?_ | refine el4_6 hJ8 ?_); clear hJ8; rintro h' tk' m' nx' e F2 N2 o2 hS2 j2)
    exact ⟨h', tk', m', nx', e, F2, N2, o2, hS2, j2, hS2⟩
  cases f with
  | ret v => exact hf
  | brk => exact hf
  | next => exact fin hf
  | cont => exact fin hf
theorem for_range {x : Str} {Q : Flow → Shared → Prop} {body : List Stmt} {s₁ : Shared} {m₀ : Str → Option Value} {news : Led} {r : Addr} {a b c : Int} {t u v : Tok} {n : Nat} (hh : A.handled = none) (F : Fr h₀ env.locals s₁.heap m₀) (N : News h₀ env.locals s₁.heap news) (hr : IsRange s₁.heap r a b c t u v) (hsm : Builtin.Range.small a b c = true) (hn : Builtin.Range.rangeSize a b c = (n : Int))
    (J : Nat → (Str → Option Value) → Led → Prop) (h0 : J 0 m₀ news)
    (turn : ∀ i v m₁ nx h tk (I : Addr) oI', i < n → (∃ t, v = .int (a + (i : Int) * c) t) → J i m₁ nx → Has [] nx → (∀ p ∈ nx, p.1 ≠ I) → Fr h₀ env.locals h (fun y => if y = x then some v else m₁ y) → News h₀ env.locals h ((I, oI') :: nx) →
        wpAny (model prog w) A (execs body env) (TurnEnd h₀ env.locals I oI' [] (J (i + 1)) Q { s₁ with heap := h, toks := tk }) E { s₁ with heap := h, toks := tk })
    (done : ∀ m₁ nx h tk, J n m₁ nx → Has [] nx → Fr h₀ env.locals h m₁ → News h₀ env.locals h nx → Q .next { s₁ with heap := h, toks := tk }) : ForSrc prog w A h₀ env x body Q E (.ref r) s₁ := by
  have I := (ItSrc.range (prog := prog) (w := w) (A := A) (h₀ := h₀) (L := env.locals) hh hr hsm hn).mono (P' := fun i v => ∃ t, v = .int (a + (i : Int) * c) t) fun i v h => h.2
  refine ⟨_, _, [], _, _, _, m₀, news, fun i m' nx => J i m' nx ∧ Has [] nx, F, N, (fun _ h => nomatch h), I, ⟨h0, (fun _ h => nomatch h)⟩, fun i v m₁ nx h tk oI' hi hP hJ hS off F' N' => wpAny_mono (turn i v m₁ nx h tk _ oI' hi hP hJ.1 hS off F' N') (fun f s₂ hf => ?_) (fun _ _ e => e), fun m₁ nx h tk hJ F' N' => done m₁ nx h tk hJ.1 hJ.2 F' N'⟩
  have fin : TurnOk h₀ env.locals s₁.heap.objs.size oI' [] (J (i + 1)) { s₁ with heap := h, toks := tk } s₂ → TurnOk h₀ env.locals s₁.heap.objs.size oI' [] (fun m' nx => J (i + 1) m' nx ∧ Has [] nx) { s₁ with heap := h, toks := tk } s₂ := by
    (rintro hJ9; (first | with_reducible refine el4_6 hJ9 ?_ | refine el4_6 hJ9 ?_); clear hJ9; rintro h' tk' m' nx' e F2 N2 o2 hS2 j2)
    exact ⟨h', tk', m', nx', e, F2, N2, o2, hS2, j2, hS2⟩
  cases f with
  | ret v => exact hf
  | brk => exact hf
  | next => exact fin hf
  | cont => exact fin hf
noncomputable def ForSrcA (prog : Program) (w : World) (A : Around) (h₀ : Heap) (env : Env) (target : PySem.Expr) (body : List Stmt) (Q : Flow → Shared → Prop) (E : Value → Shared → Prop) (xv : Value) (s₁ : Shared) : Prop :=
  ∃ (n : Nat) (P : Nat → Value → Prop) (srcs : Led) (oI : Obj) (fp : List Addr) (St : Nat → Heap → Prop) (m₀ : Str → Option Value) (news : Led) (J : Nat → (Str → Option Value) → Led → Prop),
      Fr h₀ env.locals s₁.heap m₀ ∧ News h₀ env.locals s₁.heap news ∧ Has srcs news ∧ ItSrc prog w A h₀ env.locals srcs n P xv s₁ oI fp St ∧ J 0 m₀ news ∧
      (∀ i v (s' : Shared) (Q' : Unit → Shared → Prop) E', i < n → P i v → St (i + 1) s'.heap → Q' () s' → wpAny (model prog w) A (letOwnedTupleGo target (.ref s₁.heap.objs.size) v) Q' E' s') ∧
      (∀ i v m₁ nx h tk oI', i < n → P i v → J i m₁ nx → Has srcs nx → (∀ p ∈ nx, p.1 ≠ s₁.heap.objs.size) → Fr h₀ env.locals h m₁ → News h₀ env.locals h ((s₁.heap.objs.size, oI') :: nx) →
        wpAny (model prog w) A (assign target env v) (fun _ s₂ => wpAny (model prog w) A (execs body env) (TurnEnd h₀ env.locals s₁.heap.objs.size oI' srcs (J (i + 1)) Q { s₁ with heap := h, toks := tk }) E s₂) E { s₁ with heap := h, toks := tk }) ∧
      (∀ m₁ nx h tk, J n m₁ nx → Fr h₀ env.locals h m₁ → News h₀ env.locals h nx → Q .next { s₁ with heap := h, toks := tk })
theorem my_forA {target : PySem.Expr} {Q : Flow → Shared → Prop} {iter : PySem.Expr} {pos : Pos} {body : List Stmt} (h₀ : Heap)
    (h : wpAny (model prog w) A (eval iter env) (ForSrcA prog w A h₀ env target body Q E) E s)
    (hs : ∀ x, foldedSetIterable iter env x = pure x := by intro _; rfl)
    (hE : PassesOwn (model prog w) A env E := by passes_own) :
    wpAny (model prog w) A (exec (.For target iter body [] pos) env) Q E s := my_for_any h₀ h hs hE
theorem forA_list {target : PySem.Expr} {Q : Flow → Shared → Prop} {body : List Stmt} {s₁ : Shared} {m₀ : Str → Option Value} {news : Led} {ax : Addr} {us : List Value} {k : Nat} (hh : A.handled = none) (F : Fr h₀ env.locals s₁.heap m₀) (N : News h₀ env.locals s₁.heap news) (hm : (ax, listOf us.toArray k) ∈ news)
    (hgo : (∀ it v, letOwnedTupleGo target it v = pure ()) ∨ ∃ elts x1 tp, target = .Tuple elts x1 tp ∧ ∀ v ∈ us, ∃ b, v = Value.ref b)
    (J : Nat → (Str → Option Value) → Led → Prop) (h0 : J 0 m₀ news)
    (turn : ∀ i v m₁ nx h tk (I : Addr) oI', us[i]? = some v → J i m₁ nx → Has [(ax, listOf us.toArray k)] nx → (∀ p ∈ nx, p.1 ≠ I) → Fr h₀ env.locals h m₁ → News h₀ env.locals h ((I, oI') :: nx) →
        wpAny (model prog w) A (assign target env v) (fun _ s₂ => wpAny (model prog w) A (execs body env) (TurnEnd h₀ env.locals I oI' [(ax, listOf us.toArray k)] (J (i + 1)) Q { s₁ with heap := h, toks := tk }) E s₂) E { s₁ with heap := h, toks := tk })
    (done : ∀ m₁ nx h tk, J us.length m₁ nx → Fr h₀ env.locals h m₁ → News h₀ env.locals h nx → Q .next { s₁ with heap := h, toks := tk }) : ForSrcA prog w A h₀ env target body Q E (.ref ax) s₁ := by
  have I := ItSrc.list (prog := prog) (w := w) (A := A) hh N hm
  rw [List.size_toArray] at I
  replace I := I.mono (P' := fun i v => us[i]? = some v) fun i v h => by simpa using h
  refine ⟨_, _, [(ax, listOf us.toArray k)], _, _, _, m₀, news, J, F, N, (fun p hp => by rw [List.mem_singleton.mp hp]; exact hm), I, h0, ?_, fun i v m₁ nx h tk oI' _ hP hJ hS off F' N' => turn i v m₁ nx h tk _ oI' hP hJ hS off F' N', done⟩
  intro i v s' Q' E' hi hP hst hq
  rcases hgo with hgo | ⟨elts, x1, tp, rfl, href⟩
  · rw [hgo]; exact wpAny_pure hq
  · obtain ⟨b, rfl⟩ := href v (List.mem_of_getElem? hP)
    exact wpAny_letOwnedTupleGo_listiter hst.1 hq
end
end --T_Lop

section --T_Dct
open PySem PySem.W PyProof.Rows PySem.Spec PySem.Calls
/-- a dict of ints to ints, as pairs -/
inductive KV : List (Int × Value) → List (Int × Int) → Prop
  | nil : KV [] []
  | cons (k v : Int) (t : Tok) {kvs : List (Int × Value)} {D : List (Int × Int)} : KV kvs D → KV ((k, .int v t) :: kvs) ((k, v) :: D)
noncomputable def look : List (Int × Int) → Int → Option Int
  | [], _ => none
  | (k, v) :: D, x => if k = x then some v else look D x
noncomputable def dput : List (Int × Int) → Int → Int → List (Int × Int)
  | [], x, v => [(x, v)]
  | (k, u) :: D, x, v => if k = x then (k, v) :: D else (k, u) :: dput D x v
noncomputable def ddel (D : List (Int × Int)) (x : Int) : List (Int × Int) := D.filter fun p => decide (p.1 ≠ x)
theorem KV.length {kvs : List (Int × Value)} {D : List (Int × Int)} (h : KV kvs D) : kvs.length = D.length := by
  induction h with
  | nil => rfl
  | cons k v t h ih => simp [ih]
theorem KV.keys {kvs : List (Int × Value)} {D : List (Int × Int)} (h : KV kvs D) : kvs.map (·.1) = D.map (·.1) := by
  induction h with
  | nil => rfl
  | cons k v t h ih => simp [ih]
theorem KV.at {kvs : List (Int × Value)} {D : List (Int × Int)} (h : KV kvs D) : ∀ (i : Nat) (k : Int) (x : Value), kvs[i]? = some (k, x) → ∃ v t, x = .int v t ∧ D[i]? = some (k, v) := by
  induction h with
  | nil => intro i k x h; simp at h
  | cons k v t h ih =>
    intro i k' x hx
    cases i with
    | zero => simp at hx; obtain ⟨rfl, rfl⟩ := hx; exact ⟨v, t, rfl, rfl⟩
    | succ i => exact ih i k' x (by simpa using hx)
theorem KV.some {kvs : List (Int × Value)} {D : List (Int × Int)} (h : KV kvs D) {k v : Int} (e : look D k = some v) : ∃ t, valueAt kvs k = some (.int v t) := by
  induction h with
  | nil => cases e
  | cons k' v' t h ih =>
    unfold look at e
    by_cases hk : k' = k
    · rw [if_pos hk] at e; cases e
      exact ⟨t, by simp [valueAt, hk]⟩
    · rw [if_neg hk] at e
      obtain ⟨t', h'⟩ := ih e
      exact ⟨t', by simpa [valueAt, hk] using h'⟩
theorem KV.none {kvs : List (Int × Value)} {D : List (Int × Int)} (h : KV kvs D) {k : Int} (e : look D k = none) : valueAt kvs k = none := by
  induction h with
  | nil => rfl
  | cons k' v' t h ih =>
    unfold look at e
    by_cases hk : k' = k
    · rw [if_pos hk] at e; cases e
    · rw [if_neg hk] at e
      simpa [valueAt, hk] using ih e
theorem dput_has : ∀ (D : List (Int × Int)) (x v : Int), (D.any fun p => p.1 = x) = true → (D.map (·.1)).Nodup → dput D x v = D.map fun p => if p.1 = x then (p.1, v) else p
  | [], _, _, h, _ => by simp at h
  | (k, u) :: D, x, v, h, hn => by
    simp only [List.map_cons, List.nodup_cons] at hn
    by_cases hk : k = x
    · subst hk
      simp only [dput, if_true, List.map_cons]
      congr 1
      have : D.map (fun p => if p.1 = k then (p.1, v) else p) = D.map id := List.map_congr_left fun p hp => by
        have : p.1 ≠ k := fun e => hn.1 (List.mem_map.mpr ⟨p, hp, e⟩)
        simp [this]
      rw [this, List.map_id]
    · simp only [dput, hk, if_false, List.map_cons]
      congr 1
      exact dput_has D x v (by simpa [hk] using h) hn.2
theorem dput_new : ∀ (D : List (Int × Int)) (x v : Int), (D.any fun p => p.1 = x) = false → dput D x v = D ++ [(x, v)]
  | [], _, _, _ => rfl
  | (k, u) :: D, x, v, h => by
    have h' : k ≠ x ∧ (D.any fun p => p.1 = x) = false := by simpa using h
    simp only [dput, h'.1, if_false, List.cons_append]
    rw [dput_new D x v h'.2]
theorem KV.any {kvs : List (Int × Value)} {D : List (Int × Int)} (h : KV kvs D) (x : Int) : (kvs.any fun p => p.1 = x) = (D.any fun p => p.1 = x) := by
  induction h with
  | nil => rfl
  | cons k v t h ih => simp [ih]
theorem KV.append {kvs : List (Int × Value)} {D : List (Int × Int)} (h : KV kvs D) (k v : Int) (t : Tok) : KV (kvs ++ [(k, .int v t)]) (D ++ [(k, v)]) := by
  induction h with
  | nil => exact .cons _ _ _ .nil
  | cons k v t h ih => exact .cons _ _ _ ih
theorem KV.set {kvs : List (Int × Value)} {D : List (Int × Int)} (h : KV kvs D) (x v : Int) (t : Tok) : KV (kvs.map fun kv => if kv.1 = x then (kv.1, Value.int v t) else kv) (D.map fun p => if p.1 = x then (p.1, v) else p) := by
  induction h with
  | nil => exact .nil
  | cons k u t' h ih =>
    simp only [List.map_cons]
    by_cases hk : k = x
    · simp only [hk, if_true]; exact .cons _ _ _ ih
    · simp only [hk, if_false]; exact .cons _ _ _ ih
theorem KV.stored {kvs : List (Int × Value)} {D : List (Int × Int)} (h : KV kvs D) (hn : (D.map (·.1)).Nodup) (x v : Int) (t : Tok) : KV (PySem.stored kvs x (.int v t)) (dput D x v) := by
  unfold PySem.stored
  by_cases ha : (D.any fun p => p.1 = x) = true
  · rw [if_pos (by rw [h.any]; exact ha), dput_has D x v ha hn]
    exact h.set x v t
  · rw [if_neg (by rw [h.any]; exact ha), dput_new D x v (Bool.eq_false_iff.mpr ha)]
    exact h.append x v t
theorem KV.without {kvs : List (Int × Value)} {D : List (Int × Int)} (h : KV kvs D) (x : Int) : KV (PySem.without kvs x) (ddel D x) := by
  unfold PySem.without ddel
  induction h with
  | nil => exact .nil
  | cons k v t h ih =>
    by_cases hk : k = x
    · simpa [hk] using ih
    · simp only [ne_eq, hk, not_false_eq_true, decide_true, List.filter_cons_of_pos]; exact .cons _ _ _ ih
theorem look_mem : ∀ {D : List (Int × Int)} {k v : Int}, look D k = some v → (k, v) ∈ D
  | [], _, _, h => by cases h
  | (k', v') :: D, k, v, h => by
    unfold look at h
    by_cases hk : k' = k
    · rw [if_pos hk] at h; cases h; rw [hk]; exact .head _
    · rw [if_neg hk] at h; exact .tail _ (look_mem h)
theorem look_of_mem : ∀ {D : List (Int × Int)} {k v : Int}, (D.map (·.1)).Nodup → (k, v) ∈ D → look D k = some v
  | [], _, _, _, h => nomatch h
  | (k', v') :: D, k, v, hn, h => by
    simp only [List.map_cons, List.nodup_cons] at hn
    unfold look
    rcases List.mem_cons.mp h with e | h
    · cases e; rw [if_pos rfl]
    · have : k' ≠ k := fun e => hn.1 (List.mem_map.mpr ⟨(k, v), h, e.symm⟩)
      rw [if_neg this]; exact look_of_mem hn.2 h
theorem look_dput (D : List (Int × Int)) (x v y : Int) : look (dput D x v) y = if x = y then some v else look D y := by
  induction D with
  | nil => simp [dput, look]
  | cons p D ih =>
    obtain ⟨k, u⟩ := p
    unfold dput
    by_cases hk : k = x
    · rw [if_pos hk]
      unfold look
      by_cases hy : k = y
      · rw [if_pos hy, if_pos (hk.symm.trans hy)]
      · rw [if_neg hy, if_neg (fun e => hy (hk.trans e)), if_neg hy]
    · rw [if_neg hk]
      unfold look
      by_cases hy : k = y
      · rw [if_pos hy, if_neg (fun e => hk (hy.trans e.symm)), if_pos hy]
      · rw [if_neg hy, if_neg hy]; exact ih
theorem dput_len {D : List (Int × Int)} (x v : Int) : (dput D x v).length ≤ D.length + 1 := by
  induction D with
  | nil => simp [dput]
  | cons p D ih =>
    obtain ⟨k, u⟩ := p
    unfold dput
    by_cases hk : k = x
    · rw [if_pos hk]; simp
    · rw [if_neg hk]; simp; (first | lia | omega)
/-- the object of such a dict -/
noncomputable def DictI (prog : Program) (w : World) (o : Obj) (D : List (Int × Int)) : Prop := ∃ kvs, o.IsDictOf (PySem.intKind prog w) kvs ∧ KV kvs D
section
variable {prog : Program} {w : World} {A : Around} {E : Value → Shared → Prop} {s : Shared} {h₀ : Heap} {L d : Addr} {m : Str → Option Value} {news : Led} {g : Obj → Led} {o : Obj} {D : List (Int × Int)} {k : Int} {t : Tok}
theorem DictI.nodup (h : DictI prog w o D) : (D.map (·.1)).Nodup := by
  obtain ⟨kvs, hd, hk⟩ := h
  rw [← hk.keys]; exact keysNodup_of_isDictOf hd
theorem dI_item {value slice : PySem.Expr} {v : Int} {Q : Value → Shared → Prop} (N : News h₀ L s.heap news) (hp : (d, o) ∈ news) (hd : DictI prog w o D) (hl : look D k = some v) (h : ∀ t', Q (.int v t') { s with toks := s.toks + 1 })
    (hs : subscripted slice false (.ref d) (.int k t) = operate [.ref d, .int k t] (getItem (.ref d) (.int k t)) := by with_unfolding_all rfl) (hg : ∀ r, letTemporaryGo value (.ref d) r = pure () := by intro _; with_unfolding_all rfl) :
    wpAny (model prog w) A (subscriptTail value slice (.ref d) (.int k t)) Q E s := by
  obtain ⟨kvs, hd, hk⟩ := hd
  obtain ⟨t', e⟩ := hk.some hl
  exact kda_item N hp hd (intKind_is prog w k t) e (h t') hs hg
theorem dI_set {v : Int} {u : Tok} {Q : Unit → Shared → Prop} (F : Fr h₀ L s.heap m) (N : News h₀ L s.heap news) (U : UpdF d o news g) (hd : DictI prog w o D) (hsz : D.length ≤ 5000)
    (h : ∀ h' o', Fr h₀ L h' m → News h₀ L h' (g o') → DictI prog w o' (dput D k v) → Q () { s with heap := h', toks := s.toks + 1 }) : wpAny (model prog w) A (setItem (.ref d) (.int k t) (.int v u)) Q E s := by
  have hn := hd.nodup
  obtain ⟨kvs, hd, hk⟩ := hd
  refine kda_set F N U hd (intKind_is prog w k t) (by rw [hk.length, sizeLine_eq]; (first | lia | omega)) fun h' o' F' N' hd' => h h' o' F' N' ⟨_, hd', hk.stored hn k v u⟩
theorem dI_get2 {v : Int} {u : Tok} {Q : Value → Shared → Prop} (N : News h₀ L s.heap news) (hp : (d, o) ∈ news) (hd : DictI prog w o D) (lo : (d == sysModules) = false) (h : ∀ t', Q (.int ((look D k).getD v) t') { s with toks := s.toks + 1 }) :
    wpAny (model prog w) A (call (.builtin "dict.get") [.ref d, .int k t, .int v u]) Q E s := by
  obtain ⟨kvs, hd, hk⟩ := hd
  have hD : s.heap.DictOf (PySem.intKind prog w) d kvs := kda_dict N hp hd
  refine call_meetsIn PySem.F.slot_dict_get hD.typeIs PySem.F.entry_dict_get (PySem.F.args_dict_get_3 _ _ _) (meets_dict_get_default _ d (intKind_is prog w k t) lo _) ⟨_, hD.mapOf, ?_⟩
  cases e : look D k with
  | none => rw [hk.none e]; rw [e] at h; exact h u
  | some v' =>
    obtain ⟨t', e'⟩ := hk.some e
    rw [e']; rw [e] at h; exact h t'
theorem dI_get1 {Q : Value → Shared → Prop} (N : News h₀ L s.heap news) (hp : (d, o) ∈ news) (hd : DictI prog w o D) (lo : (d == sysModules) = false) (h1 : look D k = none → Q .none { s with toks := s.toks + 1 }) (h2 : ∀ v t', look D k = some v → Q (.int v t') { s with toks := s.toks + 1 }) :
    wpAny (model prog w) A (call (.builtin "dict.get") [.ref d, .int k t]) Q E s := by
  obtain ⟨kvs, hd, hk⟩ := hd
  have hD : s.heap.DictOf (PySem.intKind prog w) d kvs := kda_dict N hp hd
  refine call_meetsIn PySem.F.slot_dict_get hD.typeIs PySem.F.entry_dict_get (PySem.F.args_dict_get_2 _ _) (meets_dict_get _ d (intKind_is prog w k t) lo) ⟨_, hD.mapOf, ?_⟩
  cases e : look D k with
  | none => rw [hk.none e]; exact h1 e
  | some v' =>
    obtain ⟨t', e'⟩ := hk.some e
    rw [e']; exact h2 v' t' e
theorem dI_pop {v : Int} {Q : Value → Shared → Prop} (F : Fr h₀ L s.heap m) (N : News h₀ L s.heap news) (hd : DictI prog w o D) (U : UpdF d o news g) (hl : look D k = some v) (hsz : D.length ≤ 5000)
    (h : ∀ h' o' t', Fr h₀ L h' m → News h₀ L h' (g o') → DictI prog w o' (ddel D k) → Q (.int v t') { s with heap := h', toks := s.toks + 1 }) :
    wpAny (model prog w) A (call (.builtin "dict.pop") [.ref d, .int k t]) Q E s := by
  obtain ⟨kvs, hd, hk⟩ := hd
  obtain ⟨t', e⟩ := hk.some hl
  (have hJ19 := U.split; (first | with_reducible refine el2_4 hJ19 ?_ | refine el2_4 hJ19 ?_); clear hJ19; rintro pre post rfl hg a b)
  have hm := N (d, o) (List.mem_append_right _ (.head _))
  have hD : s.heap.DictOf (PySem.intKind prog w) d kvs := Heap.dictOf_iff.mpr ⟨o, hm.1, hd⟩
  refine call_meetsIn PySem.F.slot_dict_pop hD.typeIs PySem.F.entry_dict_pop (by exact PySem.F.args_dict_pop_2 _ _) (meets_dict_pop_there _ d (intKind_is prog w k t) [] (.inl rfl) (by rfl)) ⟨kvs, _, hD, (by rw [hk.length, sizeLine_eq]; (first | lia | omega)), e, fun h' hmm hs => ?_⟩
  obtain ⟨o', ho', hd'⟩ := Heap.dictOf_iff.mp hmm
  exact h h' o' t' (F.change hs hm.2.1 hm.2.2) (hg o' ▸ N.setIn a b hs ho') ⟨_, hd', hk.without k⟩
end
section
variable {prog : Program} {w : World} {A : Around} {E : Value → Shared → Prop} {s : Shared} {h₀ : Heap} {L d : Addr} {m : Str → Option Value} {news : Led} {o : Obj} {D : List (Int × Int)} {k : Int} {t : Tok} {kvs : List (Int × Value)}
theorem dict_method {name : Str} {id : String} {pl : Sem Bool} {Q : Value × List Value → Shared → Prop} (slot : Slot "dict" name id) (hty : typeOf (.builtin id) = pure (.type "method_descriptor"))
    (N : News h₀ L s.heap news) (hp : (d, o) ∈ news) (hd : o.IsDictOf (PySem.intKind prog w) kvs) (h : Q (.builtin id, [.ref d]) s) : wpAny (model prog w) A (getMethod (.ref d) name pl) Q E s :=
  have hD : s.heap.DictOf (PySem.intKind prog w) d kvs := kda_dict N hp hd
  getMethod_builtin hD.typeIs PySem.F.plainAttrs_dict slot hty hD.mapOf.noDict h
theorem kv_get_m {pl : Sem Bool} {Q : Value × List Value → Shared → Prop} (N : News h₀ L s.heap news) (hp : (d, o) ∈ news) (hd : o.IsDictOf (PySem.intKind prog w) kvs) (h : Q (.builtin "dict.get", [.ref d]) s) : wpAny (model prog w) A (getMethod (.ref d) (Str.ofString "get") pl) Q E s :=
  dict_method PySem.F.slot_dict_get PySem.F.type_dict_get N hp hd h
theorem dI_get_m {pl : Sem Bool} {Q : Value × List Value → Shared → Prop} (N : News h₀ L s.heap news) (hp : (d, o) ∈ news) (hd : DictI prog w o D) (h : Q (.builtin "dict.get", [.ref d]) s) : wpAny (model prog w) A (getMethod (.ref d) (Str.ofString "get") pl) Q E s :=
  let ⟨_, hd, _⟩ := hd; dict_method PySem.F.slot_dict_get PySem.F.type_dict_get N hp hd h
theorem dI_pop_m {pl : Sem Bool} {Q : Value × List Value → Shared → Prop} (N : News h₀ L s.heap news) (hp : (d, o) ∈ news) (hd : DictI prog w o D) (h : Q (.builtin "dict.pop", [.ref d]) s) : wpAny (model prog w) A (getMethod (.ref d) (Str.ofString "pop") pl) Q E s :=
  let ⟨_, hd, _⟩ := hd; dict_method PySem.F.slot_dict_pop PySem.F.type_dict_pop N hp hd h
theorem kv_get1 {v : Value} {Q : Value → Shared → Prop} (N : News h₀ L s.heap news) (hp : (d, o) ∈ news) (hd : o.IsDictOf (PySem.intKind prog w) kvs) (lo : (d == sysModules) = false) (hv : PySem.valueAt kvs k = some v) (h : Q v { s with toks := s.toks + 1 }) :
    wpAny (model prog w) A (call (.builtin "dict.get") [.ref d, .int k t]) Q E s := by
  have hD : s.heap.DictOf (PySem.intKind prog w) d kvs := kda_dict N hp hd
  refine call_meetsIn PySem.F.slot_dict_get hD.typeIs PySem.F.entry_dict_get (PySem.F.args_dict_get_2 _ _) (meets_dict_get _ d (intKind_is prog w k t) lo) ⟨_, hD.mapOf, ?_⟩
  rw [hv]; exact h
end
section --SRC
open LCg LCt LCp
variable {prog : Program} {w : World} {A : Around} {E : Value → Shared → Prop} {s : Shared} {h₀ : Heap} {L : Addr} {m : Str → Option Value} {env : Env}
theorem srcT_dict {ct elt : PySem.Expr} {x : Str} {scope : Scope} {cl : List (Str × Addr)} {Fin : Shared → List Value → Led → Prop} {s₁ : Shared} {news : Led} {d : Addr} {o : Obj} {Ds : List (Int × Int)} (hh : A.handled = none) (F : Fr h₀ L s₁.heap m) (N : News h₀ L s₁.heap news) (hm : (d, o) ∈ news) (lo : (d == sysModules) = false) (hd : DictI prog w o Ds) (hsz : Ds.length ≤ 5000)
    (J : Nat → List Value → Led → Prop) (h0 : J 0 [] news)
    (turn : ∀ i ys nw v I oI C oC D m₂ h tk (E' : Value → Shared → Prop), i < Ds.length → J i ys nw → (∃ k y t, v = Value.int k t ∧ Ds[i]? = some (k, y)) → NsObj oC m₂ → m₂ x = some v → Fr h₀ L h m → News h₀ L h ((I, oI) :: (C, oC) :: (D, lst ys) :: nw) → Off3 I C D nw → ((@Ne Nat I C) ∧ (@Ne Nat I D) ∧ (@Ne Nat C D)) → Has [(d, o)] nw →
      wpAny (model prog w) A (isTrue ct (compEnvC scope cl C env) (eval ct (compEnvC scope cl C env))) (fun ok s' => if ok = true then
        wpAny (model prog w) A (eval elt (compEnvC scope cl C env)) (CompEnd h₀ L m { s₁ with heap := h, toks := tk } I oI C oC D (lst ys) (Has [(d, o)]) (fun y nw' => J (i + 1) (ys ++ [y]) nw')) E' s'
        else CompEnd h₀ L m { s₁ with heap := h, toks := tk } I oI C oC D (lst ys) (Has [(d, o)]) (fun _ nw' => J (i + 1) ys nw') Value.none s') E' { s₁ with heap := h, toks := tk })
    (fin : ∀ g ys nw, J Ds.length ys nw → Has [(d, o)] nw → Fin { s₁ with heap := g } ys nw) : SrcT prog w A h₀ L m env ct elt x scope cl Fin (.ref d) s₁ := by
  obtain ⟨kvs, hDo, hKV⟩ := hd
  obtain ⟨ep, I⟩ := ItSrc.dict (s₁ := s₁) (A := A) hh N hm lo hDo
  rw [hKV.length] at I
  refine ⟨_, _, _, _, _, _, _, F, N, fun p hp => by rw [List.mem_singleton.mp hp]; exact hm, I.mono (P' := fun i v => ∃ k y t, v = Value.int k t ∧ Ds[i]? = some (k, y)) fun i v h => ?_, (by rw [sizeLine_eq]; (first | lia | omega)), fun g => restT_inv (s := { s₁ with heap := g }) (fun i ys nw => J i ys nw ∧ Has [(d, o)] nw) (fun i ys nw v I oI C oC D m₂ h tk E' hi hj hP hC hx F' N' o ne hS => wpAny_mono (turn i ys nw v I oI C oC D m₂ h tk E' hi hj.1 hP hC hx F' N' o ne hS) (fun ok s' hq => by cases ok with | true => (simp only [if_true] at hq ⊢; exact wpAny_mono hq (fun y s₂ h₂ => compEnd_mono h₂ fun _ _ a b => ⟨b, a⟩) fun _ _ e => e) | false => (simp only [Bool.false_eq_true, if_false] at hq ⊢; exact compEnd_mono hq fun _ _ a b => ⟨b, a⟩)) fun _ _ e => e) (fun ys nw hj => fin g ys nw hj.1 hj.2) _ 0 [] _ (Nat.zero_add _) ⟨h0, fun p hp => by rw [List.mem_singleton.mp hp]; exact hm⟩ (fun p hp => by rw [List.mem_singleton.mp hp]; exact hm)⟩
  · obtain ⟨k, x, hkx, hk1⟩ := h
    obtain ⟨t, rfl⟩ := Value.isInt_shape hk1
    (have hJ20 := hKV.at i k x hkx; (first | with_reducible refine el2_2 hJ20 ?_ | refine el2_2 hJ20 ?_); clear hJ20; rintro y u rfl hDi)
    exact ⟨k, y, t, rfl, hDi⟩
theorem srcU_dict {elt : PySem.Expr} {x : Str} {scope : Scope} {cl : List (Str × Addr)} {Fin : Shared → List Value → Led → Prop} {s₁ : Shared} {news : Led} {d : Addr} {o : Obj} {Ds : List (Int × Int)} (hh : A.handled = none) (F : Fr h₀ L s₁.heap m) (N : News h₀ L s₁.heap news) (hm : (d, o) ∈ news) (lo : (d == sysModules) = false) (hd : DictI prog w o Ds) (hsz : Ds.length ≤ 5000)
    (J : Nat → List Value → Led → Prop) (h0 : J 0 [] news)
    (turn : ∀ i ys nw v I oI C oC D m₂ h tk (E' : Value → Shared → Prop), i < Ds.length → J i ys nw → (∃ k y t, v = Value.int k t ∧ Ds[i]? = some (k, y)) → NsObj oC m₂ → m₂ x = some v → Fr h₀ L h m → News h₀ L h ((I, oI) :: (C, oC) :: (D, lst ys) :: nw) → Off3 I C D nw → ((@Ne Nat I C) ∧ (@Ne Nat I D) ∧ (@Ne Nat C D)) → Has [(d, o)] nw →
      wpAny (model prog w) A (eval elt (compEnvC scope cl C env)) (CompEnd h₀ L m { s₁ with heap := h, toks := tk } I oI C oC D (lst ys) (Has [(d, o)]) (fun y nw' => J (i + 1) (ys ++ [y]) nw')) E' { s₁ with heap := h, toks := tk })
    (fin : ∀ g ys nw, J Ds.length ys nw → Has [(d, o)] nw → Fin { s₁ with heap := g } ys nw) : SrcU prog w A h₀ L m env elt x scope cl Fin (.ref d) s₁ := by
  obtain ⟨kvs, hDo, hKV⟩ := hd
  obtain ⟨ep, I⟩ := ItSrc.dict (s₁ := s₁) (A := A) hh N hm lo hDo
  rw [hKV.length] at I
  refine ⟨_, _, _, _, _, _, _, F, N, fun p hp => by rw [List.mem_singleton.mp hp]; exact hm, I.mono (P' := fun i v => ∃ k y t, v = Value.int k t ∧ Ds[i]? = some (k, y)) fun i v h => ?_, (by rw [sizeLine_eq]; (first | lia | omega)), fun g => restU_inv (s := { s₁ with heap := g }) (fun i ys nw => J i ys nw ∧ Has [(d, o)] nw) (fun i ys nw v I oI C oC D m₂ h tk E' hi hj hP hC hx F' N' o ne hS => wpAny_mono (turn i ys nw v I oI C oC D m₂ h tk E' hi hj.1 hP hC hx F' N' o ne hS) (fun y s₂ h₂ => compEnd_mono h₂ fun _ _ a b => ⟨b, a⟩) fun _ _ e => e) (fun ys nw hj => fin g ys nw hj.1 hj.2) _ 0 [] _ (Nat.zero_add _) ⟨h0, fun p hp => by rw [List.mem_singleton.mp hp]; exact hm⟩ (fun p hp => by rw [List.mem_singleton.mp hp]; exact hm)⟩
  · obtain ⟨k, x, hkx, hk1⟩ := h
    obtain ⟨t, rfl⟩ := Value.isInt_shape hk1
    (have hJ21 := hKV.at i k x hkx; (first | with_reducible refine el2_2 hJ21 ?_ | refine el2_2 hJ21 ?_); clear hJ21; rintro y u rfl hDi)
    exact ⟨k, y, t, rfl, hDi⟩
theorem for_dict {x : Str} {Q : Flow → Shared → Prop} {body : List Stmt} {s₁ : Shared} {m₀ : Str → Option Value} {news : Led} {d : Addr} {o : Obj} {Ds : List (Int × Int)} (hh : A.handled = none) (F : Fr h₀ env.locals s₁.heap m₀) (N : News h₀ env.locals s₁.heap news) (hm : (d, o) ∈ news) (lo : (d == sysModules) = false) (hd : DictI prog w o Ds)
    (J : Nat → (Str → Option Value) → Led → Prop) (h0 : J 0 m₀ news)
    (turn : ∀ i v m₁ nx h tk (I : Addr) oI', i < Ds.length → (∃ k y t, v = Value.int k t ∧ Ds[i]? = some (k, y)) → J i m₁ nx → Has [(d, o)] nx → (∀ p ∈ nx, p.1 ≠ I) → Fr h₀ env.locals h (fun y => if y = x then some v else m₁ y) → News h₀ env.locals h ((I, oI') :: nx) →
        wpAny (model prog w) A (execs body env) (TurnEnd h₀ env.locals I oI' [(d, o)] (J (i + 1)) Q { s₁ with heap := h, toks := tk }) E { s₁ with heap := h, toks := tk })
    (done : ∀ m₁ nx h tk, J Ds.length m₁ nx → Has [(d, o)] nx → Fr h₀ env.locals h m₁ → News h₀ env.locals h nx → Q .next { s₁ with heap := h, toks := tk }) : ForSrc prog w A h₀ env x body Q E (.ref d) s₁ := by
  obtain ⟨kvs, hDo, hKV⟩ := hd
  obtain ⟨ep, I⟩ := ItSrc.dict (s₁ := s₁) (A := A) hh N hm lo hDo
  rw [hKV.length] at I
  replace I := I.mono (P' := fun i v => ∃ k y t, v = Value.int k t ∧ Ds[i]? = some (k, y)) fun i v h => by
    (have hJ22 := h; (first | with_reducible refine el2_2 hJ22 ?_ | refine el2_2 hJ22 ?_); clear hJ22; try clear h; rintro k x hkx hk1)
    obtain ⟨t, rfl⟩ := Value.isInt_shape hk1
    (have hJ23 := hKV.at i k x hkx; (first | with_reducible refine el2_2 hJ23 ?_ | refine el2_2 hJ23 ?_); clear hJ23; rintro y u rfl hDi)
    exact ⟨k, y, t, rfl, hDi⟩
  refine ⟨_, _, [(d, o)], _, _, _, m₀, news, fun i m' nx => J i m' nx ∧ Has [(d, o)] nx, F, N, (fun p hp => by rw [List.mem_singleton.mp hp]; exact hm), I, ⟨h0, (fun p hp => by rw [List.mem_singleton.mp hp]; exact hm)⟩, fun i v m₁ nx h tk oI' hi hP hJ hS off F' N' => wpAny_mono (turn i v m₁ nx h tk _ oI' hi hP hJ.1 hS off F' N') (fun f s₂ hf => ?_) (fun _ _ e => e), fun m₁ nx h tk hJ F' N' => done m₁ nx h tk hJ.1 hJ.2 F' N'⟩
  have fin : TurnOk h₀ env.locals s₁.heap.objs.size oI' [(d, o)] (J (i + 1)) { s₁ with heap := h, toks := tk } s₂ → TurnOk h₀ env.locals s₁.heap.objs.size oI' [(d, o)] (fun m' nx => J (i + 1) m' nx ∧ Has [(d, o)] nx) { s₁ with heap := h, toks := tk } s₂ := by
    (rintro hJ24; (first | with_reducible refine el4_6 hJ24 ?_ | refine el4_6 hJ24 ?_); clear hJ24; rintro h' tk' m' nx' e F2 N2 o2 hS2 j2)
    exact ⟨h', tk', m', nx', e, F2, N2, o2, hS2, j2, hS2⟩
  cases f with
  | ret v => exact hf
  | brk => exact hf
  | next => exact fin hf
  | cont => exact fin hf
end
section
variable {prog : Program} {w : World} {A : Around} {E : Value → Shared → Prop} {s : Shared} {h₀ : Heap} {L D : Addr} {m : Str → Option Value} {news news' : Led} {vs : List Value} {ns : List Int} {n : Nat} {k x : Int} {t u : Tok}
theorem my_set {Q : Unit → Shared → Prop} (F : Fr h₀ L s.heap m) (N : News h₀ L s.heap news) (hi : IntsAre vs ns) (U : Upd D (listOf vs.toArray n) (listOf (vs.set k.toNat (.int x u)).toArray n) news news') (h0 : 0 ≤ k) (h1 : k < ns.length) (hfit : k < 2 ^ 63)
    (h : ∀ h', Fr h₀ L h' m → News h₀ L h' news' → IntsAre (vs.set k.toNat (.int x u)) (ns.set k.toNat x) → (ns.set k.toNat x).length = ns.length → (ns.set k.toNat x).sum = ns.sum - ns.getD k.toNat 0 + x → Q () { s with heap := h' }) :
    wpAny (model prog w) A (setItem (.ref D) (.int k t) (.int x u)) Q E s := ksa_set F N U hi h0 h1 hfit h
end
end --T_Dct

section --T_Srt
open PySem PySem.W PyProof.Rows PySem.Spec PySem.Calls
/-- the run of a sort's questions, all within the first n items -/
noncomputable def kgood (n : Nat) (lt : Nat → Nat → Bool) (ok : Array Nat → Bool) : KasT (Array Nat) → Bool
  | .ret p => ok p
  | .ask i j k => decide (i < n) && decide (j < n) && kgood n lt ok (k (lt i j))
theorem kgood_wp {n : Nat} {lt : Nat → Nat → Bool} {ok : Array Nat → Bool} {cmp : Nat → Nat → (Bool → Shared → Prop) → Shared → Prop} {Q : Array Nat → Shared → Prop} {s : Shared}
    (ha : ∀ i j C, i < n → j < n → C (lt i j) s → cmp i j C s) (hq : ∀ p, ok p = true → Q p s) : ∀ t : KasT (Array Nat), kgood n lt ok t = true → t.kasWp cmp Q s
  | .ret p, h => hq p h
  | .ask i j k, h => by
    simp only [kgood, Bool.and_eq_true, decide_eq_true_eq] at h
    exact ha i j _ h.1.1 h.1.2 (kgood_wp ha hq _ h.2)
noncomputable def okR (n : Nat) (r : List Nat) (p : Array Nat) : Bool := p.toList.map (fun i => r.getD i 0) == List.range n && p.toList.isPerm (List.range n)
noncomputable def tryR (n : Nat) (r : List Nat) : Bool := !(decide r.Nodup) || kgood n (fun i j => decide (r.getD i 0 < r.getD j 0)) (okR n r) (kas_sort n)
theorem try2 : ∀ a < 2, ∀ b < 2, tryR 2 [a, b] = true := by decide +kernel
theorem try3 : ∀ a < 3, ∀ b < 3, ∀ c < 3, tryR 3 [a, b, c] = true := by decide +kernel
theorem try4 : ∀ a < 4, ∀ b < 4, ∀ c < 4, ∀ d < 4, tryR 4 [a, b, c, d] = true := by decide +kernel
theorem try5 : ∀ a < 5, ∀ b < 5, ∀ c < 5, ∀ d < 5, ∀ e < 5, tryR 5 [a, b, c, d, e] = true := by decide +kernel
theorem tryAll {n : Nat} {r : List Nat} (h2 : 2 ≤ n) (h5 : n ≤ 5) (hl : r.length = n) (hr : ∀ x ∈ r, x < n) (hn : r.Nodup) : kgood n (fun i j => decide (r.getD i 0 < r.getD j 0)) (okR n r) (kas_sort n) = true := by
  have key : tryR n r = true := by
    match r, hl with
    | [a, b], h => subst h; exact try2 a (hr _ (by simp)) b (hr _ (by simp))
    | [a, b, c], h => subst h; exact try3 a (hr _ (by simp)) b (hr _ (by simp)) c (hr _ (by simp))
    | [a, b, c, d], h => subst h; exact try4 a (hr _ (by simp)) b (hr _ (by simp)) c (hr _ (by simp)) d (hr _ (by simp))
    | [a, b, c, d, e], h => subst h; exact try5 a (hr _ (by simp)) b (hr _ (by simp)) c (hr _ (by simp)) d (hr _ (by simp)) e (hr _ (by simp))
    | [], h => simp at h; (first | lia | omega)
    | [_], h => simp at h; (first | lia | omega)
    | _ :: _ :: _ :: _ :: _ :: _ :: _, h => simp at h; (first | lia | omega)
  simpa [tryR, hn] using key
noncomputable abbrev Pr := Int × Int
noncomputable def lt2 (a b : Pr) : Bool := decide (a.1 < b.1) || (decide (a.1 = b.1) && decide (a.2 < b.2))
theorem lt2_irrefl (a : Pr) : lt2 a a = false := by simp [lt2]
theorem lt2_trans {a b c : Pr} (h : lt2 a b = true) (k : lt2 b c = true) : lt2 a c = true := by
  simp only [lt2, Bool.or_eq_true, Bool.and_eq_true, decide_eq_true_eq] at *; (first | lia | omega)
theorem lt2_total {a b : Pr} (h : a ≠ b) : lt2 a b = true ∨ lt2 b a = true := by
  obtain ⟨a1, a2⟩ := a; obtain ⟨b1, b2⟩ := b
  have : a1 ≠ b1 ∨ a2 ≠ b2 := by
    by_cases e : a1 = b1
    · exact .inr fun e2 => h (by rw [e, e2])
    · exact .inl e
  simp only [lt2, Bool.or_eq_true, Bool.and_eq_true, decide_eq_true_eq]; (first | lia | omega)
theorem lt2_asymm {a b : Pr} (h : lt2 a b = true) : lt2 b a = false := by
  cases e : lt2 b a with
  | false => rfl
  | true => have := lt2_trans h e; rw [lt2_irrefl] at this; cases this
/-- how many stand below -/
noncomputable def rk (P : List Pr) (x : Pr) : Nat := P.countP fun q => lt2 q x
theorem countP_lt {P : List Pr} {p q : Pr → Bool} (hpq : ∀ x, p x = true → q x = true) {y : Pr} (hy : y ∈ P) (h1 : q y = true) (h2 : p y = false) : P.countP p < P.countP q := by
  induction P with
  | nil => cases hy
  | cons z P ih =>
    have hle : P.countP p ≤ P.countP q := List.countP_mono_left fun x _ => hpq x
    rcases List.mem_cons.mp hy with rfl | hy
    · rw [List.countP_cons_of_neg (by rw [h2]; simp), List.countP_cons_of_pos h1]; (first | lia | omega)
    · have := ih hy
      rw [List.countP_cons, List.countP_cons]
      by_cases hz : p z = true
      · rw [hz, hpq z hz]; simp; (first | lia | omega)
      · rw [if_neg hz]; (first | lia | omega)
theorem rk_lt {P : List Pr} {a b : Pr} (ha : a ∈ P) (h : lt2 a b = true) : rk P a < rk P b :=
  countP_lt (fun _ hx => lt2_trans hx h) ha h (lt2_irrefl a)
theorem rk_iff {P : List Pr} {a b : Pr} (ha : a ∈ P) (hb : b ∈ P) : decide (rk P a < rk P b) = lt2 a b := by
  by_cases e : a = b
  · subst e; rw [lt2_irrefl]; simp
  · rcases lt2_total e with h | h
    · rw [h]; simpa using rk_lt ha h
    · rw [lt2_asymm h]; have := rk_lt hb h; simp; (first | lia | omega)
theorem rk_le {P : List Pr} {a : Pr} (ha : a ∈ P) : rk P a < P.length := by
  have := countP_lt (P := P) (p := fun q => lt2 q a) (q := fun _ => true) (fun _ _ => rfl) ha rfl (lt2_irrefl a)
  simpa [rk, List.countP_true] using this
theorem rk_nodup {P : List Pr} (hn : P.Nodup) : (P.map (rk P)).Nodup := by
  have key : ∀ l : List Pr, (∀ x ∈ l, x ∈ P) → l.Nodup → (l.map (rk P)).Nodup := by
    intro l
    induction l with
    | nil => intro _ _; simp
    | cons a l ih =>
      intro hs hn
      rw [List.nodup_cons] at hn
      rw [List.map_cons, List.nodup_cons]
      refine ⟨fun hm => ?_, ih (fun x hx => hs x (.tail _ hx)) hn.2⟩
      obtain ⟨b, hb, e⟩ := List.mem_map.mp hm
      have hab : a ≠ b := fun e => hn.1 (e ▸ hb)
      rcases lt2_total hab with h | h
      · have := rk_lt (hs a (.head _)) h; (first | lia | omega)
      · have := rk_lt (hs b (.tail _ hb)) h; (first | lia | omega)
  exact key P (fun _ h => h) hn
noncomputable def pD (p : Pr) : Dat := .tuple [.int p.1, .int p.2]
theorem short_pw {α : Type} {R : α → α → Prop} : ∀ {l : List α}, l.length < 2 → l.Pairwise R
  | [], _ => .nil
  | [a], _ => List.pairwise_singleton R a
  | _ :: _ :: _, h => absurd h (Nat.not_lt_of_le (Nat.le_add_left 2 _))
theorem pD_inv {news : Led} {v : Value} {p : Pr} (h : DatIn news v (pD p)) : ∃ (a : Addr) (t u : Tok) (n : Nat), v = .ref a ∧ (a, tupO [.int p.1 t, .int p.2 u] n) ∈ news := by
  obtain ⟨a, _, n, rfl, h1, h2⟩ := datTup h
  obtain ⟨_, _, rfl, h3, h2⟩ := datCons h2
  obtain ⟨_, _, rfl, h4, h2⟩ := datCons h2
  obtain rfl := datNil h2
  obtain ⟨t, rfl⟩ := datInt h3
  obtain ⟨u, rfl⟩ := datInt h4
  exact ⟨a, t, u, n, rfl, h1⟩
section
variable {prog : Program} {w : World} {A : Around} {E : Value → Shared → Prop} {s : Shared} {h₀ : Heap} {L l : Addr} {m : Str → Option Value} {news : Led}
theorem sort_short {vs : List Value} {n : Nat} {Q : Value → Shared → Prop} (F : Fr h₀ L s.heap m) (N : News h₀ L s.heap news) (hm : (l, listOf vs.toArray n) ∈ news) (h2 : vs.length < 2)
    (h : ∀ D h' e, Fr h₀ L h' m → News h₀ L h' ((D, listOf vs.toArray e) :: news) → (∀ q ∈ news, q.1 < D) → Q (.ref D) { s with heap := h' }) : wpAny (model prog w) A (call (.builtin "sorted") [.ref l]) Q E s := by
  have hl : s.heap.IsList l vs.toArray := News.isList N hm
  refine Calls.call_function_entry kind_sorted plain_sorted entry_sorted (args_sorted1 _) ?_
  unfold Builtin.«sorted»
  refine wpAny_bind (m := checkCount "sorted" 1 1 _) (wpAny_pure ?_)
  refine wpAny_bind (collect_list hl ?_ (by rw [sizeLine_eq]; (first | lia | omega)))
  refine wpAny_bind (wpAny_newList ?_ (by rw [sizeLine_eq]; (first | lia | omega)))
  have hsz : ((s.heap.push (seqObj "list" #[] 0)).update s.heap.objs.size (Obj.mapSeq (· ++ vs.toArray))).objs.size = s.heap.objs.size + 1 := by rw [Heap.size_update, size_push']
  have hoL : (((s.heap.push (seqObj "list" #[] 0)).update s.heap.objs.size (Obj.mapSeq (· ++ vs.toArray))).push (seqObj "list" vs.toArray 0)).get? (s.heap.objs.size + 1) = some (seqObj "list" vs.toArray 0) := by
    rw [← hsz]; exact Heap.get?_push_size _ rfl
  show wpAny _ _ _ _ _ { s with heap := ((s.heap.push (seqObj "list" #[] 0)).update s.heap.objs.size (Obj.mapSeq (· ++ vs.toArray))).push (seqObj "list" vs.toArray 0) }
  rw [hsz]
  generalize hH : ((s.heap.push (seqObj "list" #[] 0)).update s.heap.objs.size (Obj.mapSeq (· ++ vs.toArray))).push (seqObj "list" vs.toArray 0) = H at hoL
  refine wpAny_bind (wpAny_holding (wpAny_call_entry slot_list_sort ⟨_, hoL, rfl⟩ entry_list_sort ?body (args_list_sort _)))
  case body =>
    rw [list_sort_plain]
    have ha : s.heap.objs.size + 1 < H.objs.size := Heap.lt_size hoL
    refine wpAny_bind (listItems_at hoL rfl ?_)
    refine wpAny_bind (listUpdate_at hoL rfl ?_ (by rw [List.size_toArray, sizeLine_eq]; (first | lia | omega)) (Nat.zero_le _))
    obtain ⟨e1, ho1⟩ : ∃ e1, (H.update (s.heap.objs.size + 1) (Obj.mapSeq fun _ => (#[] : Array Value))).get? (s.heap.objs.size + 1) = some (seqObj "list" #[] e1) := ⟨_, get?_update_seq hoL (fun _ => #[])⟩
    refine wpAny_bind (seqEpoch_at ho1 rfl ?_)
    refine wpAny_bind (wpAny_newTuple ?_)
    refine wpAny_bind (wpAny_newList ?_)
    refine wpAny_holding ?_
    have ho6 : (((H.update (s.heap.objs.size + 1) (Obj.mapSeq fun _ => (#[] : Array Value))).push (seqObj "tuple" vs.toArray 0)).push (seqObj "list" #[] 0)).get? (s.heap.objs.size + 1) = some (seqObj "list" #[] e1) := by
      rw [Heap.get?_push_ne _ _ _ (by rw [size_push', Heap.size_update]; exact Nat.ne_of_lt (Nat.lt_succ_of_lt ha)), Heap.get?_push_ne _ _ _ (by rw [Heap.size_update]; exact Nat.ne_of_lt ha)]
      exact ho1
    show wpAny (model prog w) _ _ _ _ { s with heap := ((H.update (s.heap.objs.size + 1) (Obj.mapSeq fun _ => (#[] : Array Value))).push (seqObj "tuple" vs.toArray 0)).push (seqObj "list" #[] 0) }
    dsimp only
    have h2' : vs.toArray.size < 2 := by rw [List.size_toArray]; exact h2
    rw [if_pos h2', if_pos h2']
    refine wpAny_bind (wpAny_pure ?_)
    rw [StateT.run_pure]
    refine wpAny_bind (wpAny_pure ?_)
    dsimp only
    refine wpAny_bind (seqEpoch_at ho6 rfl ?_)
    refine wpAny_bind (listUpdate_at ho6 rfl ?_ (hsz2 := by rw [Array.size_map]; show (pairsOf vs).size ≤ _; rw [pairsOf_size, sizeLine_eq]; (first | lia | omega)))
    simp only [bne_self_eq_false, Bool.false_eq_true, if_false]
    refine wpAny_pure ⟨_, rfl, wpAny_pure ⟨_, rfl, ?_⟩⟩
    have eout : (arrOf (SortSt.mk' general' (vs.toArray.zip vs.toArray) #[] 7 none)).map (·.2) = vs.toArray := by
      show (vs.toArray.zip vs.toArray).map (·.2) = vs.toArray
      simp [List.map_snd_zip]
    rw [eout]
    have eall : (((H.update (s.heap.objs.size + 1) (Obj.mapSeq fun _ => (#[] : Array Value))).push (seqObj "tuple" vs.toArray 0)).push (seqObj "list" #[] 0)).update (s.heap.objs.size + 1) (Obj.mapSeq fun _ => vs.toArray) = sortedAll s.heap vs vs.toArray := by
      rw [← hH]; rfl
    show Q _ { s with heap := (((H.update (s.heap.objs.size + 1) (Obj.mapSeq fun _ => (#[] : Array Value))).push (seqObj "tuple" vs.toArray 0)).push (seqObj "list" #[] 0)).update (s.heap.objs.size + 1) (Obj.mapSeq fun _ => vs.toArray) }
    rw [eall]
    obtain ⟨e, he⟩ := sortedAll_at s.heap vs vs.toArray
    exact h _ _ e (F.kept fun _ _ => sortedAll_old) (N.kept_cons F (fun _ _ => sortedAll_old) (Nat.le_succ _) he) (fun q hq => Nat.lt_succ_of_lt (Heap.lt_size (N q hq).1))
theorem lt_pairs {x y : Addr} {p q : Pr} {t u t' u' : Tok} {n n' : Nat} {C : Bool → Shared → Prop} (N : News h₀ L s.heap news) (hx : (x, tupO [.int p.1 t, .int p.2 u] n) ∈ news) (hy : (y, tupO [.int q.1 t', .int q.2 u'] n') ∈ news) (h : C (lt2 p q) s) :
    wpAny (model prog w) A (keyLt' (tuples' true) (.ref x) (.ref y)) C E s := by
  refine kat_lt (N _ hx).1 rfl (N _ hy).1 rfl ?_
  show KatLex prog w A true false C [(.int p.1 t, .int q.1 t'), (.int p.2 u, .int q.2 u')] 0 s
  refine kat_cons (wpAny_eqBool_int ?_)
  by_cases e1 : p.1 = q.1
  · rw [show (p.1 == q.1) = true by simpa using e1]
    refine kat_yes (kat_cons (wpAny_eqBool_int ?_))
    by_cases e2 : p.2 = q.2
    · rw [show (p.2 == q.2) = true by simpa using e2]
      refine kat_yes (kat_nil ?_)
      have : lt2 p q = false := by simp [lt2, e1, e2]
      rw [← this]; exact h
    · rw [show (p.2 == q.2) = false by simpa using e2]
      refine kat_no ?_
      show wpAny (model prog w) A (oneLt' false _ _) _ _ _
      refine kat_one _ _ (lt_int ?_)
      have : lt2 p q = decide (p.2 < q.2) := by simp [lt2, e1]
      exact (this ▸ h : C (decide (p.2 < q.2)) s)
  · rw [show (p.1 == q.1) = false by simpa using e1]
    refine kat_no ?_
    show wpAny (model prog w) A (oneLt' true _ _) _ _ _
    refine oneLt_int ?_
    have : lt2 p q = decide (p.1 < q.1) := by simp [lt2, e1]
    rw [← this]; exact h
theorem firsts_of : ∀ {us : List Value} {P : List Pr}, DatAll news us (P.map pD) → News h₀ L s.heap news → ∃ fs, KatTups s.heap us fs ∧ fs.length = us.length ∧ ∀ v ∈ fs, ∃ i t, v = Value.int i t
  | [], [], _, _ => ⟨[], KatTups.nil, rfl, fun _ h => nomatch h⟩
  | [], _ :: _, h, _ => nomatch h
  | _ :: _, [], h, _ => nomatch h
  | _ :: us, p :: P, .cons hd hr, N => by
    (have hJ25 := pD_inv hd; (first | with_reducible refine el4_2 hJ25 ?_ | refine el4_2 hJ25 ?_); clear hJ25; rintro a t u n rfl hm)
    (have hJ26 := firsts_of hr N; (first | with_reducible refine el1_3 hJ26 ?_ | refine el1_3 hJ26 ?_); clear hJ26; rintro fs h1 h2 h3)
    refine ⟨.int p.1 t :: fs, KatTups.cons (N _ hm).1 rfl rfl rfl h1, by simp [h2], ?_⟩
    intro v hv
    rcases List.mem_cons.mp hv with rfl | hv
    · exact ⟨_, _, rfl⟩
    · exact h3 v hv
theorem datAll_getD {us : List Value} {P : List Pr} (h : DatAll news us (P.map pD)) {i : Nat} (hi : i < P.length) : DatIn news (us.getD i .none) (pD (P.getD i (0, 0))) := by
  obtain ⟨v, hv, hd⟩ := h.get (k := i) (by simpa using hi)
  have e1 : us.getD i .none = v := by simp [List.getD, hv]
  have e2 : P.getD i (0, 0) = P[i] := by simp [List.getD, hi]
  rw [e1, e2]
  simpa using hd
theorem datAll_perm {us : List Value} {P : List Pr} (h : DatAll news us (P.map pD)) : ∀ {p : List Nat}, (∀ i ∈ p, i < P.length) → DatAll news (p.map fun i => us.getD i .none) ((p.map fun i => P.getD i (0, 0)).map pD)
  | [], _ => .nil
  | i :: p, hp => .cons (datAll_getD h (hp i (.head _))) (datAll_perm h fun j hj => hp j (.tail _ hj))
theorem map_getD_range {P : List Pr} : (List.range P.length).map (fun i => P.getD i (0, 0)) = P := by
  apply List.ext_getElem
  · simp
  · intro i h1 h2; simp [List.getD, h2]
theorem sort_pairs {us : List Value} {P : List Pr} {n : Nat} {L9 : Led} {Q : Value → Shared → Prop} (F : Fr h₀ L s.heap m) (N : News h₀ L s.heap news) (hm : (l, listOf us.toArray n) ∈ news) (hp : DatAll L9 us (P.map pD)) (hs : ∀ p ∈ L9, p ∈ news) (hn : P.Nodup) (h5 : P.length ≤ 5)
    (h : ∀ D us' (P' : List Pr) h' e, Fr h₀ L h' m → News h₀ L h' ((D, listOf us'.toArray e) :: news) → (∀ q ∈ news, q.1 < D) → DatAll L9 us' (P'.map pD) → P'.Perm P → P'.Pairwise (fun a b => lt2 a b = true) → Q (.ref D) { s with heap := h' }) :
    wpAny (model prog w) A (call (.builtin "sorted") [.ref l]) Q E s := by
  have hlen : us.length = P.length := by simpa using hp.length
  by_cases h2 : P.length < 2
  · refine sort_short F N hm (by (first | lia | omega)) fun D h' e F' N' l1 => h D us P h' e F' N' l1 hp (List.Perm.refl _) (short_pw h2)
  · refine kat_sorted F N (News.isList N hm) (by (first | lia | omega)) (by (first | lia | omega)) fun D e1 h' F' N' l1 => ?_
    have Nn : News h₀ L h' news := fun p hp => N' p (.tail _ hp)
    have hpn := hp.mono hs
    (have hJ27 := firsts_of (s := { s with heap := h' }) hpn Nn; (first | with_reducible refine el1_3 hJ27 ?_ | refine el1_3 hJ27 ?_); clear hJ27; rintro fs t1 t2 t3)
    refine kat_kind (T := .type "int") t1 (by (first | lia | omega)) (fun v hv => ?_) rfl ?_
    · obtain ⟨i, t, rfl⟩ := t3 v hv
      exact Looks.now
    show (kas_sort us.length).kasWp (kas_ask prog w A.in1.in1 (tuples' true) us) _ { s with heap := h' }
    have hr := tryAll (n := P.length) (r := P.map (rk P)) (by (first | lia | omega)) h5 (by simp) (fun x hx => by obtain ⟨a, ha, rfl⟩ := List.mem_map.mp hx; exact rk_le ha) (rk_nodup hn)
    rw [hlen]
    have eD : ∀ i, i < P.length → (P.map (rk P)).getD i 0 = rk P (P.getD i (0, 0)) := fun i hi => by simp [List.getD, hi]
    have hin : ∀ i, i < P.length → P.getD i (0, 0) ∈ P := fun i hi => by simp [List.getD, hi]
    refine kgood_wp (ok := okR P.length (P.map (rk P))) (lt := fun i j => decide ((P.map (rk P)).getD i 0 < (P.map (rk P)).getD j 0)) ?_ ?_ _ hr
    · intro i j C hi hj hC
      simp only [eD i hi, eD j hj, rk_iff (hin i hi) (hin j hj)] at hC
      (have hJ28 := pD_inv (datAll_getD hpn hi); (first | with_reducible refine el4_2 hJ28 ?_ | refine el4_2 hJ28 ?_); clear hJ28; rintro a t u k e ha)
      (have hJ29 := pD_inv (datAll_getD hpn hj); (first | with_reducible refine el4_2 hJ29 ?_ | refine el4_2 hJ29 ?_); clear hJ29; rintro b t' u' k' e' hb)
      show wpAny (model prog w) A.in1.in1 (keyLt' (tuples' true) (us.getD i .none) (us.getD j .none)) C _ _
      rw [e, e']
      exact lt_pairs (s := { s with heap := h' }) Nn ha hb hC
    · intro p hok
      simp only [okR, Bool.and_eq_true, beq_iff_eq] at hok
      have hperm : p.toList.Perm (List.range P.length) := List.isPerm_iff.mp hok.2
      have hlt : ∀ i ∈ p.toList, i < P.length := fun i hi => List.mem_range.mp (hperm.mem_iff.mp hi)
      refine KasFin.intro F' N' (.head fun q hq => Nat.ne_of_lt (l1 q hq)) fun h'' c F'' N'' => ?_
      refine h D _ (p.toList.map fun i => P.getD i (0, 0)) h'' c F'' N'' l1 (datAll_perm hp hlt) ?_ ?_
      · have := hperm.map fun i => P.getD i (0, 0)
        rwa [map_getD_range] at this
      · rw [List.pairwise_map]
        have hpw : (p.toList.map fun i => (P.map (rk P)).getD i 0).Pairwise (· < ·) := by rw [hok.1]; exact List.pairwise_lt_range
        rw [List.pairwise_map] at hpw
        refine hpw.imp_of_mem fun {i j} hi hj hlt' => ?_
        rw [eD i (hlt i hi), eD j (hlt j hj)] at hlt'
        rw [← rk_iff (hin i (hlt i hi)) (hin j (hlt j hj))]
        simpa using hlt'
end
end --T_Srt

section --T_Agg
open PySem PySem.W PyProof.Rows PySem.Spec PySem.Calls
section
variable {prog : Program} {w : World} {A : Around} {E : Value → Shared → Prop} {s : Shared} {h₀ : Heap} {L l : Addr} {m : Str → Option Value} {news : Led}
theorem preSum_list (ns : List Int) : ∀ j, preSum (fun i => ns.getD i 0) j = (ns.take j).sum
  | 0 => by simp [preSum]
  | j + 1 => by
    rw [preSum, preSum_list ns j, List.take_add_one, List.sum_append]
    congr 1
    cases e : ns[j]? <;> simp [List.getD, e]
theorem sum_src {srcs : Led} {xv : Value} {oI : Obj} {fp : List Addr} {St : Nat → Heap → Prop} {ns : List Int} {P : Nat → Value → Prop} {Q : Value → Shared → Prop} (F : Fr h₀ L s.heap m) (N : News h₀ L s.heap news)
    (I : ItSrc prog w A.in1 h₀ L srcs ns.length P xv s oI fp St) (hP : ∀ i v, P i v → ∃ t, v = .int (ns.getD i 0) t)
    (h : ∀ h' tk t', Fr h₀ L h' m → News h₀ L h' news → Q (.int ns.sum t') { s with heap := h', toks := tk }) : wpAny (model prog w) A (call (.builtin "sum") [xv]) Q E s := by
  refine call_sum_walkG (I.it _ _ ⟨_, fp, _, _, P, St, fun i => ns.getD i 0, rfl, I.W, I.go, I.lt, hP, fun h' tk t' hk => ?_⟩)
  have e : preSum (fun i => ns.getD i 0) ns.length = ns.sum := by rw [preSum_list, List.take_length]
  rw [e]
  have keep : ∀ b o, s.heap.get? b = some o → h'.get? b = some o := fun b o e => hk b o (fun hm => by rw [List.mem_singleton.mp hm] at e; exact Nat.lt_irrefl _ (Heap.lt_size e)) (Heap.get?_push_of_some _ e)
  exact h h' tk t' (F.keeps keep) (N.grown keep)
theorem min_src {srcs : Led} {xv : Value} {oI : Obj} {fp : List Addr} {St : Nat → Heap → Prop} {ns : List Int} {P : Nat → Value → Prop} {Q : Value → Shared → Prop} (F : Fr h₀ L s.heap m) (N : News h₀ L s.heap news)
    (I : ItSrc prog w A.in1 h₀ L srcs ns.length P xv s oI fp St) (hP : ∀ i v, P i v → ∃ t, v = .int (ns.getD i 0) t) (hn : 0 < ns.length)
    (h : ∀ h' M tk t', Fr h₀ L h' m → News h₀ L h' news → M ∈ ns → (∀ a ∈ ns, M ≤ a) → Q (.int M t') { s with heap := h', toks := tk }) : wpAny (model prog w) A (call (.builtin "min") [xv]) Q E s := by
  refine call_min_walk (I.it _ _ ⟨_, fp, _, _, P, St, _, rfl, I.W, I.go, I.lt, hn, CmpOf.ints_lt (fun i => ns.getD i 0) hP, fun v h' tk hv hk => ?_⟩)
  have keep : ∀ b o, s.heap.get? b = some o → h'.get? b = some o := fun b o e => hk b o (fun hm => by rw [List.mem_singleton.mp hm] at e; exact Nat.lt_irrefl _ (Heap.lt_size e)) (Heap.get?_push_of_some _ e)
  obtain ⟨t, rfl⟩ := hP _ _ hv
  obtain ⟨h1, h2⟩ := argBest_lt (fun i => ns.getD i 0) (ns.length - 1)
  refine h h' _ tk t (F.keeps keep) (N.grown keep) ?_ fun a ha => ?_
  · have hlt : argBest (fun i j => decide (ns.getD i 0 < ns.getD j 0)) (ns.length - 1) < ns.length := by (first | lia | omega)
    have key : ∀ i, i < ns.length → ns.getD i 0 ∈ ns := fun i hi => by simp [List.getD, hi]
    exact key _ hlt
  · obtain ⟨j, hj, rfl⟩ := List.getElem_of_mem ha
    have := h2 j (by (first | lia | omega))
    simpa [List.getD, List.getElem?_eq_getElem hj] using this
theorem ints_at {us : List Value} {ns : List Int} (hi : IntsAre us ns) {i : Nat} {v : Value} (h : us[i]? = some v) : ∃ t, v = .int (ns.getD i 0) t := by
  have hlt : i < us.length := (List.getElem?_eq_some_iff.mp h).1
  have hlt' : i < ns.length := by rw [← hi.length]; exact hlt
  obtain ⟨t, e⟩ := hi.get i _ (List.getElem?_eq_getElem hlt')
  rw [e] at h
  exact ⟨t, by rw [← Option.some.inj h]; simp [List.getD, hlt']⟩
theorem my_sum {us : List Value} {ns : List Int} {n : Nat} {Q : Value → Shared → Prop} (hh : A.handled = none) (F : Fr h₀ L s.heap m) (N : News h₀ L s.heap news) (hm : (l, listOf us.toArray n) ∈ news) (hi : IntsAre us ns)
    (h : ∀ h' tk t', Fr h₀ L h' m → News h₀ L h' news → Q (.int ns.sum t') { s with heap := h', toks := tk }) : wpAny (model prog w) A (call (.builtin "sum") [.ref l]) Q E s := by
  have I := ItSrc.list (prog := prog) (w := w) (A := A.in1) hh N hm
  rw [List.size_toArray, hi.length] at I
  exact sum_src F N I (fun i v hv => ints_at hi (by simpa using hv)) h
theorem my_sumT {us : List Value} {ns : List Int} {n : Nat} {Q : Value → Shared → Prop} (hh : A.handled = none) (F : Fr h₀ L s.heap m) (N : News h₀ L s.heap news) (hm : (l, tupL us n) ∈ news) (hi : IntsAre us ns)
    (h : ∀ h' tk t', Fr h₀ L h' m → News h₀ L h' news → Q (.int ns.sum t') { s with heap := h', toks := tk }) : wpAny (model prog w) A (call (.builtin "sum") [.ref l]) Q E s := by
  have I := ItSrc.tuple (prog := prog) (w := w) (A := A.in1) hh N hm
  rw [hi.length] at I
  exact sum_src F N I (fun i v hv => ints_at hi hv) h
theorem my_min {us : List Value} {ns : List Int} {n : Nat} {Q : Value → Shared → Prop} (hh : A.handled = none) (F : Fr h₀ L s.heap m) (N : News h₀ L s.heap news) (hm : (l, listOf us.toArray n) ∈ news) (hi : IntsAre us ns) (hn : 0 < ns.length)
    (h : ∀ h' M tk t', Fr h₀ L h' m → News h₀ L h' news → M ∈ ns → (∀ a ∈ ns, M ≤ a) → Q (.int M t') { s with heap := h', toks := tk }) : wpAny (model prog w) A (call (.builtin "min") [.ref l]) Q E s := by
  have I := ItSrc.list (prog := prog) (w := w) (A := A.in1) hh N hm
  rw [List.size_toArray, hi.length] at I
  exact min_src F N I (fun i v hv => ints_at hi (by simpa using hv)) hn h
theorem my_minT {us : List Value} {ns : List Int} {n : Nat} {Q : Value → Shared → Prop} (hh : A.handled = none) (F : Fr h₀ L s.heap m) (N : News h₀ L s.heap news) (hm : (l, tupL us n) ∈ news) (hi : IntsAre us ns) (hn : 0 < ns.length)
    (h : ∀ h' M tk t', Fr h₀ L h' m → News h₀ L h' news → M ∈ ns → (∀ a ∈ ns, M ≤ a) → Q (.int M t') { s with heap := h', toks := tk }) : wpAny (model prog w) A (call (.builtin "min") [.ref l]) Q E s := by
  have I := ItSrc.tuple (prog := prog) (w := w) (A := A.in1) hh N hm
  rw [hi.length] at I
  exact min_src F N I (fun i v hv => ints_at hi hv) hn h
end
end --T_Agg

section --T_Ctr
open PySem PySem.W PyProof.Rows PySem.Spec PySem.Calls
/-- what a call of the def at f gives: a result and a ledger, of which Post holds -/
noncomputable def Tel (w : World) (f : Addr) (k : Nat) (args : List Value) (news : Led) (Post : Value → Led → Prop) : Prop :=
  ∀ (mean : ExcName → Option Value) (mg mb : Str → Option Value) (dp un : Nat) (gd : Option (List Code)) (cn : Str) (cs : Scope) (a : Addr) (ccd : Value) (cl : List (Str × Addr)) (outer : List Env) (A₀ : Around) (base h₀ : Heap) (L : Addr) (m : Str → Option Value) (s : Shared)
    (Q E : Value → Shared → Prop),
    Below A₀ base outer h₀ → Fr h₀ L s.heap m → (hdK w.params).In h₀ → News h₀ L s.heap news → Top hdV (looseW hdV []) mean mg mb h₀ → cs.kind = .function → dp + k < recursionLimit → un + 8 * k < cLine →
    (∀ r news' h' tk', Fr h₀ L h' m → News h₀ L h' news' → Post r news' → Q r { s with heap := h', toks := tk' }) →
    wpAny (model PySem.Challenge.rw_ok0135_01.row.prog w) (ktrTop dp un gd cn cs L a ccd cl outer) (call (.ref f) args) Q E s
/-- a result that is data, with what was made for it, above all that stood -/
noncomputable def PostD (news : Led) (d : Dat) (r : Value) (news' : Led) : Prop := ∃ tl : Led, news' = tl ++ news ∧ (∀ p ∈ tl, ∀ q ∈ news, q.1 ≠ p.1) ∧ DatIn news' r d

theorem tel_use {w : World} {f : Addr} {k : Nat} {args : List Value} {news : Led} {Post : Value → Led → Prop} (C : Tel w f k args news Post)
    {mean : ExcName → Option Value} {mg mb : Str → Option Value} {dp un : Nat} {gd : Option (List Code)} {cn : Str} {cs : Scope} {a : Addr} {ccd : Value} {cl : List (Str × Addr)} {outer : List Env} {A₀ : Around} {base h₀ : Heap} {L : Addr} {m : Str → Option Value} {s : Shared} {Q E : Value → Shared → Prop}
    (B : Below A₀ base outer h₀) (F : Fr h₀ L s.heap m) (X : (hdK w.params).In h₀) (N : News h₀ L s.heap news) (T : Top hdV (looseW hdV []) mean mg mb h₀) (hk : cs.kind = .function) (hd : dp + k < recursionLimit) (hu : un + 8 * k < cLine)
    (ret : ∀ r news' h' tk', Fr h₀ L h' m → News h₀ L h' news' → Post r news' → Q r { s with heap := h', toks := tk' }) :
    wpAny (model PySem.Challenge.rw_ok0135_01.row.prog w) (ktrTop dp un gd cn cs L a ccd cl outer) (call (.ref f) args) Q E s :=
  C mean mg mb dp un gd cn cs a ccd cl outer A₀ base h₀ L m s Q E B F X N T hk hd hu ret
theorem PostD.of {news news' : Led} {d : Dat} {r : Value} (g : Grown news news') (h : DatIn news' r d) : PostD news d r news' := by
  obtain ⟨tl, e, k⟩ := g
  exact ⟨tl, e, k, h⟩
theorem PostD.grown {news news' : Led} {d : Dat} {r : Value} (h : PostD news d r news') : Grown news news' := let ⟨tl, e, k, _⟩ := h; ⟨tl, e, k⟩
theorem PostD.dat {news news' : Led} {d : Dat} {r : Value} (h : PostD news d r news') : DatIn news' r d := let ⟨_, _, _, h⟩ := h; h
/-- the same, where the data stand in a part of the ledger -/
noncomputable def PostS (sub news : Led) (d : Dat) (r : Value) (news' : Led) : Prop := ∃ tl : Led, news' = tl ++ news ∧ (∀ p ∈ tl, ∀ q ∈ news, q.1 ≠ p.1) ∧ DatIn (tl ++ sub) r d
theorem PostS.whole {news : Led} {d : Dat} {r : Value} {news' : Led} (h : PostS news news d r news') : PostD news d r news' := by
  obtain ⟨tl, e, k, q⟩ := h
  exact ⟨tl, e, k, by rw [e]; exact q⟩
theorem Tel.mono {w : World} {f : Addr} {k : Nat} {args : List Value} {news : Led} {P P' : Value → Led → Prop} (C : Tel w f k args news P) (i : ∀ r n, P r n → P' r n) : Tel w f k args news P' :=
  fun mean mg mb dp un gd cn cs a ccd cl outer A₀ base h₀ L m s Q E B F X N T hk hd hu ret => C mean mg mb dp un gd cn cs a ccd cl outer A₀ base h₀ L m s Q E B F X N T hk hd hu fun r n h t F N p => ret r n h t F N (i r n p)
theorem fits_of {us : List Value} (h : us.length ≤ 5000) : us.toArray.size ≤ sizeLine := by rw [sizeLine_eq, List.size_toArray]; (first | lia | omega)
theorem DatAll.get' {news : Led} {vs : List Value} {ds : List Dat} (h : DatAll news vs ds) : vs.length = ds.length := h.length
end --T_Ctr

section --T_Eql
open PySem PySem.W PyProof.Rows PySem.Spec PySem.Calls
theorem ints_ok (n : Nat) (l : List Int) : (l.map Dat.int).all (kqdOk n) = true := by
  rw [List.all_eq_true]
  intro d hd
  obtain ⟨x, _, rfl⟩ := List.mem_map.mp hd
  cases n <;> rfl
theorem cD_ok (c : Coin) : kqdOk 8 (cD c) = true := by
  simp only [cD, kqdOk, List.all_cons, List.all_nil, Bool.and_true, Bool.true_and]
  exact ints_ok _ _
theorem csD_ok {cs : List Coin} : ∀ d ∈ cs.map cD, kqdOk 8 d = true := fun d hd => by
  obtain ⟨c, _, rfl⟩ := List.mem_map.mp hd
  exact cD_ok c
theorem intsD_ok {l : List Int} : ∀ d ∈ l.map Dat.int, kqdOk 8 d = true := fun d hd => by
  obtain ⟨x, _, rfl⟩ := List.mem_map.mp hd
  rfl
section
variable {prog : Program} {w : World} {A : Around} {E : Value → Shared → Prop} {s : Shared} {h₀ : Heap} {L a b : Addr} {news n₁ n₂ : Led} {xs ys : List Value} {ka kb : Nat} {ds es : List Dat} {Q : Value → Shared → Prop}
theorem eq_dat {r : Bool} (N : News h₀ L s.heap news) (ma : (a, listOf xs.toArray ka) ∈ news) (Da : DatAll n₁ xs ds) (sa : ∀ p ∈ n₁, p ∈ news)
    (mb : (b, listOf ys.toArray kb) ∈ news) (Db : DatAll n₂ ys es) (sb : ∀ p ∈ n₂, p ∈ news)
    (ha : ∀ d ∈ ds, kqdOk 8 d = true) (hb : ∀ d ∈ es, kqdOk 8 d = true) (hu : A.units + 64 < cLine) (hr : r = true ↔ ds = es) (h : Q (.bool r) s) : wpAny (model prog w) A (compareOp .Eq (.ref a) (.ref b)) Q E s := by
  refine kqd_eq N ma rfl rfl Da sa mb rfl rfl Db sb ha hb hu ?_
  by_cases q : ds = es
  · simp only [q, decide_true]; rw [hr.mpr q] at h; exact h
  · simp only [q, decide_false]; cases r with
    | false => exact h
    | true => exact absurd (hr.mp rfl) q
theorem ne_dat {r : Bool} (N : News h₀ L s.heap news) (ma : (a, listOf xs.toArray ka) ∈ news) (Da : DatAll n₁ xs ds) (sa : ∀ p ∈ n₁, p ∈ news)
    (mb : (b, listOf ys.toArray kb) ∈ news) (Db : DatAll n₂ ys es) (sb : ∀ p ∈ n₂, p ∈ news)
    (ha : ∀ d ∈ ds, kqdOk 8 d = true) (hb : ∀ d ∈ es, kqdOk 8 d = true) (hu : A.units + 64 < cLine) (hr : r = true ↔ ds = es) (h : Q (.bool (!r)) s) : wpAny (model prog w) A (compareOp .NotEq (.ref a) (.ref b)) Q E s := by
  refine kqd_ne N ma rfl rfl Da sa mb rfl rfl Db sb ha hb hu ?_
  by_cases q : ds = es
  · simp only [q, decide_true]; rw [hr.mpr q] at h; exact h
  · simp only [q, decide_false]; cases r with
    | false => exact h
    | true => exact absurd (hr.mp rfl) q
end
end --T_Eql

section --T_RULES
open PySem PySem.W PyProof.Rows PySem.Spec PySem.Calls
local macro_rules | `(tactic| walk_at "om") => `(tactic| first | with_reducible assumption | decide | exact Int.natCast_nonneg _ | lia | omega)
local macro_rules | `(tactic| walk_at "lt") => `(tactic| first | exact .refl | (refine .step ?_; walk_at "lt"))
local macro_rules | `(tactic| k_ne) => `(tactic| (refine neN ?_; (try dsimp only); first | with_reducible assumption | exact Ne.symm (by with_reducible assumption) | exact Nat.ne_of_lt (by walk_at "lt") | exact Nat.ne_of_gt (by walk_at "lt") | lia | omega))
local macro_rules | `(tactic| walk_at "gb") => `(tactic| with_reducible show wpAny _ _ (call (Value.builtin _) [Value.ref _]) _ _ _)
local macro_rules | `(tactic| walk_at "gs") => `(tactic| with_reducible show wpAny _ _ (subscriptTail _ _ (Value.ref _) (Value.int _ _)) _ _ _)
local macro_rules | `(tactic| walk_at "wr") => `(tactic| with_unfolding_all rfl)
local macro_rules | `(tactic| k_mem) => `(tactic| first | assumption | exact List.mem_cons_self | (refine List.mem_cons_of_mem _ ?_; k_mem))
local macro_rules | `(tactic| k_all) => `(tactic| first | with_reducible assumption | (refine' List.forall_mem_cons.mpr ⟨?a, ?b⟩; (case a => k_ne); (case b => k_all)))
local macro_rules | `(tactic| walk_at "mem") => `(tactic| first | with_reducible assumption | exact List.mem_cons_self | (refine List.mem_cons_of_mem _ ?_; walk_at "mem") | (refine List.mem_append_left _ ?_; walk_at "mem") | (refine List.mem_append_right _ ?_; walk_at "mem") | (refine mem_of_eq (by assumption) ?_; walk_at "mem"))
local macro_rules | `(tactic| walk_at "sub") => `(tactic| first | exact all_nil | (refine all_cons ?_ ?_; (walk_at "mem"); walk_at "sub") | (refine all_app ?_ ?_; (walk_at "sub"); walk_at "sub") | (intro p hp; walk_at "mem") | (refine all_of_eq (by assumption) ?_; walk_at "sub"))
local macro_rules | `(tactic| walk_at "call builtin:len") => `(tactic| (k_here; (with_reducible show wpAny _ _ (call (Value.builtin "len") [Value.ref _]) _ _ _); k_dflt ((first | refine' my_len (by k_asm) (by k_mem) (by walk_at "ln") (by walk_at "om") ?_ | refine' my_lenT (by k_asm) (by k_mem) (by walk_at "ln") (by walk_at "om") ?_); k_whole)))
local macro_rules | `(tactic| walk_at "ln") => `(tactic| first | assumption | exact IntsAre.length (by assumption))
local macro_rules | `(tactic| walk_at "call builtin:list.append") => `(tactic| (k_here; (with_reducible show wpAny _ _ (call (Value.builtin _) [Value.ref _, _]) _ _ _); k_dflt (refine' append_K (by k_asm) (by k_asm) (by k_upd) ?_ ?z; (case z => assumption); k_whole); intro h' F' N'; (try k_sweep)))
local macro_rules | `(tactic| walk_at "subscriptTail") => `(tactic| (k_here; (first
  | (walk_at "gs"; k_dflt (refine' dI_item (by k_asm) (by k_mem) (by assumption) (by assumption) ?_ (by walk_at "wr") (fun _ => by walk_at "wr"); k_whole); intro t')
  | ((with_reducible show wpAny _ _ (subscriptTail _ _ (Value.ref _) (Value.int (Nat.cast _) _)) _ _ _); k_dflt (refine' coin_item (by k_asm) (by k_mem) (by assumption) (by walk_at "om") (by walk_at "om") ?_ (by walk_at "wr"); k_whole); intro a' t' b' n' hm' hb' hD')
  | ((with_reducible show wpAny _ _ (subscriptTail _ _ (Value.ref _) (Value.int (Nat.cast _ + 1) _)) _ _ _); k_dflt (refine' coin_item1 (by k_asm) (by k_mem) (by assumption) (by walk_at "om") (by walk_at "om") ?_ (by walk_at "wr"); k_whole); intro a' t' b' n' hm' hb' hD')
  | (walk_at "gs"; k_dflt ((first | refine' int_item (by k_asm) (by k_mem) (by assumption) (by walk_at "om") (by walk_at "om") (by walk_at "om") ?_ (by walk_at "wr") | refine' int_itemT (by k_asm) (by k_mem) (by assumption) (by walk_at "om") (by walk_at "om") (by walk_at "om") ?_ (by walk_at "wr")); k_whole); intro t')
  | (walk_at "gs"; k_dflt ((first | refine' tupL_item (by k_asm) (by k_mem) (by decide) (by decide) rfl ?_ (by walk_at "wr") | refine' lst_item (by k_asm) (by k_mem) (by decide) (by decide) rfl ?_ (by walk_at "wr")); k_whole)))))
local macro_rules | `(tactic| walk_at "subscriptTail Name Constant ref int") => `(tactic| walk_at "subscriptTail")
local macro_rules | `(tactic| walk_at "binaryOp Add ref ref") => `(tactic| (k_here; (with_reducible show wpAny _ _ (binaryOp Operator.Add (Value.ref _) (Value.ref _)) _ _ _); (first
  | (k_dflt (refine' add_ints (by k_asm) (by k_asm) (by assumption) (by assumption) (fun p9 h9 => by k_mem) (fun p9 h9 => by k_mem) (by walk_at "om") ?_; k_whole); intro D' us' h' F' N' l1 hI'; (try k_lt l1); (try k_sweep))
  | (k_dflt (refine' add_any (by k_asm) (by k_asm) (by k_mem) (by k_mem) (by walk_at "om") ?_; k_whole); intro D' h' F' N' l1; (try k_lt l1); (try k_sweep)))))
local macro_rules | `(tactic| walk_at "binaryOp Mult int int") => `(tactic| (k_here; (with_reducible refine mul_int ?_ ?kmo); (case kmo => first | exact mulok (by walk_at "om") | exact mulokR (by walk_at "om"))))
local macro_rules | `(tactic| walk_at "eval ListComp") => `(tactic| (k_here; (first
  | ((with_reducible show wpAny _ _ (eval (Expr.ListComp _ [Comprehension.mk (Expr.Name _ _) _ [_] _] _ _) _) _ _ _); k_dflt (refine comp_T (F₀ := by k_asm) (by walk_at "wr") (by decide) rfl (by decide) rfl ?_))
  | ((with_reducible show wpAny _ _ (eval (Expr.ListComp _ [Comprehension.mk (Expr.Name _ _) _ [] _] _ _) _) _ _ _); k_dflt (refine comp_U (F₀ := by k_asm) (by walk_at "wr") (by decide) rfl (by decide) rfl ?_))
  | ((with_reducible show wpAny _ _ (eval (Expr.ListComp _ [Comprehension.mk (Expr.Tuple _ _ _) _ [] _] _ _) _) _ _ _); k_dflt (refine LCp.ListComp_P (F₀ := by k_asm) (by walk_at "wr") (by decide) rfl (by decide) rfl rfl (by decide) ?_)))))
local macro_rules | `(tactic| walk_at "exec Assign cons ListComp") => `(tactic| (k_here; (first
  | ((with_reducible show wpAny _ _ (exec (Stmt.Assign _ (Expr.ListComp _ [Comprehension.mk (Expr.Name _ _) _ [_] _] _ _) _) _) _ _ _); k_dflt (refine comp_TA (by k_asm) rfl (by walk_at "wr") (by walk_at "wr") (by decide) rfl (by decide) rfl rfl rfl ?_))
  | ((with_reducible show wpAny _ _ (exec (Stmt.Assign _ (Expr.ListComp _ [Comprehension.mk (Expr.Name _ _) _ [] _] _ _) _) _) _ _ _); k_dflt (refine comp_UA (by k_asm) rfl (by walk_at "wr") (by walk_at "wr") (by decide) rfl (by decide) rfl rfl rfl ?_)))))
local macro_rules | `(tactic| walk_at "CompEnd") => `(tactic| fail "by hand")
local macro_rules | `(tactic| walk_at "ss") => `(tactic| first | exact fun _ h => h | (intro p9 h9; k_mem))
local macro_rules | `(tactic| walk_at "call builtin:sorted") => `(tactic| (k_here; walk_at "gb"; k_dflt (refine' sort_pairs (by k_asm) (by k_asm) (by k_mem) (by assumption) (by walk_at "ss") (by assumption) (by walk_at "om") ?_; k_whole); intro D' us' P' h' e' F' N' l1 hsd' hsp' hsw'; (try k_lt l1); (try k_sweep)))
local macro_rules | `(tactic| walk_at "setItem ref int") => `(tactic| (k_here; (with_reducible show wpAny _ _ (setItem (Value.ref _) (Value.int _ _) (Value.int _ _)) _ _ _); (first
  | (k_dflt (refine' dI_set (by k_asm) (by k_asm) (by k_updF) (by assumption) (by walk_at "om") ?_; k_whole); intro h' o' F' N' hd'; (try dsimp only at N'); (try k_sweep))
  | (k_dflt (refine' my_set (by k_asm) (by k_asm) (by assumption) (by k_upd) (by walk_at "om") (by walk_at "om") (by walk_at "om") ?_; k_whole); intro h' F' N' hi' hl' hs'; (try k_sweep)))))
local macro_rules | `(tactic| walk_at "call type:tuple") => `(tactic| (k_here; (with_reducible show wpAny _ _ (call (Value.type _) [Value.ref _]) _ _ _); (first
  | (k_dflt (refine' my_tuple (by k_asm) (by k_asm) (by k_mem) (by walk_at "om") ?_; k_whole); intro D' h' F' N' l1; (try k_lt l1); (try k_sweep))
  | (k_dflt (refine' my_tuple_same (by k_asm) (by k_mem) ?_; k_whole)))))
local macro_rules | `(tactic| walk_at "call builtin:sum") => `(tactic| (k_here; walk_at "gb"; k_dflt ((first | refine' my_sum rfl (by k_asm) (by k_asm) (by k_mem) (by assumption) ?_ | refine' my_sumT rfl (by k_asm) (by k_asm) (by k_mem) (by assumption) ?_); k_whole); intro h' tk' t' F' N'; (try k_sweep)))
local macro_rules | `(tactic| walk_at "call builtin:min") => `(tactic| (k_here; walk_at "gb"; k_dflt ((first | refine' my_min rfl (by k_asm) (by k_asm) (by k_mem) (by assumption) (by walk_at "om") ?_ | refine' my_minT rfl (by k_asm) (by k_asm) (by k_mem) (by assumption) (by walk_at "om") ?_); k_whole); intro h' M' tk' t' F' N' hM' hMl'; (try k_sweep)))
local macro_rules | `(tactic| walk_at "getMethod ref") => `(tactic| (k_here; (first
  | ((with_reducible show wpAny _ _ (getMethod (Value.ref _) (Str.ofString "get") _) _ _ _); k_dflt ((first | refine' dI_get_m (by k_asm) (by k_mem) (by assumption) ?_ | refine' kv_get_m (by k_asm) (by k_mem) (by assumption) ?_); k_whole))
  | ((with_reducible show wpAny _ _ (getMethod (Value.ref _) (Str.ofString "pop") _) _ _ _); k_dflt (refine' dI_pop_m (by k_asm) (by k_mem) (by assumption) ?_; k_whole)))))
local macro_rules | `(tactic| walk_at "call builtin:dict.get") => `(tactic| (k_here; (first
  | ((with_reducible show wpAny _ _ (call (Value.builtin _) [Value.ref _, Value.int _ _, Value.int _ _]) _ _ _); k_dflt (refine' dI_get2 (by k_asm) (by k_mem) (by assumption) (by assumption) ?_; k_whole); intro t')
  | ((with_reducible show wpAny _ _ (call (Value.builtin _) [Value.ref _, Value.int _ _]) _ _ _); k_dflt (refine' kv_get1 (by k_asm) (by k_mem) (by assumption) (by assumption) (by assumption) ?_; k_whole)))))
local macro_rules | `(tactic| walk_at "call builtin:dict.pop") => `(tactic| (k_here; (with_reducible show wpAny _ _ (call (Value.builtin _) [Value.ref _, Value.int _ _]) _ _ _); k_dflt (refine' dI_pop (by k_asm) (by k_asm) (by assumption) (by k_updF) (by assumption) (by walk_at "om") ?_; k_whole); intro h' o' t' F' N' hd'; (try dsimp only at N'); (try k_sweep)))
section --T_Merged
open PySem PySem.W PyProof.Rows PySem.Spec PySem.Calls
noncomputable def mergeC : List Coin → List Coin → List Coin
  | [], ps => ps
  | c :: cs, [] => c :: cs
  | c :: cs, p :: ps => if c.1 ≤ p.1 then c :: mergeC cs (p :: ps) else p :: mergeC (c :: cs) ps
termination_by cs ps => cs.length + ps.length
theorem mergeC_nil (xs : List Coin) : mergeC xs [] = xs := by cases xs <;> simp [mergeC]
theorem mergeC_take1 {xs ys : List Coin} {i j : Nat} (hi : i < xs.length) (h : ys.length ≤ j ∨ ∃ hj : j < ys.length, (xs[i]'hi).1 ≤ (ys[j]'hj).1) : mergeC (xs.drop i) (ys.drop j) = xs[i]'hi :: mergeC (xs.drop (i + 1)) (ys.drop j) := by
  rw [List.drop_eq_getElem_cons hi]
  rcases h with h | ⟨hj, hle⟩
  · rw [List.drop_of_length_le h, mergeC_nil, mergeC_nil]
  · rw [List.drop_eq_getElem_cons hj, mergeC, if_pos hle]
theorem mergeC_take2 {xs ys : List Coin} {i j : Nat} (hj : j < ys.length) (h : xs.length ≤ i ∨ ∃ hi : i < xs.length, ¬ (xs[i]'hi).1 ≤ (ys[j]'hj).1) : mergeC (xs.drop i) (ys.drop j) = ys[j]'hj :: mergeC (xs.drop i) (ys.drop (j + 1)) := by
  rw [List.drop_eq_getElem_cons hj]
  rcases h with h | ⟨hi, hle⟩
  · rw [List.drop_of_length_le h, mergeC, mergeC]
  · rw [List.drop_eq_getElem_cons hi, mergeC, if_neg hle]
theorem sub_mem {sub news : Led} {p : Addr × Obj} (hp : p ∈ sub) (h : ∀ p ∈ sub, p ∈ news) : p ∈ news := h p hp
local macro_rules | `(tactic| k_mem) => `(tactic| first | assumption | (exact sub_mem (by assumption) (by assumption)) | exact List.mem_cons_self | (refine List.mem_cons_of_mem _ ?_; k_mem))
set_option maxRecDepth 100000 in
set_option maxHeartbeats 2000000 in
theorem merged_telS (w : World) {a1 b1 : Addr} {xs ys : List Coin} {sub news : Led} (ha : DatIn sub (.ref a1) (csD xs)) (hb : DatIn sub (.ref b1) (csD ys)) (hsn : ∀ p ∈ sub, p ∈ news) (ok1 : xs.length ≤ 1000) (ok2 : ys.length ≤ 1000) :
    Tel w 65 1 [.ref a1, .ref b1] news (PostS sub news (csD (mergeC xs ys))) := by
  w_top off
  unfold Tel
  k_fill
  intro mean mg mb dp un gd cn cs a ccd cl outer A₀ base h₀ L m s Q E B F X N T hk hd hu hret
  (have hJ32 := datList ha; (first | with_reducible refine el2_2 hJ32 ?_ | refine el2_2 hJ32 ?_); clear hJ32; rintro va na hma hda)
  (have hJ33 := datList hb; (first | with_reducible refine el2_2 hJ33 ?_ | refine el2_2 hJ33 ?_); clear hJ33; rintro vb nb hmb hdb)
  replace hma := hsn _ hma
  replace hmb := hsn _ hmb
  have la := hda.length
  have lb := hdb.length
  simp only [List.length_map] at la lb
  refine wpAny_call ?_
  k_dflt ktr_enter
  rename Fr _ _ _ _ => F1
  have F2 : Fr _ _ _ (fun y => List.lookup y [(Str.ofString "packs", Value.ref b1), (Str.ofString "coins", Value.ref a1)]) := F1
  clear F1
  repeat' (first | (k_unfold; (try dsimp only)) | (k_end; wrow_close) | ((fail_if_success (with_reducible show wpAny _ _ (exec (Stmt.While _ _ _ _) _) _ _ _)); first | walk1 | (dsimp only; walk1)) | (leave1; walk_say "STEP leave1"; try dsimp only) | fail "no step")
  rename Fr _ _ _ _ => F3
  rename News _ _ _ _ => N3
  rename_i lf hp1 l1a hp2 tk1 D1 hp3 l1b hp4 hp5 hp6
  refine While_inv2 (news := (lf, listOf #[] 0) :: news) (n₀ := xs.length + ys.length) (fun n m nx => ∃ (i j : Nat) (pre : List Coin) (vf : List Value) (nf : Nat) (t1 t2 : Tok), nx = (lf, listOf vf.toArray nf) :: news ∧
      m = (fun y => if y = Str.ofString "to" then some (Value.int j t2) else if y = Str.ofString "at" then some (Value.int i t1) else if y = Str.ofString "found" then some (Value.ref lf) else List.lookup y [(Str.ofString "packs", Value.ref b1), (Str.ofString "coins", Value.ref a1)]) ∧
      i ≤ xs.length ∧ j ≤ ys.length ∧ DatAll sub vf (pre.map cD) ∧ pre ++ mergeC (xs.drop i) (ys.drop j) = mergeC xs ys ∧ pre.length = i + j ∧ n = xs.length - i + (ys.length - j)) F3 (fun p hp => N3 p (.tail _ hp)) ⟨0, 0, [], [], 0, _, _, rfl, rfl, by simp, by simp, .nil, by simp, rfl, by simp⟩ ?turn
  (rintro n m₁ nx h tk F4 N4 hJ34; (first | with_reducible refine el7_8 hJ34 ?_ | refine el7_8 hJ34 ?_); clear hJ34; rintro i j pre vf nf t1 t2 rfl rfl hi hj hpre hmer hlen hn)
  clear F3 N3
  have hvf := hpre.length
  rw [List.length_map] at hvf
  have hsz := fits_of (us := vf) (by (first | lia | omega))
  (try k_fold)
  repeat' (first | (k_unfold; (try dsimp only)) | (k_end; wrow_close) | walk1 | (dsimp only; walk1) | (leave1; walk_say "STEP leave1"; try dsimp only) | fail "no step")
  all_goals (try simp only [List.push_toArray] at *)
  case' _ => skip
  all_goals first
    | (refine ⟨_, _, _, _, _, rfl, by assumption, by assumption, ?lt, i + 1, j, pre ++ [xs[i]'(by (first | lia | omega))], _, _, _, _, rfl, fm_swap (by decide), by (first | lia | omega), hj, ?dat, ?mer, ?len, rfl⟩
       case lt => first | exact dec1 hn (by (first | lia | omega)) | exact dec2 hn (by (first | lia | omega)) | lia | omega
       case dat => rw [List.map_append]; exact hpre.append (DatAll.one (by assumption))
       case mer => rw [List.append_assoc, ← hmer, mergeC_take1 (by (first | lia | omega)) (by first | exact .inl (by (first | lia | omega)) | exact .inr ⟨by (first | lia | omega), by assumption⟩)]; rfl
       case len => rw [List.length_append, hlen]; simp; (first | lia | omega))
    | (refine ⟨_, _, _, _, _, rfl, by assumption, by assumption, ?lt, i, j + 1, pre ++ [ys[j]'(by (first | lia | omega))], _, _, _, _, rfl, fm_same, hi, by (first | lia | omega), ?dat, ?mer, ?len, rfl⟩
       case lt => first | exact dec1 hn (by (first | lia | omega)) | exact dec2 hn (by (first | lia | omega)) | lia | omega
       case dat => rw [List.map_append]; exact hpre.append (DatAll.one (by assumption))
       case mer => rw [List.append_assoc, ← hmer, mergeC_take2 (by (first | lia | omega)) (by first | exact .inl (by (first | lia | omega)) | exact .inr ⟨by (first | lia | omega), by assumption⟩)]; rfl
       case len => rw [List.length_append, hlen]; simp; (first | lia | omega))
    | (refine hret _ _ _ _ (by assumption) (by assumption) ⟨[(lf, listOf vf.toArray nf)], rfl, ?_, (show DatIn ((lf, listOf vf.toArray nf) :: sub) _ _ from .list (.head _) (DatAll.mono (fun p hp => .tail _ hp) (?_ : DatAll sub vf _)))⟩
       · intro p hp q hq; rw [List.mem_singleton.mp hp]; exact Nat.ne_of_lt (l1a q hq)
       · have e1 : xs.drop i = [] := List.drop_of_length_le (by (first | lia | omega))
         have e2 : ys.drop j = [] := List.drop_of_length_le (by (first | lia | omega))
         rw [e1, e2, mergeC, List.append_nil] at hmer
         rw [← hmer]; exact hpre)
    | skip
  all_goals first
    | (rename Fr _ _ _ _ => F9
       rename News _ _ _ _ => N9
       have hi2 : i < xs.length := by (first | lia | omega)
       have hd : ys.length ≤ j ∨ ∃ hj : j < ys.length, (xs[i]'hi2).1 ≤ (ys[j]'hj).1 := by first | exact .inl (by (first | lia | omega)) | exact .inr ⟨by (first | lia | omega), by assumption⟩
       refine ⟨_, _, _, _, _, rfl, F9, N9, ?lt, i + 1, j, pre ++ [xs[i]'hi2], _, _, _, _, rfl, fm_swap (by decide), by (first | lia | omega), hj, ?dat, ?mer, ?len, rfl⟩
       case lt => first | exact dec1 hn (by (first | lia | omega)) | exact dec2 hn (by (first | lia | omega)) | lia | omega
       case dat => rw [List.map_append]; exact hpre.append (DatAll.one (by assumption))
       case mer => rw [List.append_assoc, ← hmer, mergeC_take1 hi2 hd]; rfl
       case len => rw [List.length_append, hlen]; simp; (first | lia | omega))
    | (rename Fr _ _ _ _ => F9
       rename News _ _ _ _ => N9
       have hj2 : j < ys.length := by (first | lia | omega)
       have hd : xs.length ≤ i ∨ ∃ hi : i < xs.length, ¬ (xs[i]'hi).1 ≤ (ys[j]'hj2).1 := by first | exact .inl (by (first | lia | omega)) | exact .inr ⟨by (first | lia | omega), by assumption⟩
       refine ⟨_, _, _, _, _, rfl, F9, N9, ?lt, i, j + 1, pre ++ [ys[j]'hj2], _, _, _, _, rfl, fm_same, hi, by (first | lia | omega), ?dat, ?mer, ?len, rfl⟩
       case lt => first | exact dec1 hn (by (first | lia | omega)) | exact dec2 hn (by (first | lia | omega)) | lia | omega
       case dat => rw [List.map_append]; exact hpre.append (DatAll.one (by assumption))
       case mer => rw [List.append_assoc, ← hmer, mergeC_take2 hj2 hd]; rfl
       case len => rw [List.length_append, hlen]; simp; (first | lia | omega))
    | (exfalso; (first | lia | omega))end --T_Merged

section --T_Packed
local macro_rules | `(tactic| walk_at "pad 1") => `(tactic| fail)
open PySem PySem.W PyProof.Rows PySem.Spec PySem.Calls
noncomputable def packC : List Coin → List Coin
  | a :: b :: r => (a.1 + b.1, a.2 ++ b.2) :: packC r
  | _ => []
theorem packC_length : ∀ xs : List Coin, (packC xs).length = xs.length / 2
  | [] => rfl
  | [_] => by simp [packC]
  | a :: b :: r => by simp [packC, packC_length r]; (first | lia | omega)
theorem packC_take : ∀ (xs : List Coin) (i : Nat) (h : 2 * i + 1 < xs.length), packC (xs.take (2 * (i + 1))) = packC (xs.take (2 * i)) ++ [((xs[2 * i]'(by (first | lia | omega))).1 + (xs[2 * i + 1]'h).1, (xs[2 * i]'(by (first | lia | omega))).2 ++ (xs[2 * i + 1]'h).2)]
  | [], i, h => by simp at h
  | [_], i, h => by simp at h
  | a :: b :: r, 0, h => by simp [packC]
  | a :: b :: r, i + 1, h => by
    have e1 : 2 * (i + 1 + 1) = 2 * (i + 1) + 1 + 1 := by (first | lia | omega)
    have e2 : 2 * (i + 1) = 2 * i + 1 + 1 := by (first | lia | omega)
    have h' : 2 * i + 1 < r.length := by simp at h; (first | lia | omega)
    have ih := packC_take r i h'
    simp only [e1, List.take_succ_cons, packC]
    rw [ih]
    simp only [e2, List.take_succ_cons, packC, List.cons_append, List.getElem_cons_succ]
theorem packC_all : ∀ xs : List Coin, packC (xs.take (2 * (xs.length / 2))) = packC xs
  | [] => by simp [packC]
  | [_] => by simp [packC]
  | a :: b :: r => by
    have e : 2 * ((a :: b :: r).length / 2) = 2 * (r.length / 2) + 1 + 1 := by simp; (first | lia | omega)
    rw [e]
    simp only [List.take_succ_cons, packC, packC_all r]
local macro_rules | `(tactic| k_mem) => `(tactic| first | assumption | (exact sub_memP (by assumption) (by assumption)) | exact List.mem_cons_self | (refine List.mem_cons_of_mem _ ?_; k_mem))
set_option maxRecDepth 100000 in
set_option maxHeartbeats 1000000 in
theorem packed_telS (w : World) {a1 : Addr} {xs : List Coin} {sub news : Led} (ha : DatIn sub (.ref a1) (csD xs)) (hsn : ∀ p ∈ sub, p ∈ news) (ok1 : xs.length ≤ 1000) (ok2 : ∀ c ∈ xs, c.2.length ≤ 1000) :
    Tel w 72 1 [.ref a1] news (PostS sub news (csD (packC xs))) := by
  w_top off
  unfold Tel
  k_fill
  intro mean mg mb dp un gd cn cs a ccd cl outer A₀ base h₀ L m s Q E B F X N T hk hd hu hret
  (have hJ35 := datList ha; (first | with_reducible refine el2_2 hJ35 ?_ | refine el2_2 hJ35 ?_); clear hJ35; rintro va na hma hda)
  replace hma := hsn _ hma
  have la := hda.length
  simp only [List.length_map] at la
  refine wpAny_call ?_
  k_dflt ktr_enter
  rename Fr _ _ _ _ => F1
  have F2 : Fr _ _ _ (fun y => List.lookup y [(Str.ofString "coins", Value.ref a1)]) := F1
  clear F1
  repeat' (first | (k_unfold; (try dsimp only)) | (k_end; wrow_close) | ((fail_if_success (with_reducible show wpAny _ _ (pyIter _) _ _ _)); first | walk1 | (dsimp only; walk1)) | (leave1; walk_say "STEP leave1"; try dsimp only) | fail "no step")
  rename IsRange _ _ _ _ _ _ _ _ => rgX
  rename Fr _ _ _ _ => F3
  rename News _ _ _ _ => N3
  rename_i lf h2 l1a h3 F9 N9 h4 tk4 t4 u4 v4 hk5
  refine my_range (xs.length / 2) (fun i m nx => ∃ (u : Str → Option Value) (vf : List Value) (nf : Nat) (tl : Led), m = (fun y => if y = Str.ofString "found" then some (.ref lf) else if y = Str.ofString "coins" then some (.ref a1) else u y) ∧
    nx = (lf, listOf vf.toArray nf) :: (tl ++ news) ∧ (∀ p ∈ tl, ∀ q ∈ news, q.1 < p.1) ∧ (∀ p ∈ tl, lf < p.1) ∧ DatAll (tl ++ sub) vf ((packC (xs.take (2 * i))).map cD)) rfl rgX (small_two (by (first | lia | omega))) (size_two _) F3 N3 ⟨_, [], 0, [], fmH2 rfl rfl, rfl, by simp, by simp, .nil⟩ ?turn ?done
  case done =>
    (rintro m₁ nx h tk hJ36; (first | with_reducible refine el4_5 hJ36 ?_ | refine el4_5 hJ36 ?_); clear hJ36; rintro u vf nf tl rfl rfl h5 h6 h7)
    rintro F4 N4
    clear F3 N3
    (try k_fold)
    repeat' (first | (k_unfold; (try dsimp only)) | (k_end; wrow_close) | walk1 | (dsimp only; walk1) | (leave1; walk_say "STEP leave1"; try dsimp only) | fail "no step")
    rename Fr h₀ L _ m => kF
    rename News h₀ L _ _ => kN
    refine hret _ _ _ _ kF kN ⟨(lf, _) :: tl, rfl, ?_, .list (.head _) (DatAll.mono (fun p hp => .tail _ hp) (?_ : DatAll (tl ++ sub) vf _))⟩
    · intro p hp q hq
      rcases List.mem_cons.mp hp with rfl | hp
      · exact Nat.ne_of_lt (l1a q hq)
      · exact Nat.ne_of_lt (h5 p hp q hq)
    · rw [packC_all] at h7; exact h7
  case turn =>
    (rintro i t m₁ nx h tk own hi hown hJ37; (first | with_reducible refine el4_5 hJ37 ?_ | refine el4_5 hJ37 ?_); clear hJ37; rintro u vf nf tl rfl rfl h5 h6 h7)
    rintro F4 N4
    clear F3 N3
    have e2 : (0 : Int) + (i : Int) * 2 = ((2 * i : Nat) : Int) := by (first | lia | omega)
    rw [e2] at F4
    have hvf := h7.length
    rw [List.length_map, packC_length, List.length_take] at hvf
    have hsz := fits_of (us := vf) (by (first | lia | omega))
    have hi0 : 2 * i < xs.length := by (first | lia | omega)
    have hi1 : 2 * i + 1 < xs.length := by (first | lia | omega)
    have z0 := ok2 _ (List.getElem_mem hi0)
    have z1 := ok2 _ (List.getElem_mem hi1)
    rw [List.cons_append] at N4
    obtain ⟨rest, hrest⟩ : ∃ rest, rest = tl ++ news ++ own := ⟨_, rfl⟩
    rw [← hrest] at N4
    have hma' : (a1, listOf va.toArray na) ∈ rest := by rw [hrest]; simp [hma]
    have hda' : DatAll rest va (xs.map cD) := DatAll.mono (fun p hp => by rw [hrest]; simp [hsn _ hp]) hda
    have hne := rest_ne hrest h6 l1a hown
    (try k_fold)
    repeat' (first | (k_unfold; (try dsimp only)) | (k_end; wrow_close) | walk1 | (dsimp only; walk1) | (leave1; walk_say "STEP leave1"; try dsimp only) | fail "no step")
    simp only [List.push_toArray] at *
    rename Fr _ _ _ _ => F9
    rename News _ _ _ _ => N9
    have hsub : ∀ p ∈ tl ++ news, p ∈ rest := by intro p hp; rw [hrest]; exact List.mem_append.mpr (.inl hp)
    rename IntsAre _ _ => hI
    repeat (rename _ ∧ _ => hc9; cases hc9)
    refine acc_end3 F9 N9 hown hrest (tb_ltOf (by assumption)) (tb_ltOf (by assumption)) (tb_ltOf (by assumption)) ⟨_, vf ++ [_], nf + 1, _ :: _ :: _ :: tl, fmH2 rfl rfl, rfl, ?_, ?_, ?_⟩
    · simp only [List.forall_mem_cons]
      exact ⟨fun q hq => tb_ltOf (by assumption) q (by rw [hrest]; simp [hq]), fun q hq => tb_ltOf (by assumption) q (by rw [hrest]; simp [hq]), fun q hq => tb_ltOf (by assumption) q (by rw [hrest]; simp [hq]), h5⟩
    · simp only [List.forall_mem_cons]
      exact ⟨by assumption, by assumption, by assumption, h6⟩
    · rw [packC_take _ _ hi1, List.map_append]
      exact (h7.mono (fun p hp => .tail _ (.tail _ (.tail _ hp)))).append (.one (.tuple (.head _) (.cons (.int _ _) (.cons (.list (.tail _ (.head _)) (dat_ints hI)) .nil))))
end --T_Packed

section --T_Take
open PySem PySem.W PyProof.Rows PySem.Spec PySem.Calls
/-- the two cells that numbers are drawn from -/
noncomputable def Src (src : Addr) (rest news' : Led) : Prop := ∃ (a' b' : Int) (t' u' : Tok) (n' : Nat), news' = (src, listOf #[.int a' t', .int b' u'] n') :: rest ∧ 0 ≤ a' ∧ 0 ≤ b' ∧ b' < 2147483647
set_option maxRecDepth 100000 in
set_option maxHeartbeats 4000000 in
theorem take_tel (w : World) {src : Addr} {a b top : Int} {t u v : Tok} {n : Nat} {rest : Led} (h1 : 0 ≤ a) (h2 : 0 ≤ b) (h3 : b < 2147483647) (h4 : 1 ≤ top) (h5 : top ≤ 1000) (h6 : ∀ p ∈ rest, p.1 ≠ src) :
    Tel w 152 1 [.ref src, .int top v] ((src, listOf #[.int a t, .int b u] n) :: rest) (fun r news' => ∃ (d : Int) (td : Tok), r = .int d td ∧ 0 ≤ d ∧ d < top ∧ Src src rest news') := by
  w_top off
  unfold Tel
  k_fill
  intro mean mg mb dp un gd cn cs a ccd cl outer A₀ base h₀ L m s Q E B F X N T hk hd hu hret
  have b1 : 0 ≤ (b * 39373 + 7).fmod 2147483647 := Int.fmod_nonneg_of_pos _ (by decide)
  have b2 : (b * 39373 + 7).fmod 2147483647 < 2147483647 := Int.fmod_lt_of_pos _ (by decide)
  refine wpAny_call ?_
  k_dflt ktr_enter
  rename Fr _ _ _ _ => F1
  have F2 : Fr _ _ _ (fun y => List.lookup y [(Str.ofString "top", .int top v), (Str.ofString "source", Value.ref src)]) := F1
  clear F1
  (try k_fold)
  repeat' (first | (k_unfold; (try dsimp only)) | (k_end; wrow_close) | ((fail_if_success (with_reducible show wpAny _ _ (pyIter _) _ _ _)); first | walk1 | (dsimp only; walk1)) | (leave1; walk_say "STEP leave1"; try dsimp only) | fail "no step")
  all_goals
    (rename Fr h₀ L _ m => kF
     rename News h₀ L _ _ => kN
     refine hret _ _ _ _ kF kN ⟨_, _, rfl, Int.fmod_nonneg_of_pos _ (by (first | lia | omega)), Int.fmod_lt_of_pos _ (by (first | lia | omega)), _, _, _, _, _, rfl, ?_, by assumption, by assumption⟩
     first | assumption | exact Int.fdiv_nonneg (by assumption) (by (first | lia | omega)))
end --T_Take

section --T_Worth
open PySem PySem.W PyProof.Rows PySem.Spec PySem.Calls
noncomputable def usedP (D : List Pr) : List Pr := (D.filter fun p => decide (p.2 > 0)).map fun p => (p.2, -p.1)
theorem usedP_take {D : List Pr} {i : Nat} {k v : Int} (h : D[i]? = some (k, v)) : usedP (D.take (i + 1)) = usedP (D.take i) ++ (if 0 < v then [(v, -k)] else []) := by
  unfold usedP
  rw [List.take_add_one, h]
  simp only [Option.toList, List.filter_append, List.map_append]
  by_cases hv : 0 < v
  · simp [hv]
  · simp [hv]
theorem usedP_nodup {D : List Pr} (h : (D.map (·.1)).Nodup) : (usedP D).Nodup := by
  unfold usedP
  induction D with
  | nil => simp
  | cons p D ih =>
    simp only [List.map_cons, List.nodup_cons] at h
    by_cases hp : p.2 > 0
    · rw [List.filter_cons_of_pos (by simpa using hp), List.map_cons, List.nodup_cons]
      refine ⟨fun hm => ?_, ih h.2⟩
      obtain ⟨q, hq, e⟩ := List.mem_map.mp hm
      refine h.1 (List.mem_map.mpr ⟨q, (List.mem_filter.mp hq).1, ?_⟩)
      have := congrArg Prod.snd e
      simp only at this; (first | lia | omega)
    · rw [List.filter_cons_of_neg (by simpa using hp)]; exact ih h.2
set_option maxRecDepth 100000 in
set_option maxHeartbeats 1000000 in
theorem worth_tel (w : World) {a1 : Addr} {D : List (Int × Int)} {news : Led} {o : Obj} (ha : (a1, o) ∈ news) (hD : DictI PySem.Challenge.rw_ok0135_01.row.prog w o D) (lo : (a1 == sysModules) = false) (ok1 : D.length ≤ 5) :
    Tel w 77 1 [.ref a1] news (fun r news' => ∃ P' : List Pr, P'.Perm (usedP D) ∧ P'.Pairwise (fun a b => lt2 a b = true) ∧ PostD news (csD (P'.map fun p => (p.1, [-p.2]))) r news') := by
  w_top off
  unfold Tel
  k_fill
  intro mean mg mb dp un gd cn cs a ccd cl outer A₀ base h₀ L m s Q E B F X N T hk hd hu hret
  refine wpAny_call ?_
  k_dflt (refine' code_defC ?k1 ?k2 ?k3 ?k4 ?k5 ?kA ?kF ?kK ?k6 ?k7 ?k8 ?k9 ?kB ?kD ?_ ?c2 ?c3 ?c4; (case kA => exact rfl); (case kF => exact rfl); (case kK => assumption); (case k1 => k_asm); (case k2 => k_asm); (case k3 => k_asm); (case k4 => k_asm); (case k5 => k_asm); (case k6 => k_is); (case k7 => k_is); (case k8 => ktr_room); (case k9 => exact BindsTo.of_eq rfl); (case kB => exact rfl); (case kD => decide +kernel); (case c2 => exact rfl); (case c3 => exact rfl); (case c4 => exact rfl); k_whole; intro g' L' h' tk' cells' FG' F' N' Y' B' X' T' l1; (try k_lt l1); k_cells Y'; (try simp only [List.cons_append, List.nil_append] at N'); (try dsimp only); (try k_fold))
  rename Fr _ _ _ _ => F1
  have F2 : Fr _ _ _ (fun _ => none) := F1
  clear F1
  (try k_fold)
  repeat' (first | (k_unfold; (try dsimp only)) | (k_end; wrow_close) | walk1 | (dsimp only; walk1) | (leave1; walk_say "STEP leave1"; try dsimp only) | fail "no step")
  rename Fr _ _ _ _ => F3
  rename News _ _ _ _ => N3
  obtain ⟨base, hbase⟩ : ∃ b : Led, b = (_ :: news) ∧ News _ _ _ b := ⟨_, rfl, N3⟩
  obtain ⟨hb, N4⟩ := hbase
  clear N3
  have hab : (a1, o) ∈ base := by rw [hb]; exact .tail _ ha
  refine srcT_dict rfl F3 N4 hab lo hD (by (first | lia | omega)) (fun i ys nw => Grown base nw ∧ DatAll nw ys ((usedP (D.take i)).map pD)) ⟨.refl _, .nil⟩ ?turn ?fin
  case turn =>
    rintro i ys nw v I oI C oC D' m₂ h tk E' hi ⟨hg, h7⟩ hJ30
    refine el3_2 hJ30 ?_
    clear hJ30
    rintro k v t rfl hDi hC hx F5 N5 off ne hS
    have hlk : look D k = some v := look_of_mem hD.nodup (List.mem_of_getElem? hDi)
    have hab' : (a1, o) ∈ nw := hg.sub _ hab
    obtain ⟨oc, hoc, hcell⟩ : ∃ oc : Obj, (L' + 1, oc) ∈ nw ∧ oc.data = .cell (some (.ref a1)) := ⟨_, hg.sub _ (by rw [hb]; exact .head _), by assumption⟩
    (try k_fold)
    repeat' (first | (k_unfold; (try dsimp only)) | (k_end; wrow_close) | walk1 | (dsimp only; walk1) | (leave1; walk_say "STEP leave1"; try dsimp only) | fail "no step")
    rename Fr _ _ _ _ => F9
    rename News _ _ _ _ => N9
    · (repeat (rename _ ∧ _ => hc9; cases hc9))
      refine cend_1 F9 N9 off hS (by assumption) (by assumption) (by assumption) ⟨hg.cons (hg.lt (by assumption)), ?_⟩
      · rw [usedP_take hDi, if_pos (by assumption), List.map_append]
        exact (h7.mono fun p hp => .tail _ hp).append (.one (.tuple (.head _) (.cons (.int _ _) (.cons (.int _ _) .nil))))
    · refine cend_0 F5 N5 off hS ⟨hg, ?_⟩
      rw [usedP_take hDi, if_neg (by assumption), List.append_nil]
      exact h7
  case fin =>
    rintro g ys nw ⟨hg, h7⟩ hS
    rw [List.take_length] at h7
    have hnd := usedP_nodup hD.nodup
    have hul : (usedP D).length ≤ 5 := by unfold usedP; rw [List.length_map]; exact Nat.le_trans (List.length_filter_le _ _) ok1
    unfold LCg.FinE
    intro D1 h tk F5 N5 o1
    clear F3 N4
    (try k_fold)
    repeat' (first | (k_unfold; (try dsimp only)) | (k_end; wrow_close) | walk1 | (dsimp only; walk1) | (leave1; walk_say "STEP leave1"; try dsimp only) | fail "no step")
    rename Fr _ L' _ _ => F6
    rename News _ L' _ _ => N6
    (repeat (rename _ ∧ _ => hc9; cases hc9))
    rename List Pr => P'
    rename List.Perm _ _ => hperm
    have hlu := (show DatAll _ _ (List.map pD P') by assumption).length
    rw [List.length_map, hperm.length_eq] at hlu
    obtain ⟨base2, hb2⟩ : ∃ b : Led, b = _ ∧ News _ _ _ b := ⟨_, rfl, N6⟩
    obtain ⟨hb2, N7⟩ := hb2
    have hg2 : Grown nw base2 := by rw [hb2]; exact ((Grown.refl _).consN (off1_mem o1)).cons (tb_ltOf (by assumption))
    refine srcP_list rfl F6 N7 (by rw [hb2]; exact .head _) (by (first | lia | omega)) (fun i ys nw2 => Grown base2 nw2 ∧ DatAll nw2 ys (((P'.take i).map fun p => ((p.1, [-p.2]) : Coin)).map cD)) ⟨.refl _, .nil⟩ ?turn2 ?fin2
    case turn2 =>
      rintro i ys2 nw2 v hi ⟨hg3, h8⟩ hv hS2
      obtain ⟨v', hv', hdv⟩ := (show DatAll _ _ (List.map pD P') by assumption).get (k := i) (by rw [List.length_map, hperm.length_eq]; (first | lia | omega))
      rw [hv] at hv'
      cases hv'
      rw [List.getElem_map] at hdv
      have hiP : i < P'.length := by rw [hperm.length_eq]; (first | lia | omega)
      have hJ31 := pD_inv hdv
      refine el4_2 hJ31 ?_
      clear hJ31
      rintro ta tt tu tn rfl hta
      refine ⟨ta, _, _, tn, rfl, (hg2.trans hg3).sub _ hta, ?_⟩
      intro I oI C oC D9 m₂ h tk E' hC hx hx2 F8 N8 off ne
      (try k_fold)
      repeat' (first | (k_unfold; (try dsimp only)) | (k_end; wrow_close) | walk1 | (dsimp only; walk1) | (leave1; walk_say "STEP leave1"; try dsimp only) | fail "no step")
      rename Fr _ _ _ _ => F9
      rename News _ _ _ _ => N9
      (repeat (rename _ ∧ _ => hc9; cases hc9))
      refine cend_2 F9 N9 off hS2 (by assumption) (by assumption) (by assumption) (by assumption) (by assumption) (by assumption) ⟨(hg3.cons (hg3.lt (by assumption))).cons (hg3.lt (by assumption)), ?_⟩
      rw [List.take_add_one, List.getElem?_eq_getElem hiP]
      simp only [Option.toList, List.map_append, List.map_cons, List.map_nil]
      exact (h8.mono fun p hp => .tail _ (.tail _ hp)).append (.one (.tuple (.head _) (.cons (.int _ _) (.cons (.list (.tail _ (.head _)) (.cons (.int _ _) .nil)) .nil))))
    case fin2 =>
      rintro g2 ys2 nw2 ⟨hg3, h8⟩ hS2
      rw [List.take_of_length_le (by rw [hperm.length_eq]; (first | lia | omega))] at h8
      unfold LCg.FinE
      intro D2 h9 tk9 F9 N9 o2
      (try k_fold)
      repeat' (first | (k_unfold; (try dsimp only)) | (k_end; wrow_close) | walk1 | (dsimp only; walk1) | (leave1; walk_say "STEP leave1"; try dsimp only) | fail "no step")
      rename Fr h₀ L _ m => kF
      rename News h₀ L _ _ => kN
      have hg0 : Grown news base := by rw [hb]; exact (Grown.refl _).cons fun q hq => Nat.lt_succ_of_lt (l1 q hq)
      have hga := ((hg0.trans hg).trans hg2).trans hg3
      exact hret _ _ _ _ kF kN ⟨P', hperm, by assumption, PostD.of (hga.consN fun q hq => off1_mem o2 q (hga.sub q hq)) (.list (.head _) (h8.mono fun p hp => .tail _ hp))⟩
end --T_Worth

section --T_Table
open PySem PySem.W PyProof.Rows PySem.Spec PySem.Calls
noncomputable def cts (D : List Pr) : List Int := (List.range 16).map fun (j : Nat) => ((D.countP fun p => decide (p.2 = (j : Int) + 1) : Nat) : Int)
theorem cts_len (D : List Pr) : (cts D).length = 16 := by simp [cts]
theorem cts_step {D : List Pr} {i : Nat} {k v : Int} (h : D[i]? = some (k, v)) (h1 : 1 ≤ v) (h2 : v ≤ 16) : cts (D.take (i + 1)) = (cts (D.take i)).set (v - 1).toNat ((cts (D.take i)).getD (v - 1).toNat 0 + 1) := by
  apply List.ext_getElem
  · simp [cts]
  · intro j hj1 hj2
    have hj : j < 16 := by simpa [cts] using hj1
    rw [List.take_add_one, h]
    simp only [Option.toList, List.getElem_set, cts, List.getElem_map, List.getElem_range, List.countP_append]
    by_cases e : (v - 1).toNat = j
    · have e' : v = (j : Int) + 1 := by (first | lia | omega)
      have hlt : (v - 1).toNat < 16 := by (first | lia | omega)
      rw [if_pos e]
      subst e'
      simp [List.getD, hj]
    · have e' : ¬ v = (j : Int) + 1 := by (first | lia | omega)
      rw [if_neg e]
      simp [e']
set_option maxRecDepth 100000 in
set_option maxHeartbeats 1000000 in
theorem table_tel (w : World) {a1 : Addr} {D : List (Int × Int)} {news : Led} {o : Obj} (ha : (a1, o) ∈ news) (hD : DictI PySem.Challenge.rw_ok0135_01.row.prog w o D) (lo : (a1 == sysModules) = false) (ok1 : D.length ≤ 5) (ok2 : ∀ p ∈ D, 1 ≤ p.2 ∧ p.2 ≤ 16) :
    Tel w 89 1 [.ref a1] news (fun r news' => ∃ P' : List Pr, P'.Perm (D.map fun p => (p.2, p.1)) ∧ P'.Pairwise (fun a b => lt2 a b = true) ∧ PostD news (.tuple [.tuple ((cts D).map .int), .tuple (P'.map fun p => .int p.2)]) r news') := by
  w_top off
  unfold Tel
  k_fill
  intro mean mg mb dp un gd cn cs a ccd cl outer A₀ base h₀ L m s Q E B F X N T hk hd hu hret
  refine wpAny_call ?_
  k_dflt (refine' code_defC ?k1 ?k2 ?k3 ?k4 ?k5 ?kA ?kF ?kK ?k6 ?k7 ?k8 ?k9 ?kB ?kD ?_ ?c2 ?c3 ?c4; (case kA => exact rfl); (case kF => exact rfl); (case kK => assumption); (case k1 => k_asm); (case k2 => k_asm); (case k3 => k_asm); (case k4 => k_asm); (case k5 => k_asm); (case k6 => k_is); (case k7 => k_is); (case k8 => ktr_room); (case k9 => exact BindsTo.of_eq rfl); (case kB => exact rfl); (case kD => decide +kernel); (case c2 => exact rfl); (case c3 => exact rfl); (case c4 => exact rfl); k_whole; intro g' L' h' tk' cells' FG' F' N' Y' B' X' T' l1; (try k_lt l1); k_cells Y'; (try simp only [List.cons_append, List.nil_append] at N'); (try dsimp only); (try k_fold))
  rename Fr _ _ _ _ => F1
  have F2 : Fr _ _ _ (fun _ => none) := F1
  clear F1
  (try k_fold)
  repeat' (first | (k_unfold; (try dsimp only)) | (k_end; wrow_close) | (fail_if_success (with_reducible show wpAny _ _ (exec (Stmt.For _ _ _ _ _) _) _ _ _)); first | walk1 | (dsimp only; walk1) | (leave1; walk_say "STEP leave1"; try dsimp only) | fail "no step")
  rename Fr _ _ _ _ => F3
  rename News _ _ _ _ => N3
  rename_i oc hcd lz hz1 lzl lc hz2 hiz nz sz e1z e2z e3z lcl hz3
  (try show wpAny _ _ _ _ _ { heap := _, gens := Shared.gens s, drawn := Shared.drawn s, toks := _, os := Shared.os s })
  (try k_fold)
  have hcell : oc.data = .cell (some (.ref a1)) := hcd
  have hJ1 : ∃ b : Led, b = ((lz, listOf #[Value.int 0 tk'] 0) :: (L' + 1, oc) :: news) := ⟨_, rfl⟩
  refine el1_1 hJ1 ?_
  clear hJ1
  rintro base hbase
  rw [← hbase] at N3
  have hab : (a1, o) ∈ base := by rw [hbase]; exact .tail _ (.tail _ ha)
  have hcb : (L' + 1, oc) ∈ base := by rw [hbase]; exact .tail _ (.head _)
  have hlcb : ∀ p ∈ base, p.1 < lc := by
    rw [hbase]; simp only [List.forall_mem_cons]; exact ⟨lcl.1, lcl.2.1, tb_ltOf lcl.2.2⟩
  have hg0 : Grown news base := by rw [hbase]; exact ((Grown.refl _).cons fun q hq => Nat.lt_succ_of_lt (l1 q hq)).cons (tb_ltOf lzl.2)
  clear e1z e2z e3z sz hcd
  refine my_forS g' (by rfl) (by rfl) ?_
  (try k_fold)
  repeat' (first | (k_unfold; (try dsimp only)) | (k_end; wrow_close) | walk1 | (dsimp only; walk1) | (leave1; walk_say "STEP leave1"; try dsimp only) | fail "no step")
  refine for_dict (o := o) (Ds := D) rfl F3 N3 (.tail _ hab) lo hD (fun i m nx => ∃ (us : List Value) (nf : Nat) (u : Str → Option Value), m = (fun y => if y = Str.ofString "counts" then some (.ref lc) else u y) ∧ nx = (lc, listOf us.toArray nf) :: base ∧ IntsAre us (cts (D.take i))) ⟨_, _, _, fmH1 rfl, rfl, hiz⟩ ?turn ?done
  case turn =>
    rintro i v m₁ nx h tk I oI' hi hJ2
    refine el3_2 hJ2 ?_
    clear hJ2
    rintro k v t rfl hDi hJ3
    refine el3_3 hJ3 ?_
    clear hJ3
    rintro us nf u rfl rfl hus hS off F5 N5
    have hlk : look D k = some v := look_of_mem hD.nodup (List.mem_of_getElem? hDi)
    have hv := ok2 _ (List.mem_of_getElem? hDi)
    have hcl := cts_len (D.take i)
    have hul := hus.length
    simp only at hv
    have hIlc : @Ne Nat lc I := off _ (.head _)
    have hbl : ∀ p ∈ base, p.1 ≠ lc := fun p hp => Nat.ne_of_lt (hlcb p hp)
    clear F3 N3
    (try k_fold)
    repeat' (first | (k_unfold; (try dsimp only)) | (k_end; wrow_close) | walk1 | (dsimp only; walk1) | (leave1; walk_say "STEP leave1"; try dsimp only) | fail "no step")
    rename Fr _ _ _ _ => F9
    rename News _ _ _ _ => N9
    refine tend_0 F9 N9 off (fun p hp => by rw [List.mem_singleton.mp hp]; exact hab) ⟨_, nf, _, fmH1 rfl, rfl, ?_⟩
    rw [cts_step hDi hv.1 hv.2]
    assumption
  case done =>
    rintro m₁ nx h tk hJ4
    refine el3_3 hJ4 ?_
    clear hJ4
    rintro us nf u rfl rfl hus hS F5 N5
    rw [List.take_length] at hus
    clear F3 N3
    (try k_fold)
    repeat' (first | (k_unfold; (try dsimp only)) | (k_end; wrow_close) | walk1 | (dsimp only; walk1) | (leave1; walk_say "STEP leave1"; try dsimp only) | fail "no step")
    rename Fr _ _ _ _ => F6
    rename News _ _ _ _ => N6
    have hJ5 : ∃ b : Led, b = ((lc, listOf us.toArray nf) :: base) := ⟨_, rfl⟩
    refine el1_1 hJ5 ?_
    clear hJ5
    rintro base3 hb3
    rw [← hb3] at N6
    have hg3 : Grown base base3 := by rw [hb3]; exact (Grown.refl _).cons hlcb
    have hlc3 : (lc, listOf us.toArray nf) ∈ base3 := by rw [hb3]; exact .head _

    refine srcU_dict (o := o) (Ds := D) rfl F6 N6 (hg3.sub _ hab) lo hD (by (first | lia | omega)) (fun i ys nw => Grown base3 nw ∧ DatAll nw ys (((D.take i).map fun p => ((p.2, p.1) : Pr)).map pD)) ⟨.refl _, .nil⟩ ?turn ?fin
    case turn =>
      rintro i ys nw v I oI C oC D' m₂ h tk E' hi hJ6
      refine el0_2 hJ6 ?_
      clear hJ6
      rintro hg h7 hJ7
      refine el3_2 hJ7 ?_
      clear hJ7
      rintro k v t rfl hDi hC hx F7 N7 off ne hS
      have hlk : look D k = some v := look_of_mem hD.nodup (List.mem_of_getElem? hDi)
      have hab' : (a1, o) ∈ nw := hg.sub _ (hg3.sub _ hab)
      have hoc : (L' + 1, oc) ∈ nw := hg.sub _ (hg3.sub _ hcb)
      clear N6
      (try k_fold)
      repeat' (first | (k_unfold; (try dsimp only)) | (k_end; wrow_close) | walk1 | (dsimp only; walk1) | (leave1; walk_say "STEP leave1"; try dsimp only) | fail "no step")
      rename Fr _ _ _ _ => F9
      rename News _ _ _ _ => N9
      (repeat (rename _ ∧ _ => hc9; have hc8 := And.left hc9; have hc7 := And.right hc9; clear hc9))
      refine cend_1 F9 N9 off hS (by assumption) (by assumption) (by assumption) ⟨hg.cons (hg.lt (by assumption)), ?_⟩
      rw [List.take_add_one, hDi]
      simp only [Option.toList, List.map_append, List.map_cons, List.map_nil]
      exact (h7.mono fun p hp => .tail _ hp).append (.one (.tuple (.head _) (.cons (.int _ _) (.cons (.int _ _) .nil))))
    case fin =>
      rintro g2 ys nw hJ8
      refine el0_2 hJ8 ?_
      clear hJ8
      rintro hg h7 hS
      rw [List.take_length] at h7
      have hnd : (D.map fun p => ((p.2, p.1) : Pr)).Nodup := by
        have hk := hD.nodup
        rw [List.nodup_iff_pairwise_ne, List.pairwise_map] at *
        exact hk.imp fun h e => h (congrArg Prod.snd e)
      have hul : (D.map fun p => ((p.2, p.1) : Pr)).length ≤ 5 := by simpa using ok1
      have hlc4 : (lc, listOf us.toArray nf) ∈ nw := hg.sub _ hlc3
      unfold LCg.FinE
      intro D1 h tk F7 N7 o1
      have hul2 : us.length = 16 := by rw [hus.length, cts_len]
      clear F6 N6
      (try k_fold)
      repeat' (first | (k_unfold; (try dsimp only)) | (k_end; wrow_close) | walk1 | (dsimp only; walk1) | (leave1; walk_say "STEP leave1"; try dsimp only) | fail "no step")
      rename Fr g' L' _ _ => F8
      rename News g' L' _ _ => N8
      rename List Pr => P'
      rename List.Perm _ _ => hperm
      rename_i D3 us3 hp3 e3 _ _ hsd3 hsw3 l3 hp5 D4 hp4 l4
      (try show wpAny _ _ _ _ _ { heap := _, gens := Shared.gens s, drawn := Shared.drawn s, toks := _, os := Shared.os s })
      (try k_fold)
      have hlu := hsd3.length
      rw [List.length_map, hperm.length_eq, List.length_map] at hlu
      have hJ9 : ∃ b : Led, b = ((D4, tupL us 0) :: (D3, listOf us3.toArray e3) :: (D1, LCg.lst ys) :: nw) := ⟨_, rfl⟩
      refine el1_1 hJ9 ?_
      clear hJ9
      rintro base4 hb4
      rw [← hb4] at N8
      have hg4 : Grown nw base4 := by rw [hb4]; exact (((Grown.refl _).consN (off1_mem o1)).cons (tb_ltOf l3.2)).cons (tb_ltOf l4.2.2)
      refine srcP_list rfl F8 N8 (by rw [hb4]; exact .tail _ (.head _)) (by (first | lia | omega)) (fun i ys2 nw2 => Grown base4 nw2 ∧ IntsAre ys2 ((P'.take i).map (·.2))) ⟨.refl _, .nil⟩ ?turn2 ?fin2
      case turn2 =>
        rintro i ys2 nw2 v hi hJ10
        refine el0_2 hJ10 ?_
        clear hJ10
        rintro hg5 h8 hv hS2
        obtain ⟨v', hv', hdv⟩ := hsd3.get (k := i) (by rw [List.length_map, hperm.length_eq, List.length_map]; (first | lia | omega))
        rw [hv] at hv'
        obtain rfl := Option.some.inj hv'
        rw [List.getElem_map] at hdv
        have hiP : i < P'.length := by rw [hperm.length_eq, List.length_map]; (first | lia | omega)
        have hJ11 := pD_inv hdv
        refine el4_2 hJ11 ?_
        clear hJ11
        rintro ta tt tu tn rfl hta
        refine ⟨ta, _, _, tn, rfl, hg5.sub _ (hg4.sub _ hta), ?_⟩
        intro I oI C oC D9 m₂ h tk E' hC hx hx2 F8 N8 off ne
        (try k_fold)
        repeat' (first | (k_unfold; (try dsimp only)) | (k_end; wrow_close) | walk1 | (dsimp only; walk1) | (leave1; walk_say "STEP leave1"; try dsimp only) | fail "no step")
        refine cend_0 F8 N8 off hS2 ⟨hg5, ?_⟩
        rw [List.take_add_one, List.getElem?_eq_getElem hiP, List.map_append]
        exact h8.append (.cons _ _ .nil)
      case fin2 =>
        rintro g2 ys2 nw2 hJ12
        refine el0_2 hJ12 ?_
        clear hJ12
        rintro hg5 h8 hS2
        rw [List.take_of_length_le (by rw [hperm.length_eq, List.length_map]; (first | lia | omega))] at h8
        unfold LCg.FinE
        intro D2 h9 tk9 F9 N9 o2
        have hl8 := h8.length
        rw [List.length_map, hperm.length_eq, List.length_map] at hl8
        clear N8 F8
        (try k_fold)
        repeat' (first | (k_unfold; (try dsimp only)) | (k_end; wrow_close) | walk1 | (dsimp only; walk1) | (leave1; walk_say "STEP leave1"; try dsimp only) | fail "no step")
        rename Fr h₀ L _ m => kF
        rename News h₀ L _ _ => kN
        (repeat (rename _ ∧ _ => hc9; have hc8 := And.left hc9; have hc7 := And.right hc9; clear hc9))
        have hga := (((hg0.trans hg3).trans hg).trans hg4).trans hg5
        refine hret _ _ _ _ kF kN ⟨P', hperm, by assumption, PostD.of (((hga.consN fun q hq => off1_mem o2 q (hga.sub q hq)).cons (hga.lt (by assumption))).cons (hga.lt (by assumption))) (.tuple (.head _) (.cons (.tuple (.tail _ (.tail _ (.tail _ (hg5.sub _ (by rw [hb4]; exact .head _))))) (dat_ints hus)) (.cons (.tuple (.tail _ (.head _)) ?_) .nil)))⟩
        have hd9 : ∀ L9 : Led, DatAll L9 ys2 (P'.map fun p => Dat.int p.2) := fun L9 => by
          have hd8 := dat_ints (L := L9) h8
          rwa [List.map_map] at hd8
        exact hd9 _
end --T_Table

section --T_Rows
open PySem PySem.W PyProof.Rows PySem.Spec PySem.Calls
noncomputable def codeAt (xs : List Int) : Nat → Int
  | 0 => 0
  | i + 1 => (codeAt xs i + xs.getD i 0) * 2
noncomputable def placeAt (xs : List Int) : Nat → Int
  | 0 => 0
  | i + 1 => placeAt xs i + xs.getD i 0
noncomputable abbrev Trip := Int × Int × Int
noncomputable def tD (p : Trip) : Dat := .tuple [.int p.1, .int p.2.1, .int p.2.2]
noncomputable def rowsC (xs : List Int) (n : Nat) : List Trip := (List.range n).map fun i => (codeAt xs i, xs.getD i 0, placeAt xs i)
theorem rowsC_succ (xs : List Int) (i : Nat) : rowsC xs (i + 1) = rowsC xs i ++ [(codeAt xs i, xs.getD i 0, placeAt xs i)] := by simp [rowsC, List.range_succ]
set_option maxRecDepth 100000 in
set_option maxHeartbeats 1000000 in
theorem rows_tel (w : World) {a1 : Addr} {xs : List Int} {news : Led} {us : List Value} {n : Nat} (ha : (a1, tupL us n) ∈ news) (hi : IntsAre us xs) (hl : xs.length = 16)
    (hcode : ∀ i, i < 16 → 0 < xs.getD i 0 → codeAt xs i + xs.getD i 0 < 2 ^ (i + 1)) :
    Tel w 96 1 [.ref a1] news (PostD news (.list ((rowsC xs 16).map tD))) := by
  w_top off
  unfold Tel
  k_fill
  intro mean mg mb dp un gd cn cs a ccd cl outer A₀ base h₀ L m s Q E B F X N T hk hd hu hret
  have la := hi.length
  refine wpAny_call ?_
  k_dflt (refine' code_def ?k1 ?k2 ?k3 ?k4 ?k5 ?kA ?kF ?kK ?k6 ?k7 ?k8 ?k9 ?kB ?_ ?c2 ?c3 ?c4 ?c5; (case kA => exact rfl); (case kF => exact rfl); (case kK => assumption); (case k1 => k_asm); (case k2 => k_asm); (case k3 => k_asm); (case k4 => k_asm); (case k5 => k_asm); (case k6 => k_is); (case k7 => k_is); (case k8 => ktr_room); (case k9 => exact BindsTo.of_eq rfl); (case c5 => decide); (case kB => exact locs rfl); (case c2 => exact rfl); (case c3 => exact rfl); (case c4 => exact rfl); k_whole; intro g' L' h' FG' F' N' B' X' T'; (try dsimp only); (try k_fold))
  rename Fr _ _ _ _ => F1
  have F2 : Fr _ _ _ (fun y => List.lookup y [(Str.ofString "counts", Value.ref a1)]) := F1
  clear F1
  (try k_fold)
  repeat' (first | (k_unfold; (try dsimp only)) | (k_end; wrow_close) | (fail_if_success (with_reducible show wpAny _ _ (exec (Stmt.For _ _ _ _ _) _) _ _ _)); first | walk1 | (dsimp only; walk1) | (leave1; walk_say "STEP leave1"; try dsimp only) | fail "no step")
  refine my_forS g' (by rfl) (by rfl) ?_
  (try k_fold)
  repeat' (first | (k_unfold; (try dsimp only)) | (k_end; wrow_close) | walk1 | (dsimp only; walk1) | (leave1; walk_say "STEP leave1"; try dsimp only) | fail "no step")
  rename IsRange _ _ _ _ _ _ _ _ => rgX
  rename Fr _ _ _ _ => F3
  rename News _ _ _ _ => N3
  rename_i lr hz1 l1 hz2 tk2 D2 hz3 l2 hz4 hz5 hz6 _ _ hz9 tk8 t8 u8 v8 keep8
  (try show wpAny _ _ _ _ _ { heap := _, gens := Shared.gens s, drawn := Shared.drawn s, toks := _, os := Shared.os s })
  (try k_fold)
  have hJ13 : ∃ ob : Obj, News g' L' hz9 ((D2, ob) :: (lr, listOf #[] 0) :: news) := ⟨_, N3⟩
  refine el1_1 hJ13 ?_
  clear hJ13
  rintro ob N4
  have N5 : News g' L' hz9 ((lr, listOf ([] : List Value).toArray 0) :: (D2, ob) :: news) := fun p hp => N4 p (by revert hp p; walk_at "sub")
  clear N3 N4
  have l2' := l2.1
  have l2'' := tb_ltOf l2.2
  have hb0 : Grown news ((D2, ob) :: news) := (Grown.refl _).cons l2''
  have hbl : ∀ p ∈ ((D2, ob) :: news), p.1 ≠ lr := by
    simp only [List.forall_mem_cons]
    exact ⟨Nat.ne_of_gt l2', fun p hp => Nat.ne_of_lt (l1 p hp)⟩
  have hJ14 : ∃ b : Led, b = ((D2, ob) :: news) := ⟨_, rfl⟩
  refine el1_1 hJ14 ?_
  clear hJ14
  rintro base hbase
  rw [← hbase] at N5 hb0 hbl
  have hab : (a1, tupL us n) ∈ base := hb0.sub _ ha
  refine for_range (n := 16) rfl F3 N5 rgX (rgC (by (first | lia | omega))) (size1 (by (first | lia | omega))) (fun i m nx => ∃ (u : Str → Option Value) (vf : List Value) (nf : Nat) (rest : Led) (t1 t2 : Tok), m = (fun y => if y = Str.ofString "rows" then some (.ref lr) else if y = Str.ofString "code" then some (.int (codeAt xs i) t1) else if y = Str.ofString "place" then some (.int (placeAt xs i) t2) else if y = Str.ofString "counts" then some (.ref a1) else u y) ∧
    nx = (lr, listOf vf.toArray nf) :: rest ∧ Grown base rest ∧ (∀ p ∈ rest, p.1 ≠ lr) ∧ DatAll rest vf ((rowsC xs i).map tD)) ⟨_, [], 0, _, _, _, fmH4 rfl rfl rfl rfl, rfl, .refl _, hbl, .nil⟩ ?turn ?done
  case turn =>
    rintro i v m₁ nx h tk I oI' hlt hJ15
    refine el1_1 hJ15 ?_
    clear hJ15
    rintro t rfl hJ16
    refine el6_5 hJ16 ?_
    clear hJ16
    rintro u vf nf rest t1 t2 rfl rfl hg hne h7 hS off F6 N6
    have e2 : (1 : Int) + (i : Int) * 1 = ((i + 1 : Nat) : Int) := by (first | lia | omega)
    rw [e2] at F6
    have hvf := h7.length
    rw [List.length_map, rowsC, List.length_map, List.length_range] at hvf
    have hsz := fits_of (us := vf) (by (first | lia | omega))
    have har : (a1, tupL us n) ∈ rest := hg.sub _ hab
    have hIlr : @Ne Nat lr I := off _ (.head _)
    have ei : (((i + 1 : Nat) : Int) - 1).toNat = i := by (first | lia | omega)
    have hc := hcode i hlt
    clear F3 N5
    (try k_fold)
    repeat' (first | (k_unfold; (try dsimp only)) | (k_end; wrow_close) | walk1 | (dsimp only; walk1) | (leave1; walk_say "STEP leave1"; try dsimp only) | fail "no step")
    · exfalso
      have h9 : 0 < xs.getD (((i + 1 : Nat) : Int) - 1).toNat 0 := by assumption
      have h8 : 2 ^ (((i + 1 : Nat) : Int)).toNat ≤ codeAt xs i + xs.getD (((i + 1 : Nat) : Int) - 1).toNat 0 := by assumption
      rw [ei] at h9 h8
      rw [Int.toNat_natCast] at h8
      exact absurd (hc h9) (Int.not_lt.mpr h8)
    all_goals
      (rename Fr _ _ _ _ => F9
       rename News _ _ _ _ => N9
       simp only [ei, List.push_toArray] at F9 N9
       (repeat (rename _ ∧ _ => hc9; have hc8 := And.left hc9; have hc7 := And.right hc9; clear hc9))
       refine tend_1 F9 N9 off (fun _ h => nomatch h) (by assumption) ⟨_, vf ++ [_], nf + 1, _ :: rest, _, _, fmH4 rfl rfl rfl rfl, rfl, hg.cons (hg.lt (by assumption)), ?_, ?_⟩
       · exact List.forall_mem_cons.mpr ⟨Nat.ne_of_gt (by assumption), hne⟩
       · rw [rowsC_succ, List.map_append]
         exact (h7.mono fun p hp => .tail _ hp).append (.one (.tuple (.head _) (.cons (.int _ _) (.cons (.int _ _) (.cons (.int _ _) .nil))))))
  case done =>
    rintro m₁ nx h tk hJ17
    refine el6_5 hJ17 ?_
    clear hJ17
    rintro u vf nf rest t1 t2 rfl rfl hg hne h7 hS F6 N6
    clear F3 N5
    (try k_fold)
    repeat' (first | (k_unfold; (try dsimp only)) | (k_end; wrow_close) | walk1 | (dsimp only; walk1) | (leave1; walk_say "STEP leave1"; try dsimp only) | fail "no step")
    rename Fr h₀ L _ m => kF
    rename News h₀ L _ _ => kN
    refine hret _ _ _ _ kF kN (PostD.of ((hb0.trans hg).consN fun q hq => ?_) (.list (.head _) (h7.mono fun p hp => .tail _ hp)))
    exact hne q ((hb0.trans hg).sub _ hq)
end --T_Rows

section --T_Told
open PySem PySem.W PyProof.Rows PySem.Spec PySem.Calls
set_option maxRecDepth 100000 in
set_option maxHeartbeats 1000000 in
theorem told_tel (w : World) {a1 b1 : Addr} {xs ys : List Int} {news : Led} {us vs : List Value} {n n2 : Nat} (ha : (a1, tupL us n) ∈ news) (hi : IntsAre us xs) (hb : (b1, tupL vs n2) ∈ news) (hj : IntsAre vs ys)
    (hx : ∀ x ∈ xs, 0 ≤ x) (hl : xs.length = 16) (hs : xs.sum = ys.length) (hy : ys.length ≤ 200) (hnd : ys.Nodup) :
    Tel w 103 1 [.ref a1, .ref b1] news (fun r news' => r = .none ∧ Grown news news') := by
  w_top off
  unfold Tel
  k_fill
  intro mean mg mb dp un gd cn cs a ccd cl outer A₀ base h₀ L m s Q E B F X N T hk hd hu hret
  have la := hi.length
  have lb := hj.length
  refine wpAny_call ?_
  k_dflt (refine' code_def ?k1 ?k2 ?k3 ?k4 ?k5 ?kA ?kF ?kK ?k6 ?k7 ?k8 ?k9 ?kB ?_ ?c2 ?c3 ?c4 ?c5; (case kA => exact rfl); (case kF => exact rfl); (case kK => assumption); (case k1 => k_asm); (case k2 => k_asm); (case k3 => k_asm); (case k4 => k_asm); (case k5 => k_asm); (case k6 => k_is); (case k7 => k_is); (case k8 => ktr_room); (case k9 => exact BindsTo.of_eq rfl); (case c5 => decide); (case kB => exact locs rfl); (case c2 => exact rfl); (case c3 => exact rfl); (case c4 => exact rfl); k_whole; intro g' L' h' FG' F' N' B' X' T'; (try dsimp only); (try k_fold))
  rename Fr _ _ _ _ => F1
  have F2 : Fr _ _ _ (fun y => List.lookup y [(Str.ofString "symbols", Value.ref b1), (Str.ofString "counts", Value.ref a1)]) := F1
  clear F1
  (try k_fold)
  repeat' (first | (k_unfold; (try dsimp only)) | (k_end; wrow_close) | (fail_if_success (with_reducible show wpAny _ _ (exec (Stmt.For _ _ _ _ _) _) _ _ _)); first | walk1 | (dsimp only; walk1) | (leave1; walk_say "STEP leave1"; try dsimp only) | fail "no step")
  · exfalso; (first | lia | omega)
  · exfalso
    rename _ ∈ xs => hM
    have := hx _ hM
    (first | lia | omega)
  · exfalso; (first | lia | omega)
  rename Fr _ _ _ _ => F3
  rename News _ _ _ _ => N3
  rename_i sd hp1 led l1 hset hset2 hp2
  (try show wpAny _ _ _ _ _ { heap := _, gens := Shared.gens s, drawn := Shared.drawn s, toks := _, os := Shared.os s })
  (try k_fold)
  clear hset2
  refine my_forS g' (by rfl) (by rfl) ?_
  (try k_fold)
  repeat' (first | (k_unfold; (try dsimp only)) | (k_end; wrow_close) | walk1 | (dsimp only; walk1) | (leave1; walk_say "STEP leave1"; try dsimp only) | fail "no step")
  refine for_tuple rfl F3 N3 (.tail _ hb) (fun i m nx => ∃ (so : Obj) (S : Int → Bool) (c : Nat) (u : Str → Option Value), m = (fun y => if y = Str.ofString "met" then some (.ref sd) else u y) ∧ nx = (sd, so) :: news ∧ so.SetObjOf (PySem.intKind PySem.Challenge.rw_ok0135_01.row.prog w) S c ∧ c ≤ i ∧ ∀ x, S x = true → x ∈ ys.take i) ⟨_, _, 0, _, fmH1 rfl, rfl, hset, Nat.le_refl _, fun x h => nomatch h⟩ ?turn ?done
  case turn =>
    rintro i v m₁ nx h tk I oI' hi hv hJ18
    refine el4_5 hJ18 ?_
    clear hJ18
    rintro so S c u rfl rfl hso hc hS hS2 off F5 N5
    have hJ19 := ints_at hj hv
    refine el1_1 hJ19 ?_
    clear hJ19
    rintro t rfl
    have hiy : i < ys.length := by (first | lia | omega)
    have hIsd : @Ne Nat sd I := off _ (.head _)
    have hnl : ∀ p ∈ news, p.1 ≠ sd := fun p hp => Nat.ne_of_lt (l1 p hp)
    have hSk : S (ys.getD i 0) = false := by
      cases e : S (ys.getD i 0) with
      | false => rfl
      | true =>
        have h1 := hS _ e
        rw [getD_get hiy] at h1
        obtain ⟨j, hj1, hj2⟩ := List.getElem_of_mem h1
        rw [List.getElem_take] at hj2
        rw [List.length_take] at hj1
        have := (List.getElem_inj hnd).mp hj2
        (first | lia | omega)
    clear F3 N3
    (try k_fold)
    repeat' (first | (k_unfold; (try dsimp only)) | (k_end; wrow_close) | walk1 | (dsimp only; walk1) | (leave1; walk_say "STEP leave1"; try dsimp only) | fail "no step")
    rename Fr _ _ _ _ => F9
    rename News _ _ _ _ => N9
    refine tend_0 F9 N9 off (fun p hp => by rw [List.mem_singleton.mp hp]; exact hb) ⟨_, _, _, _, fmH1 rfl, rfl, by assumption, ?_, ?_⟩
    · rw [hSk]; simp; exact hc
    · intro x hx
      rw [List.take_add_one, List.getElem?_eq_getElem hiy]
      rw [getD_get hiy] at hx
      rcases Bool.or_eq_true _ _ ▸ hx with hx | hx
      · exact List.mem_append_left _ (hS x hx)
      · exact List.mem_append_right _ (by simpa using hx)
  case done =>
    rintro m₁ nx h tk hJ21
    refine el4_5 hJ21 ?_
    clear hJ21
    rintro so S c u rfl rfl hso hc hS hS2 F5 N5
    clear F3 N3
    (try k_fold)
    repeat' (first | (k_unfold; (try dsimp only)) | (k_end; wrow_close) | walk1 | (dsimp only; walk1) | (leave1; walk_say "STEP leave1"; try dsimp only) | fail "no step")
    rename Fr h₀ L _ m => kF
    rename News h₀ L _ _ => kN
    exact hret _ _ _ _ kF kN ⟨rfl, (Grown.refl _).cons l1⟩
end --T_Told

section --T_Huf
open PySem PySem.W PyProof.Rows PySem.Spec PySem.Calls
theorem rowsC_get {xs : List Int} {n i : Nat} (h : i < n) : (rowsC xs n).getD i (0, 0, 0) = (codeAt xs i, xs.getD i 0, placeAt xs i) := by simp [rowsC, List.getD, h]
theorem placeAt_eq (xs : List Int) : ∀ i, placeAt xs i = (xs.take i).sum
  | 0 => by simp [placeAt]
  | i + 1 => by
    rw [placeAt, placeAt_eq xs i, List.take_add_one, List.sum_append]
    congr 1
    cases e : xs[i]? <;> simp [List.getD, e]
theorem sum_nonneg' : ∀ {l : List Int}, (∀ x ∈ l, 0 ≤ x) → 0 ≤ l.sum
  | [], _ => by simp
  | a :: l, h => by
    have h1 := h a (.head _)
    have h2 := sum_nonneg' fun x hx => h x (.tail _ hx)
    simp only [List.sum_cons]; (first | lia | omega)
theorem placeAt_nonneg {xs : List Int} (hx : ∀ x ∈ xs, 0 ≤ x) (i : Nat) : 0 ≤ placeAt xs i := by
  rw [placeAt_eq]; exact sum_nonneg' fun x h => hx x (List.mem_of_mem_take h)
theorem placeAt_le {xs : List Int} (hx : ∀ x ∈ xs, 0 ≤ x) (i : Nat) : placeAt xs i + xs.getD i 0 ≤ xs.sum := by
  have e : placeAt xs (i + 1) = placeAt xs i + xs.getD i 0 := rfl
  rw [← e, placeAt_eq]
  have h1 : (xs.take (i + 1)).sum + (xs.drop (i + 1)).sum = xs.sum := by rw [← List.sum_append, List.take_append_drop]
  have h2 : 0 ≤ (xs.drop (i + 1)).sum := sum_nonneg' fun x h => hx x (List.mem_of_mem_drop h)
  (first | lia | omega)
theorem placeAt_ge {xs : List Int} (hx : ∀ x ∈ xs, 0 ≤ x) : ∀ {i j : Nat}, j < i → xs.getD j 0 ≤ placeAt xs i
  | i + 1, j, h => by
    have h0 := placeAt_nonneg hx i
    by_cases e : j = i
    · subst e; rw [placeAt]; (first | lia | omega)
    · have h1 := placeAt_ge hx (i := i) (j := j) (by (first | lia | omega))
      have h2 := placeAt_nonneg hx (i + 1)
      have h3 : 0 ≤ xs.getD i 0 := by
        by_cases hi : i < xs.length
        · rw [getD_get hi]; exact hx _ (List.getElem_mem _)
        · simp [List.getD, List.getElem?_eq_none (Nat.le_of_not_lt hi)]
      rw [placeAt]; (first | lia | omega)
theorem valueAt_cons (k x : Int) (v : Value) (l : List (Int × Value)) : PySem.valueAt ((k, v) :: l) x = if k = x then some v else PySem.valueAt l x := by
  by_cases h : k = x <;> simp [PySem.valueAt, h]
theorem valueAt_app (k x : Int) (v : Value) : ∀ l : List (Int × Value), (l.any fun kv => kv.1 = k) = false → PySem.valueAt (l ++ [(k, v)]) x = if k = x then some v else PySem.valueAt l x
  | [], _ => by rw [List.nil_append, valueAt_cons]
  | (k', v') :: l, hl => by
    have h' : k' ≠ k ∧ (l.any fun kv => kv.1 = k) = false := by simpa using hl
    rw [List.cons_append, valueAt_cons, valueAt_cons, valueAt_app k x v l h'.2]
    by_cases e : k' = x
    · have : k ≠ x := fun e2 => h'.1 (e.trans e2.symm)
      rw [if_pos e, if_neg this, if_pos e]
    · rw [if_neg e, if_neg e]
theorem valueAt_map (k x : Int) (v : Value) : ∀ l : List (Int × Value), PySem.valueAt (l.map fun kv => if kv.1 = k then (kv.1, v) else kv) x = if k = x then (if (l.any fun kv => kv.1 = k) = true then some v else none) else PySem.valueAt l x
  | [] => by by_cases e : k = x <;> simp [PySem.valueAt, e]
  | (k', v') :: l => by
    rw [List.map_cons]
    by_cases ek : k' = k
    · simp only [ek, if_true]
      rw [valueAt_cons, valueAt_cons, valueAt_map k x v l]
      by_cases e : k = x
      · simp [e]
      · simp [e]
    · simp only [ek, if_false]
      rw [valueAt_cons, valueAt_cons, valueAt_map k x v l]
      by_cases e : k' = x
      · have : k ≠ x := fun e2 => ek (e.trans e2.symm)
        simp [e, this]
      · by_cases e3 : k = x
        · subst e3
          have : (((k', v') :: l).any fun kv => decide (kv.1 = k)) = (l.any fun kv => decide (kv.1 = k)) := by simp [ek]
          rw [if_neg e, if_pos rfl, if_pos rfl, this]
        · simp [e, e3]
theorem valueAt_stored (kvs : List (Int × Value)) (k x : Int) (v : Value) : PySem.valueAt (PySem.stored kvs k v) x = if k = x then some v else PySem.valueAt kvs x := by
  unfold PySem.stored
  by_cases ha : (kvs.any fun kv => kv.1 = k) = true
  · rw [if_pos ha, valueAt_map, if_pos ha]
  · rw [if_neg ha]; exact valueAt_app k x v kvs (Bool.eq_false_iff.mpr ha)
theorem stored_len (kvs : List (Int × Value)) (k : Int) (v : Value) : (PySem.stored kvs k v).length ≤ kvs.length + 1 := by
  unfold PySem.stored
  split <;> simp
theorem news_swap {h₀ h : Heap} {L : Addr} {a b : Addr × Obj} {rest : Led} (N : News h₀ L h (a :: b :: rest)) : News h₀ L h (b :: a :: rest) := fun p hp => N p (by
  revert hp p; walk_at "sub")
theorem news_od3 {h₀ h : Heap} {L d : Addr} {a b c : Addr × Obj} {rest : Led} {od lit : Obj} (e : od = lit) (N : News h₀ L h (a :: b :: c :: (d, lit) :: rest)) : News h₀ L h (a :: b :: c :: (d, od) :: rest) := e ▸ N
theorem news_od5 {h₀ h : Heap} {L d : Addr} {a b c x y : Addr × Obj} {rest : Led} {od lit : Obj} (e : od = lit) (N : News h₀ L h (a :: b :: c :: x :: y :: (d, lit) :: rest)) : News h₀ L h (a :: b :: c :: x :: y :: (d, od) :: rest) := e ▸ N
noncomputable abbrev hufD (p : Params) (a1 b1 lr cd : Addr) (k1 k2 k3 k4 : Tok) : Obj :=
  dictOf [⟨PyData.keyHash p (Str.ofString "counts"), .str (Str.ofString "counts") k1, .ref a1⟩, ⟨PyData.keyHash p (Str.ofString "symbols"), .str (Str.ofString "symbols") k2, .ref b1⟩,
    ⟨PyData.keyHash p (Str.ofString "rows"), .str (Str.ofString "rows") k3, .ref lr⟩, ⟨PyData.keyHash p (Str.ofString "codes"), .str (Str.ofString "codes") k4, .ref cd⟩] 4
noncomputable def HufP {prog : Program} {w : World} (p : Params) (a1 b1 : Addr) (knd : KeyKind prog w Int) (sym s0 : Int) (news : Led) (r : Value) (news' : Led) : Prop :=
  ∃ (x d cd lr : Addr) (oc : Obj) (kvs : List (Int × Value)) (tp : Addr) (k1 k2 k3 k4 : Tok) (c : Int) (t u : Tok) (n : Nat), r = .ref x ∧ Grown news news' ∧ (x, instObj 134 d) ∈ news' ∧ (d, hufD p a1 b1 lr cd k1 k2 k3 k4) ∈ news' ∧ (cd, oc) ∈ news' ∧ (cd == sysModules) = false ∧ oc.IsDictOf knd kvs ∧ PySem.valueAt kvs sym = some (.ref tp) ∧ (tp, tupO [.int c t, .int s0 u] n) ∈ news'
theorem news_head {h₀ h : Heap} {L : Addr} {x : Addr × Obj} {r : Led} (N : News h₀ L h (x :: r)) : ∃ y, y = x ∧ News h₀ L h (y :: r) := ⟨x, rfl, N⟩
theorem name_it {α : Type} {P : α → Prop} {o : α} (h : P o) : ∃ od, od = o ∧ P od := ⟨o, rfl, h⟩
theorem news_rot2 {h₀ h : Heap} {L : Addr} {tl rest : Led} {x y : Addr × Obj} (N : News h₀ L h (tl ++ x :: y :: rest)) : News h₀ L h (x :: y :: (tl ++ rest)) := fun p hp => N p (by
  revert hp p; walk_at "sub")
theorem datIn_cls {news news' : Led} (hs : ∀ p ∈ news, (p.2.cls = .type "tuple" ∨ p.2.cls = .type "list") → p ∈ news') {v : Value} {d : Dat} (h : DatIn news v d) : DatIn news' v d :=
  datIn_ok (Ok := fun o => o.cls = .type "tuple" ∨ o.cls = .type "list") (fun _ _ => .inl rfl) (fun _ _ => .inr rfl) hs h
theorem trip_inv {news : Led} {v : Value} {p : Trip} (h : DatIn news v (tD p)) : ∃ (a : Addr) (t u x : Tok) (n : Nat), v = .ref a ∧ (a, tupL [.int p.1 t, .int p.2.1 u, .int p.2.2 x] n) ∈ news := by
  have hJ30 := datTup h
  refine el3_3 hJ30 ?_
  clear hJ30
  rintro a _ n rfl h1 h2
  have hJ31 := datCons h2
  refine el2_3 hJ31 ?_
  clear hJ31
  rintro _ _ rfl h3 h2
  have hJ32 := datCons h2
  refine el2_3 hJ32 ?_
  clear hJ32
  rintro _ _ rfl h4 h2
  have hJ33 := datCons h2
  refine el2_3 hJ33 ?_
  clear hJ33
  rintro _ _ rfl h5 h2
  obtain rfl := datNil h2
  have hJ34 := datInt h3
  refine el1_1 hJ34 ?_
  clear hJ34
  rintro t rfl
  have hJ35 := datInt h4
  refine el1_1 hJ35 ?_
  clear hJ35
  rintro u rfl
  have hJ36 := datInt h5
  refine el1_1 hJ36 ?_
  clear hJ36
  rintro x rfl
  exact ⟨a, t, u, x, n, rfl, h1⟩
section
variable {prog : Program} {w : World} {A : Around} {E : Value → Shared → Prop} {s : Shared} {h₀ : Heap} {L l : Addr}
theorem trip_item {value slice : PySem.Expr} {news L9 : Led} {us : List Value} {ts : List Trip} {n : Nat} {k : Int} {u : Tok} {Q : Value → Shared → Prop} (N : News h₀ L s.heap news) (hm : (l, listOf us.toArray n) ∈ news) (hd : DatAll L9 us (ts.map tD)) (h0 : 0 ≤ k) (h1 : k < ts.length) (hfit : k < 2 ^ 63)
    (h : ∀ a t u x n, (a, tupL [.int (ts.getD k.toNat (0, 0, 0)).1 t, .int (ts.getD k.toNat (0, 0, 0)).2.1 u, .int (ts.getD k.toNat (0, 0, 0)).2.2 x] n) ∈ L9 → Q (.ref a) s)
    (hs : subscripted slice false (.ref l) (.int k u) = operate [.ref l, .int k u] (getItem (.ref l) (.int k u)) := by with_unfolding_all rfl) :
    wpAny (model prog w) A (subscriptTail value slice (.ref l) (.int k u)) Q E s := by
  refine kd_item N hm hd h0 (by rw [List.length_map]; exact h1) hfit (fun v d e _ hD => ?_) hs
  have hlt : k.toNat < ts.length := by (first | lia | omega)
  rw [List.getElem?_map, List.getElem?_eq_getElem hlt] at e
  cases e
  have hJ37 := trip_inv hD
  refine el5_2 hJ37 ?_
  clear hJ37
  rintro a t u x n' rfl h2
  have e2 : ts.getD k.toNat (0, 0, 0) = ts[k.toNat]'hlt := by simp [List.getD, hlt]
  rw [e2] at h
  exact h a t u x n' h2
end
local macro_rules | `(tactic| walk_at "subscriptTail") => `(tactic| (k_here; (with_reducible show wpAny _ _ (subscriptTail _ _ (Value.ref _) (Value.int _ _)) _ _ _); k_dflt (refine' trip_item ?k1 ?k2 ?k3 ?k4 ?k5 ?k6 ?_ ?k7; (case k1 => k_asm); (case k2 => k_mem); (case k3 => assumption); (case k4 => (first | lia | omega)); (case k5 => (first | lia | omega)); (case k6 => (first | lia | omega)); (case k7 => with_unfolding_all rfl); k_whole); intro a' t' u' x' n' hm'))
local macro_rules | `(tactic| walk_at "setItem ref int") => `(tactic| (k_here; (with_reducible show wpAny _ _ (setItem (Value.ref _) (Value.int _ _) (Value.ref _)) _ _ _); (k_dflt (refine' kda_set (knd := PySem.intKind _ _) ?k1 ?k2 ?k3 ?k4 (intKind_is _ _ _ _) ?k5 ?_; (case k1 => k_asm); (case k2 => k_asm); (case k3 => k_updF); (case k4 => assumption); (case k5 => rw [sizeLine_eq]; (first | lia | omega)); k_whole); intro h' o' F' N' hd'; (try dsimp only at N'); (try k_sweep))))
set_option maxRecDepth 100000 in
set_option maxHeartbeats 1000000 in
theorem init_tel (w : World) {a1 b1 : Addr} {xs ys : List Int} {news : Led} {us vs : List Value} {n n2 : Nat} (ha : (a1, tupL us n) ∈ news) (hi : IntsAre us xs) (hb : (b1, tupL vs n2) ∈ news) (hj : IntsAre vs ys)
    (hx : ∀ x ∈ xs, 0 ≤ x) (hl : xs.length = 16) (hs : xs.sum = ys.length) (hy : ys.length ≤ 200) (hnd : ys.Nodup)
    (hcode : ∀ i, i < 16 → 0 < xs.getD i 0 → codeAt xs i + xs.getD i 0 < 2 ^ (i + 1)) {s0 : Int} (hs0 : 1 ≤ s0 ∧ s0 ≤ 16) (hs1 : ∀ j : Nat, (j : Int) < s0 - 1 → xs.getD j 0 = 0) (hs2 : 0 < xs.getD (s0 - 1).toNat 0) :
    Tel w 134 3 [.ref a1, .ref b1] news (HufP w.params a1 b1 (PySem.intKind PySem.Challenge.rw_ok0135_01.row.prog w) (ys.getD 0 0) s0 news) := by
  w_top off
  unfold Tel
  k_fill
  intro mean mg mb dp un gd cn cs a ccd cl outer A₀ base h₀ L m s Q E B F X N T hk hd hu hret
  have la := hi.length
  have lb := hj.length
  k_dflt (refine' call_cls ?k1 ?k2 ?k3 ?k4 ?k5 ?k6 ?_; (case k1 => k_asm); (case k2 => k_asm); (case k3 => k_asm); (case k4 => k_is); (case k5 => k_is); (case k6 => k_is); k_whole)
  intro x' d' h1' F' N' l1 l2
  k_dflt (refine' code_def ?k1 ?k2 ?k3 ?k4 ?k5 ?kA ?kF ?kK ?k6 ?k7 ?k8 ?k9 ?kB ?_ ?c2 ?c3 ?c4 ?c5; (case kA => exact rfl); (case kF => exact rfl); (case kK => assumption); (case k1 => k_asm); (case k2 => k_asm); (case k3 => k_asm); (case k4 => k_asm); (case k5 => k_asm); (case k6 => k_is); (case k7 => k_is); (case k8 => ktr_room); (case k9 => exact BindsTo.of_eq rfl); (case c5 => decide); (case kB => exact locs rfl); (case c2 => exact rfl); (case c3 => exact rfl); (case c4 => exact rfl); k_whole; intro g' L' h' FG' F' N' B' X' T'; (try dsimp only); (try k_fold))
  rename Fr g' L' _ _ => F1
  have F2 : Fr _ _ _ (fun y => List.lookup y [(Str.ofString "symbols", Value.ref b1), (Str.ofString "counts", Value.ref a1), (Str.ofString "self", Value.ref x')]) := F1
  clear F1
  (try k_fold)
  repeat' (first | (k_unfold; (try dsimp only)) | (k_end; wrow_close) | (fail_if_success (with_reducible show wpAny _ _ (exec (Stmt.For _ _ _ _ _) _) _ _ _)); first | walk1 | (dsimp only; walk1) | (leave1; walk_say "STEP leave1"; try dsimp only) | fail "no step")
  rename News g' L' _ _ => N3
  clear N'
  with_unfolding_all refine' tel_use (told_tel w (List.mem_cons_of_mem _ (List.mem_cons_of_mem _ ha)) hi (List.mem_cons_of_mem _ (List.mem_cons_of_mem _ hb)) hj hx hl hs hy hnd) B' F2 X' N3 T' rfl ?hd ?hu ?_
  case hd => first | exact room2 hd (by decide) | ktr_room
  case hu => (simp only [units_deeper, units_under_make]; (first | lia | omega))
  rintro r0 news0 h3 tk3 F3 N4 ⟨rfl, tl0, rfl, hne0⟩
  clear F2 N3
  have hJ39 : ∃ b : Led, b = tl0 ++ news := ⟨_, rfl⟩
  refine el1_1 hJ39 ?_
  clear hJ39
  rintro rest1 hrest1
  have N5 : News g' L' h3 ((x', instObj 134 d') :: (d', dictOf [] 0) :: rest1) := fun p hp => N4 p (by revert hp p; walk_at "sub")
  have hgr1 : Grown news rest1 := ⟨tl0, hrest1, fun p hp q hq => hne0 p hp q (.tail _ (.tail _ hq))⟩
  have hrx1 : ∀ p ∈ rest1, p.1 ≠ x' := by
    intro p hp; rw [hrest1] at hp
    rcases List.mem_append.mp hp with hp | hp
    · exact Ne.symm (hne0 p hp _ (.head _))
    · exact Nat.ne_of_lt (Nat.lt_trans (l1 p hp) l2)
  have hrd1 : ∀ p ∈ rest1, p.1 ≠ d' := by
    intro p hp; rw [hrest1] at hp
    rcases List.mem_append.mp hp with hp | hp
    · exact Ne.symm (hne0 p hp _ (.tail _ (.head _)))
    · exact Nat.ne_of_lt (l1 p hp)
  have l2n : @LT.lt Nat _ d' x' := l2
  have ha1 := hgr1.sub _ ha
  have hb1 := hgr1.sub _ hb
  clear N4
  (try k_fold)
  repeat' (first | (k_unfold; (try dsimp only)) | (k_end; wrow_close) | (fail_if_success (with_reducible show wpAny _ _ (exec (Stmt.For _ _ _ _ _) _) _ _ _)); first | walk1 | (dsimp only; walk1) | (leave1; walk_say "STEP leave1"; try dsimp only) | fail "no step")
  rename Fr g' L' _ _ => F4
  rename News g' L' _ _ => N4
  with_unfolding_all refine' tel_use (rows_tel w (List.mem_cons_of_mem _ (List.mem_cons_of_mem _ ha1)) hi hl hcode) B' F4 X' N4 T' rfl ?hd ?hu ?_
  case hd => first | exact room2 hd (by decide) | ktr_room
  case hu => (simp only [units_deeper, units_under_make]; (first | lia | omega))
  rintro r0 news0 h4 tk4 F6 N6 hJ40
  refine el1_3 hJ40 ?_
  clear hJ40
  rintro tl1 rfl hne1 hrowsD
  clear F4 N4
  have N7 := news_rot2 N6
  clear N6
  have hJ41 : ∃ b : Led, b = tl1 ++ rest1 := ⟨_, rfl⟩
  refine el1_1 hJ41 ?_
  clear hJ41
  rintro rest2 hrest2
  rw [← hrest2] at N7
  have hgr2 : Grown rest1 rest2 := ⟨tl1, hrest2, fun p hp q hq => hne1 p hp q (.tail _ (.tail _ hq))⟩
  have hrx2 : ∀ p ∈ rest2, p.1 ≠ x' := by
    intro p hp; rw [hrest2] at hp
    rcases List.mem_append.mp hp with hp | hp
    · exact Ne.symm (hne1 p hp _ (.head _))
    · exact hrx1 p hp
  have hrd2 : ∀ p ∈ rest2, p.1 ≠ d' := by
    intro p hp; rw [hrest2] at hp
    rcases List.mem_append.mp hp with hp | hp
    · exact Ne.symm (hne1 p hp _ (.tail _ (.head _)))
    · exact hrd1 p hp
  have ha2 := hgr2.sub _ ha1
  have hb2 := hgr2.sub _ hb1
  replace hrowsD : DatIn rest2 r0 (.list ((rowsC xs 16).map tD)) := datIn_cls (fun p hp hc => by
    rw [hrest2]
    simp only [List.mem_cons, List.mem_append] at hp ⊢
    rcases hp with hp | hp | hp | hp
    · exact .inl hp
    · rw [hp] at hc; rcases hc with hc | hc <;> first | (cases hc; done) | (injection hc with h9; exact absurd h9 (by decide))
    · rw [hp] at hc; rcases hc with hc | hc <;> first | (cases hc; done) | (injection hc with h9; exact absurd h9 (by decide))
    · exact .inr hp) hrowsD
  have hJ42 := datLst hrowsD
  refine el3_3 hJ42 ?_
  clear hJ42
  rintro lr ur nr rfl hlrm hrowsA
  (try k_fold)
  repeat' (first | (k_unfold; (try dsimp only)) | (k_end; wrow_close) | (fail_if_success (with_reducible show wpAny _ _ (exec (Stmt.For _ _ _ _ _) _) _ _ _)); first | walk1 | (dsimp only; walk1) | (leave1; walk_say "STEP leave1"; try dsimp only) | fail "no step")
  rename Fr g' L' _ _ => F8
  rename News g' L' _ _ => N8
  rename_i hz1 tkz1 hz2 tkz2 hz3 cd hz4 oc hlo hs9 fs9 hi9 fi9 l9 hz5
  (try show wpAny _ _ _ _ _ { heap := _, gens := Shared.gens s, drawn := Shared.drawn s, toks := _, os := Shared.os s })
  (try k_fold)
  have hJ43 := name_it (P := fun od => News g' L' hz5 ((cd, oc) :: (x', instObj 134 d') :: (d', od) :: rest2)) N8
  refine el1_2 hJ43 ?_
  clear hJ43
  rintro od hod N9
  clear N8 hs9 fs9 fi9
  have hx9 := l9.1
  have hd9 := l9.2.1
  have hc9 : ∀ p ∈ rest2, p.1 ≠ cd := fun p hp => Nat.ne_of_lt (tb_ltOf l9.2.2 p hp)
  refine my_forS g' (by rfl) (by rfl) ?_
  (try k_fold)
  repeat' (first | (k_unfold; (try dsimp only)) | (k_end; wrow_close) | walk1 | (dsimp only; walk1) | (leave1; walk_say "STEP leave1"; try dsimp only) | fail "no step")
  rename IsRange _ _ _ _ _ _ _ _ => rgX
  rename Fr g' L' _ _ => F9
  rename News g' L' _ _ => N10
  refine for_range (n := 16) rfl F9 N10 rgX (rgC (by (first | lia | omega))) (size1 (by (first | lia | omega))) (fun i m nx => ∃ (u : Str → Option Value) (oc : Obj) (kvs : List (Int × Value)) (rest : Led), m = (fun y => if y = Str.ofString "self" then some (.ref x') else u y) ∧
    nx = (cd, oc) :: (x', instObj 134 d') :: (d', od) :: rest ∧ Grown rest2 rest ∧ (∀ p ∈ rest, p.1 ≠ cd) ∧ oc.IsDictOf (PySem.intKind PySem.Challenge.rw_ok0135_01.row.prog w) kvs ∧ (kvs.length : Int) ≤ placeAt xs i ∧
    (0 < placeAt xs i → ∃ tp c t u9 n9, PySem.valueAt kvs (ys.getD 0 0) = some (.ref tp) ∧ (tp, tupO [.int c t, .int s0 u9] n9) ∈ rest)) ⟨_, oc, [], rest2, fmH1 rfl, rfl, .refl _, hc9, hi9, Int.le_refl _, fun h => absurd h (Int.lt_irrefl 0)⟩ ?turn ?done
  case turn =>
    rintro i v m₁ nx h tk I oI' hlt hJ44
    refine el1_1 hJ44 ?_
    clear hJ44
    rintro t rfl hJ45
    refine el4_7 hJ45 ?_
    clear hJ45
    rintro u oc2 kvs rest rfl rfl hg hne hkd hkl hkv hS off F11 N11
    have e2 : (1 : Int) + (i : Int) * 1 = ((i + 1 : Nat) : Int) := by (first | lia | omega)
    rw [e2] at F11
    rw [hod] at N11
    have ei : (((i + 1 : Nat) : Int) - 1).toNat = i := by (first | lia | omega)
    have hlrm' := hg.sub _ hlrm
    have hrowsA' := hrowsA.mono hg.sub
    have hb2' := hg.sub _ hb2
    have er : (rowsC xs 16).getD i (0, 0, 0) = (codeAt xs i, xs.getD i 0, placeAt xs i) := rowsC_get hlt
    have hIcd : @Ne Nat cd I := off _ (.head _)
    have hIx : @Ne Nat x' I := off _ (.tail _ (.head _))
    have hId : @Ne Nat d' I := off _ (.tail _ (.tail _ (.head _)))
    have hrowl : (rowsC xs 16).length = 16 := by simp [rowsC]
    clear F9 N10
    (try k_fold)
    repeat' (first | (k_unfold; (try dsimp only)) | (k_end; wrow_close) | (fail_if_success (with_reducible show wpAny _ _ (exec (Stmt.For _ _ _ _ _) _) _ _ _)); first | walk1 | (dsimp only; walk1) | (leave1; walk_say "STEP leave1"; try dsimp only) | fail "no step")
    rename Fr g' _ _ _ => F12
    rename News g' _ _ _ => N12
    simp only [ei, er] at F12 N12 ⊢
    refine my_forS g' (by rfl) (by rfl) ?_
    (try k_fold)
    repeat' (first | (k_unfold; (try dsimp only)) | (k_end; wrow_close) | walk1 | (dsimp only; walk1) | (leave1; walk_say "STEP leave1"; try dsimp only) | fail "no step")
    rename Fr g' _ _ _ => F13
    rename News g' _ _ _ => N13
    have rgY := (show IsRange _ _ 0 (xs.getD i 0) 1 _ _ _ by assumption)
    have hmany : 0 ≤ xs.getD i 0 := by rw [getD_get (show i < xs.length by (first | lia | omega))]; exact hx _ (List.getElem_mem _)
    have hpl0 := placeAt_nonneg hx i
    have hps : placeAt xs i + xs.getD i 0 ≤ ys.length := by rw [← hs]; exact placeAt_le hx i
    have hNr := news_swap (news_od3 hod N13)
    refine for_range (n := (xs.getD i 0).toNat) rfl F13 hNr rgY (rgD (by (first | lia | omega)) (by (first | lia | omega))) rgD' (fun k m nx => ∃ (u : Str → Option Value) (oc : Obj) (kvs : List (Int × Value)) (rest3 : Led) (t1 t2 t3 : Tok), m = (fun y => if y = Str.ofString "self" then some (.ref x') else if y = Str.ofString "place" then some (.int (placeAt xs i) t1) else if y = Str.ofString "first" then some (.int (codeAt xs i) t2) else if y = Str.ofString "size" then some (.int ((i + 1 : Nat) : Int) t3) else u y) ∧
      nx = (cd, oc) :: (I, oI') :: (x', instObj 134 d') :: (d', od) :: rest3 ∧ Grown rest2 rest3 ∧ (∀ p ∈ rest3, p.1 ≠ cd) ∧ (∀ p ∈ rest3, p.1 ≠ I) ∧ oc.IsDictOf (PySem.intKind PySem.Challenge.rw_ok0135_01.row.prog w) kvs ∧ (kvs.length : Int) ≤ placeAt xs i + k ∧
      (0 < placeAt xs i + (k : Int) → ∃ tp c t u9 n9, PySem.valueAt kvs (ys.getD 0 0) = some (.ref tp) ∧ (tp, tupO [.int c t, .int s0 u9] n9) ∈ rest3)) ⟨_, oc2, kvs, rest, _, _, _, fmH4 rfl rfl rfl rfl, rfl, hg, hne, (fun p hp => off p (.tail _ (.tail _ (.tail _ hp)))), hkd, (by simpa using hkl), (by simpa using hkv)⟩ ?turn2 ?done2
    case turn2 =>
      rintro k v m₂ nx h5 tk5 I2 oI2 hlt2 hJ46
      refine el1_1 hJ46 ?_
      clear hJ46
      rintro t5 rfl hJ47
      refine el7_8 hJ47 ?_
      clear hJ47
      rintro u5 oc3 kvs3 rest3 t1 t2 t3 rfl rfl hg3 hne3 hnI3 hkd3 hkl3 hkv3 hS3 off3 F14 N14
      have e3 : (0 : Int) + (k : Int) * 1 = (k : Int) := by (first | lia | omega)
      rw [e3] at F14
      rw [hod] at N14
      have hb3 := hg3.sub _ hb2
      have hI2cd : @Ne Nat cd I2 := off3 _ (.head _)
      have hI2I : @Ne Nat I I2 := off3 _ (.tail _ (.head _))
      have hkn : (k : Int) < xs.getD i 0 := by (first | lia | omega)
      clear F13 hNr
      (try k_fold)
      repeat' (first | (k_unfold; (try dsimp only)) | (k_end; wrow_close) | walk1 | (dsimp only; walk1) | (leave1; walk_say "STEP leave1"; try dsimp only) | fail "no step")
      rename Fr g' _ _ _ => F15
      rename News g' _ _ _ => N15
      have hd15 := (show Obj.IsDictOf _ _ (PySem.stored kvs3 _ _) by assumption)
      (repeat (rename _ ∧ _ => hc9; have hc8 := And.left hc9; have hc7 := And.right hc9; clear hc9))
      have hJ48 := news_head (news_od5 hod N15)
      refine el1_2 hJ48 ?_
      clear hJ48
      rintro y15 hy15 N16
      have hyI : @LT.lt Nat _ I2 y15.1 := by rw [hy15]; assumption
      have hyc : @LT.lt Nat _ cd y15.1 := by rw [hy15]; assumption
      have hyi : @LT.lt Nat _ I y15.1 := by rw [hy15]; assumption
      have hyr : AllLt y15.1 rest3 := by rw [hy15]; assumption
      clear N15
      refine ⟨_, _, _, (cd, _) :: (I, oI') :: (x', instObj 134 d') :: (d', od) :: y15 :: rest3, rfl, F15, fun p hp => N16 p ?_, ?_, (fun _ h => nomatch h), ⟨_, _, _, y15 :: rest3, _, _, _, fmH4 rfl rfl rfl rfl, rfl, hg3.cons (hg3.lt hyr), ?_, ?_, hd15, ?_, ?_⟩⟩
      · revert hp p; walk_at "sub"
      · simp only [List.forall_mem_cons] at off3 ⊢
        exact ⟨off3.1, off3.2.1, off3.2.2.1, off3.2.2.2.1, Nat.ne_of_gt hyI, off3.2.2.2.2⟩
      · exact List.forall_mem_cons.mpr ⟨Nat.ne_of_gt hyc, hne3⟩
      · exact List.forall_mem_cons.mpr ⟨Nat.ne_of_gt hyi, hnI3⟩
      · have h9 := stored_len kvs3 (ys.getD (placeAt xs i + (k : Int)).toNat 0)
        refine Int.le_trans (Int.ofNat_le.mpr (h9 _)) ?_
        (first | lia | omega)
      · intro _
        by_cases hz : placeAt xs i + (k : Int) = 0
        · have hs0i : ((i + 1 : Nat) : Int) = s0 := by
            by_cases h1 : (i : Int) < s0 - 1
            · have := hs1 i h1; (first | lia | omega)
            · by_cases h2 : s0 - 1 < (i : Int)
              · have := placeAt_ge hx (i := i) (j := (s0 - 1).toNat) (by (first | lia | omega)); (first | lia | omega)
              · (first | lia | omega)
          refine ⟨_, _, _, _, _, ?_, by rw [hy15, ← hs0i]; exact .head _⟩
          rw [valueAt_stored, hz]; exact if_pos rfl
        · have hJ49 := hkv3 (by (first | lia | omega))
          refine el5_2 hJ49 ?_
          clear hJ49
          rintro tp c t9 u9 n9 hv9 hm9
          refine ⟨tp, c, t9, u9, n9, ?_, .tail _ hm9⟩
          rw [valueAt_stored, if_neg ?_]
          · exact hv9
          · rw [getD_get (show (placeAt xs i + (k : Int)).toNat < ys.length by (first | lia | omega)), getD_get (show 0 < ys.length by (first | lia | omega))]
            intro e9
            have := (List.getElem_inj hnd).mp e9
            (first | lia | omega)
    case done2 =>
      rintro m₂ nx h5 tk5 hJ50
      refine el7_8 hJ50 ?_
      clear hJ50
      rintro u5 oc3 kvs3 rest3 t1 t2 t3 rfl rfl hg3 hne3 hnI3 hkd3 hkl3 hkv3 hS3 F14 N14
      clear F13 hNr
      (try k_fold)
      repeat' (first | (k_unfold; (try dsimp only)) | (k_end; wrow_close) | walk1 | (dsimp only; walk1) | (leave1; walk_say "STEP leave1"; try dsimp only) | fail "no step")
      refine ⟨_, _, _, (cd, oc3) :: (x', instObj 134 d') :: (d', od) :: rest3, rfl, F14, fun p hp => N14 p ?_, ?_, (fun _ h => nomatch h), ⟨_, oc3, kvs3, rest3, fmH1 rfl, rfl, hg3, hne3, hkd3, ?_, ?_⟩⟩
      · revert hp p; walk_at "sub"
      · simp only [List.forall_mem_cons] at off ⊢
        exact ⟨off.1, off.2.1, off.2.2.1, hnI3⟩
      · rw [placeAt]; (first | lia | omega)
      · rw [placeAt]; intro h9; exact hkv3 (by (first | lia | omega))
  case done =>
    rintro m₁ nx h tk hJ51
    refine el4_7 hJ51 ?_
    clear hJ51
    rintro u oc2 kvs rest rfl rfl hg hne hkd hkl hkv hS F11 N11
    clear F9 N10
    (try k_fold)
    repeat' (first | (k_unfold; (try dsimp only)) | (k_end; wrow_close) | walk1 | (dsimp only; walk1) | (leave1; walk_say "STEP leave1"; try dsimp only) | fail "no step")
    rename Fr h₀ L _ m => kF
    rename News h₀ L _ _ => kN
    have h16 : 0 < placeAt xs 16 := by
      have := placeAt_ge hx (i := 16) (j := (s0 - 1).toNat) (by (first | lia | omega))
      (first | lia | omega)
    have hJ52 := hkv h16
    refine el5_2 hJ52 ?_
    clear hJ52
    rintro tp c t9 u9 n9 hv9 hm9
    have hga := (hgr1.trans hgr2).trans hg
    refine hret _ _ _ _ kF kN ⟨_, _, cd, lr, oc2, kvs, tp, _, _, _, _, c, t9, u9, n9, rfl, ?_, .tail _ (.head _), .tail _ (.tail _ (by rw [hod]; exact .head _)), .head _, hlo, hkd, hv9, .tail _ (.tail _ (.tail _ hm9))⟩
    exact ((hga.consN fun q hq => Nat.ne_of_lt (l1 q hq)).consN fun q hq => Nat.ne_of_lt (Nat.lt_trans (l1 q hq) l2)).consN fun q hq => hne q (hga.sub q hq)
end --T_Huf

section --T_Code
open PySem PySem.W PyProof.Rows PySem.Spec PySem.Calls
set_option maxRecDepth 100000 in
set_option maxHeartbeats 200000 in
theorem code_tel (w : World) {a1 b1 : Addr} {x d cd lr : Addr} {oc : Obj} {kvs : List (Int × Value)} {tp : Addr} {k1 k2 k3 k4 : Tok} {sym s0 c : Int} {t0 t u : Tok} {n : Nat} {news : Led}
    (h1 : (x, instObj 134 d) ∈ news) (h2 : (d, hufD w.params a1 b1 lr cd k1 k2 k3 k4) ∈ news) (h3 : (cd, oc) ∈ news) (lo : (cd == sysModules) = false) (h4 : oc.IsDictOf (PySem.intKind PySem.Challenge.rw_ok0135_01.row.prog w) kvs) (h5 : PySem.valueAt kvs sym = some (.ref tp)) :
    Tel w 124 1 [.ref x, .int sym t0] news (fun r news' => r = .ref tp ∧ Grown news news') := by
  w_top off
  unfold Tel
  k_fill
  intro mean mg mb dp un gd cn cs a ccd cl outer A₀ base h₀ L m s Q E B F X N T hk hd hu hret
  refine wpAny_call ?_
  k_dflt (refine' code_def ?k1 ?k2 ?k3 ?k4 ?k5 ?kA ?kF ?kK ?k6 ?k7 ?k8 ?k9 ?kB ?_ ?c2 ?c3 ?c4 ?c5; (case kA => exact rfl); (case kF => exact rfl); (case kK => assumption); (case k1 => k_asm); (case k2 => k_asm); (case k3 => k_asm); (case k4 => k_asm); (case k5 => k_asm); (case k6 => k_is); (case k7 => k_is); (case k8 => ktr_room); (case k9 => exact BindsTo.of_eq rfl); (case c5 => decide); (case kB => exact locs rfl); (case c2 => exact rfl); (case c3 => exact rfl); (case c4 => exact rfl); k_whole; intro g' L' h' FG' F' N' B' X' T'; (try dsimp only); (try k_fold))
  rename Fr _ _ _ _ => F1
  have F2 : Fr _ _ _ (fun y => List.lookup y [(Str.ofString "symbol", .int sym t0), (Str.ofString "self", Value.ref x)]) := F1
  clear F1
  (try k_fold)
  repeat' (first | (k_unfold; (try dsimp only)) | (k_end; wrow_close) | walk1 | (dsimp only; walk1) | (leave1; walk_say "STEP leave1"; try dsimp only) | fail "no step")
  rename Fr h₀ L _ m => kF
  rename News h₀ L _ _ => kN
  exact hret _ _ _ _ kF kN ⟨rfl, .refl _⟩
end --T_Code

section --T_Least
open PySem PySem.W PyProof.Rows PySem.Spec PySem.Calls
/-- one row of longer sums for one sum -/
noncomputable def longC (most : Nat) (c : Int) (p : Pr) : List Pr := (List.range most).map fun (j : Nat) => ((p.1 + c * ((j : Int) + 1), p.2 + 2 ^ (most - (j + 1))) : Pr)
noncomputable def leastC (most : Nat) : List Int → List Pr → List Pr
  | [], rows => rows
  | c :: cs, rows => leastC most cs ((rows.flatMap (longC most c)).filter fun p => decide (p.2 < 2 ^ most))
theorem longs_len (most : Nat) (c : Int) (P : List Pr) (k : Nat) : ((P.take k).flatMap (longC most c)).length = min k P.length * most := by
  rw [List.length_flatMap]
  have : ∀ l : List Pr, (l.map fun p => (longC most c p).length).sum = l.length * most := by
    intro l
    induction l with
    | nil => simp
    | cons p l ih => simp only [List.map_cons, List.sum_cons, ih, List.length_cons, Nat.succ_mul]; simp [longC]; (first | lia | omega)
  rw [this, List.length_take]
theorem longC_take {most i : Nat} {c : Int} {p : Pr} (h : i < most) : (longC most c p).take (i + 1) = (longC most c p).take i ++ [(p.1 + c * ((i : Int) + 1), p.2 + 2 ^ (most - (i + 1)))] := by
  rw [List.take_add_one]
  congr 1
  simp [longC, h]
theorem pD_refs {L : Led} : ∀ {us : List Value} {P : List Pr}, DatAll L us (P.map pD) → ∀ v ∈ us, ∃ b, v = Value.ref b
  | [], _, _, _, h => nomatch h
  | _ :: _, [], h, _, _ => nomatch h
  | _ :: us, p :: P, .cons hd hr, v, h => by
    rcases List.mem_cons.mp h with rfl | h
    · obtain ⟨a, _, _, _, e, _⟩ := pD_inv hd; exact ⟨a, e⟩
    · exact pD_refs hr v h
set_option maxRecDepth 100000 in
set_option maxHeartbeats 1000000 in
theorem least_tel (w : World) {a1 : Addr} {xs : List Int} {news : Led} {most : Nat} {t : Tok} {us : List Value} {n : Nat} (ha : (a1, listOf us.toArray n) ∈ news) (hi : IntsAre us xs) (hl : xs.length ≤ 5) (hm : 1 ≤ most ∧ most ≤ 4)
    (hx : ∀ x ∈ xs, 0 ≤ x ∧ x ≤ 1000) (hne : leastC most xs [(0, 0)] ≠ []) :
    Tel w 157 1 [.ref a1, .int (most : Int) t] news (fun r news' => ∃ M t', r = .int M t' ∧ M ∈ (leastC most xs [(0, 0)]).map (·.1) ∧ (∀ p ∈ leastC most xs [(0, 0)], M ≤ p.1) ∧ Grown news news') := by
  w_top off
  unfold Tel
  k_fill
  intro mean mg mb dp un gd cn cs a ccd cl outer A₀ base h₀ L m s Q E B F X N T hk hd hu hret
  have la := hi.length
  refine wpAny_call ?_
  k_dflt (refine' code_defC ?k1 ?k2 ?k3 ?k4 ?k5 ?kA ?kF ?kK ?k6 ?k7 ?k8 ?k9 ?kB ?kD ?_ ?c2 ?c3 ?c4; (case kA => exact rfl); (case kF => exact rfl); (case kK => assumption); (case k1 => k_asm); (case k2 => k_asm); (case k3 => k_asm); (case k4 => k_asm); (case k5 => k_asm); (case k6 => k_is); (case k7 => k_is); (case k8 => ktr_room); (case k9 => exact BindsTo.of_eq rfl); (case kB => exact rfl); (case kD => decide +kernel); (case c2 => exact rfl); (case c3 => exact rfl); (case c4 => exact rfl); k_whole; intro g' L' h' tk' cells' FG' F' N' Y' B' X' T' l1; (try k_lt l1); k_cells Y'; (try simp only [List.cons_append, List.nil_append] at N'); (try dsimp only); (try k_fold))
  rename Fr _ _ _ _ => F1
  have F2 : Fr _ _ _ (fun y => if y = Str.ofString "counts" then some (Value.ref a1) else none) := F1
  clear F1
  (try k_fold)
  repeat' (first | (k_unfold; (try dsimp only)) | (k_end; wrow_close) | (fail_if_success (with_reducible show wpAny _ _ (exec (Stmt.For _ _ _ _ _) _) _ _ _)); first | walk1 | (dsimp only; walk1) | (leave1; walk_say "STEP leave1"; try dsimp only) | fail "no step")
  rename Fr g' L' _ _ => F3
  rename News g' L' _ _ => N3
  rename_i ou oc on om du dc dn dm D0 hz1 l0 lr0 hz2 l2 hz3
  (try show wpAny _ _ _ _ _ { heap := _, gens := Shared.gens s, drawn := Shared.drawn s, toks := _, os := Shared.os s })
  (try k_fold)
  have hmost : om.data = .cell (some (.int (most : Int) t)) := dm
  have hu0 : ∃ v, ou.data = .cell v := ⟨_, du⟩
  have hc0 : ∃ v, oc.data = .cell v := ⟨_, dc⟩
  have hn0 : ∃ v, on.data = .cell v := ⟨_, dn⟩
  clear du dc dn dm
  have hJ45 : ∃ b : Led, b = ((D0, tupO [.int 0 tk', .int 0 (tk' + 1)] 0) :: news) := ⟨_, rfl⟩
  refine el1_1 hJ45 ?_
  clear hJ45
  rintro rest0 hrest0
  have l0' := l0
  have l2' := l2
  have N4 : News g' L' hz3 ((L' + 1 + 1 + 1 + 1, ou) :: (L' + 1 + 1 + 1, oc) :: (L' + 1 + 1, on) :: (L' + 1, om) :: (lr0, listOf [Value.ref D0].toArray 0) :: rest0) := fun p hp => N3 p (by
    revert hp p; walk_at "sub")
  have hg0 : Grown news ((lr0, listOf [Value.ref D0].toArray 0) :: rest0) := by rw [hrest0]; exact ((Grown.refl _).cons (tb_ltOf l0.2.2.2.2)).cons (tb_ltOf l2.2.2.2.2.2)
  have hoff0 : ∀ d : Nat, @LT.lt Nat _ L' d → @LT.lt Nat _ d D0 → @LT.lt Nat _ d lr0 → ∀ p ∈ ((lr0, listOf [Value.ref D0].toArray 0) :: rest0), p.1 ≠ d := by
    intro d h1 h2 h3
    rw [hrest0]
    simp only [List.forall_mem_cons]
    exact ⟨Nat.ne_of_gt h3, Nat.ne_of_gt h2, fun p hp => Nat.ne_of_lt (Nat.lt_trans (l1 p hp) h1)⟩
  refine my_forA g' ?_
  (try k_fold)
  repeat' (first | (k_unfold; (try dsimp only)) | (k_end; wrow_close) | walk1 | (dsimp only; walk1) | (leave1; walk_say "STEP leave1"; try dsimp only) | fail "no step")
  refine forA_list rfl F3 N4 (.tail _ (.tail _ (.tail _ (.tail _ (hg0.sub _ ha))))) (.inl fun _ _ => rfl) (fun i m nx => ∃ (ou oc on : Obj) (lr : Addr) (us2 : List Value) (nf : Nat) (P : List Pr) (rest : Led) (u : Str → Option Value), m = (fun y => if y = Str.ofString "rows" then some (.ref lr) else if y = Str.ofString "counts" then some (.ref a1) else u y) ∧
    nx = (L' + 1 + 1 + 1 + 1, ou) :: (L' + 1 + 1 + 1, oc) :: (L' + 1 + 1, on) :: (L' + 1, om) :: rest ∧ (∃ v, ou.data = .cell v) ∧ (∃ v, oc.data = .cell v) ∧ (∃ v, on.data = .cell v) ∧ Grown news rest ∧ (∀ p ∈ rest, p.1 ≠ L' + 1 + 1 + 1 + 1) ∧ (∀ p ∈ rest, p.1 ≠ L' + 1 + 1 + 1) ∧ (∀ p ∈ rest, p.1 ≠ L' + 1 + 1) ∧ (∀ p ∈ rest, p.1 ≠ L' + 1) ∧
    (lr, listOf us2.toArray nf) ∈ rest ∧ DatAll rest us2 (P.map pD) ∧ P.length ≤ 4 ^ i ∧ leastC most (xs.drop i) P = leastC most xs [(0, 0)])
    ⟨ou, oc, on, lr0, _, 0, [(0, 0)], _, _, fmH2 rfl rfl, rfl, hu0, hc0, hn0, hg0, hoff0 _ (by (first | lia | omega)) (by (first | lia | omega)) (by (first | lia | omega)), hoff0 _ (by (first | lia | omega)) (by (first | lia | omega)) (by (first | lia | omega)), hoff0 _ (by (first | lia | omega)) (by (first | lia | omega)) (by (first | lia | omega)), hoff0 _ (by (first | lia | omega)) (by (first | lia | omega)) (by (first | lia | omega)), .head _, (.cons (.tuple (.tail _ (by rw [hrest0]; exact .head _)) (.cons (.int _ _) (.cons (.int _ _) .nil))) .nil), Nat.le_refl _, rfl⟩ ?turn ?done
  case turn =>
    rintro i v m₁ nx h tk I oI' hv hJ46
    refine el9_14 hJ46 ?_
    clear hJ46
    rintro ou oc on lr us2 nf P rest u rfl rfl hJ47
    refine el1_1 hJ47 ?_
    clear hJ47
    rintro vu hu4 hJ48
    refine el1_1 hJ48 ?_
    clear hJ48
    rintro vc hc3 hJ49
    refine el1_1 hJ49 ?_
    clear hJ49
    rintro vn hn2 hg r4 r3 r2 r1 hlr hd hPl hle hS off F5 N5
    have hJ50 := ints_at hi hv
    refine el1_1 hJ50 ?_
    clear hJ50
    rintro tc rfl
    have hI4 : @Ne Nat (L' + 1 + 1 + 1 + 1) I := off _ (.head _)
    have hI3 : @Ne Nat (L' + 1 + 1 + 1) I := off _ (.tail _ (.head _))
    have hI2 : @Ne Nat (L' + 1 + 1) I := off _ (.tail _ (.tail _ (.head _)))
    have hI1 : @Ne Nat (L' + 1) I := off _ (.tail _ (.tail _ (.tail _ (.head _))))
    clear F3 N4 N3
    (try k_fold)
    repeat' (first | (k_unfold; (try dsimp only)) | (k_end; wrow_close) | (fail_if_success (with_reducible show wpAny _ _ (exec (Stmt.For _ _ _ _ _) _) _ _ _)); first | walk1 | (dsimp only; walk1) | (leave1; walk_say "STEP leave1"; try dsimp only) | fail "no step")
    rename Fr g' _ _ _ => F6
    rename News g' _ _ _ => N6
    rename_i hq1 on2 hon2 ll0 hq2 l3 hq3
    (try show wpAny _ _ _ _ _ { heap := _, gens := Shared.gens s, drawn := Shared.drawn s, toks := _, os := Shared.os s })
    (try k_fold)
    (repeat (rename _ ∧ _ => hc9; have hc8 := And.left hc9; have hc7 := And.right hc9; clear hc9))
    have N7 : News g' L' hq3 ((L' + 1 + 1 + 1 + 1, ou) :: (L' + 1 + 1 + 1, oc) :: (I, oI') :: (L' + 1 + 1, on2) :: (L' + 1, om) :: (ll0, listOf ([] : List Value).toArray 0) :: rest) := fun p hp => N6 p (by
      revert hp p; walk_at "sub")
    clear N6
    have hllr := tb_ltOf (show AllLt ll0 rest by assumption)
    have hg7 : Grown rest ((ll0, listOf ([] : List Value).toArray 0) :: rest) := (Grown.refl _).cons hllr
    refine my_forA g' ?_
    (try k_fold)
    repeat' (first | (k_unfold; (try dsimp only)) | (k_end; wrow_close) | walk1 | (dsimp only; walk1) | (leave1; walk_say "STEP leave1"; try dsimp only) | fail "no step")
    refine forA_list rfl F6 N7 (.tail _ (.tail _ (.tail _ (.tail _ (.tail _ (.tail _ hlr)))))) (.inr ⟨_, _, _, rfl, pD_refs hd⟩) (fun k m nx => ∃ (ou oc : Obj) (ll : Addr) (vl : List Value) (nl : Nat) (rest2 : Led) (u : Str → Option Value), m = (fun y => if y = Str.ofString "longer" then some (.ref ll) else if y = Str.ofString "rows" then some (.ref lr) else if y = Str.ofString "counts" then some (.ref a1) else u y) ∧
      nx = (L' + 1 + 1 + 1 + 1, ou) :: (L' + 1 + 1 + 1, oc) :: (I, oI') :: (L' + 1 + 1, on2) :: (L' + 1, om) :: rest2 ∧ (∃ v, ou.data = .cell v) ∧ (∃ v, oc.data = .cell v) ∧ Grown rest rest2 ∧ (∀ p ∈ rest2, p.1 ≠ L' + 1 + 1 + 1 + 1) ∧ (∀ p ∈ rest2, p.1 ≠ L' + 1 + 1 + 1) ∧ (∀ p ∈ rest2, p.1 ≠ L' + 1 + 1) ∧ (∀ p ∈ rest2, p.1 ≠ L' + 1) ∧ (∀ p ∈ rest2, p.1 ≠ I) ∧
      (ll, listOf vl.toArray nl) ∈ rest2 ∧ DatAll rest2 vl (((P.take k).flatMap (longC most (xs.getD i 0))).map pD))
      ⟨ou, oc, ll0, [], 0, _, _, fmH3 rfl rfl rfl, rfl, ⟨_, hu4⟩, ⟨_, hc3⟩, hg7, List.forall_mem_cons.mpr ⟨Nat.ne_of_gt (by assumption), r4⟩, List.forall_mem_cons.mpr ⟨Nat.ne_of_gt (by assumption), r3⟩, List.forall_mem_cons.mpr ⟨Nat.ne_of_gt (by assumption), r2⟩, List.forall_mem_cons.mpr ⟨Nat.ne_of_gt (by assumption), r1⟩, List.forall_mem_cons.mpr ⟨Nat.ne_of_gt (by assumption), fun p hp => off p (.tail _ (.tail _ (.tail _ (.tail _ hp))))⟩, .head _, .nil⟩ ?turn2 ?done2
    case turn2 =>
      rintro k v m₂ nx h5 tk5 Ib oIb hv2 hJ51
      refine el7_12 hJ51 ?_
      clear hJ51
      rintro ou2 oc2 ll vl nl rest2 u2 rfl rfl hJ52
      refine el1_1 hJ52 ?_
      clear hJ52
      rintro vu2 hu42 hJ53
      refine el1_1 hJ53 ?_
      clear hJ53
      rintro vc2 hc32 hg2 q4 q3 q2 q1 qI hll hdl hS2 off2 F8 N8
      have hkP : k < P.length := by have := hd.length; rw [List.length_map] at this; rw [← this]; exact (List.getElem?_eq_some_iff.mp hv2).1
      obtain ⟨v', hv', hdv⟩ := hd.get (k := k) (by rw [List.length_map]; exact hkP)
      rw [hv2] at hv'
      obtain rfl := Option.some.inj hv'
      rw [List.getElem_map] at hdv
      have hJ54 := pD_inv hdv
      refine el4_2 hJ54 ?_
      clear hJ54
      rintro ta tt tu tn rfl hta
      have hta2 := hg2.sub _ hta
      have hJ4 : @Ne Nat (L' + 1 + 1 + 1 + 1) Ib := off2 _ (.head _)
      have hJ3 : @Ne Nat (L' + 1 + 1 + 1) Ib := off2 _ (.tail _ (.head _))
      clear F6 N7
      (try k_fold)
      repeat' (first | (k_unfold; (try dsimp only)) | (k_end; wrow_close) | (fail_if_success (with_reducible show wpAny _ _ (exec (Stmt.For _ _ _ _ _) _) _ _ _)); first | walk1 | (dsimp only; walk1) | (leave1; walk_say "STEP leave1"; try dsimp only) | fail "no step")
      rename IsRange _ _ _ _ _ _ _ _ => rgX
      rename Fr g' _ _ _ => F10
      rename News g' _ _ _ => N10
      rename_i hw1 _ _ hw2 oc3 dc3 hw3 ou3 _ _ du3 hw4 tk9 t9 u9 v9 keep9
      (try show wpAny _ _ _ _ _ { heap := _, gens := Shared.gens s, drawn := Shared.drawn s, toks := _, os := Shared.os s })
      (try k_fold)
      have hJ55 : ∃ b : Led, b = ((Ib, oIb) :: (L' + 1 + 1 + 1 + 1, ou3) :: (L' + 1 + 1 + 1, oc3) :: (I, oI') :: (L' + 1 + 1, on2) :: (L' + 1, om) :: rest2) := ⟨_, rfl⟩
      refine el1_1 hJ55 ?_
      clear hJ55
      rintro base3 hb3
      rw [← hb3] at N10
      have cc4 : (L' + 1 + 1 + 1 + 1, ou3) ∈ base3 := by walk_at "mem"
      have cc3 : (L' + 1 + 1 + 1, oc3) ∈ base3 := by walk_at "mem"
      have cc2 : (L' + 1 + 1, on2) ∈ base3 := by walk_at "mem"
      have cc1 : (L' + 1, om) ∈ base3 := by walk_at "mem"
      have ccl : (ll, listOf vl.toArray nl) ∈ base3 := by walk_at "mem"
      have hvl : vl.length ≤ 4096 := by
        rw [hdl.length, List.length_map, longs_len]
        have h4 : (4 : Nat) ^ i ≤ 4 ^ 5 := Nat.pow_le_pow_right (by decide) (by have := (List.getElem?_eq_some_iff.mp hv).1; (first | lia | omega))
        have h5 : min k P.length ≤ 1024 := Nat.le_trans (Nat.min_le_right _ _) (Nat.le_trans hPl h4)
        have := Nat.mul_le_mul h5 (show most ≤ 4 by assumption)
        exact this
      refine srcU_range (n := most) rfl F10 N10 rgX (rgC (by (first | lia | omega))) rgC' (by (first | lia | omega)) (fun i3 ys nw => ∃ tl : Led, nw = tl ++ base3 ∧ (∀ p ∈ tl, ∀ q ∈ base3, q.1 ≠ p.1) ∧ DatAll (tl ++ rest2) ys (((longC most (xs.getD i 0) (P[k]'hkP)).take i3).map pD)) ⟨[], rfl, (fun _ h => nomatch h), .nil⟩ ?turn3 ?fin3
      case turn3 =>
        rintro i3 ys nw v I3 oI3 C3 oC3 D3 m3 h3 tk3 E3 hi3 hJ56
        refine el1_3 hJ56 ?_
        clear hJ56
        rintro tl3 hnw3 htl3 h8 hJ57
        refine el1_1 hJ57 ?_
        clear hJ57
        rintro t3 rfl hC3 hx3 F11 N11 off3 ne3 hS3
        have hg3 : Grown base3 nw := ⟨tl3, hnw3, htl3⟩
        have e3 : (1 : Int) + (i3 : Int) * 1 = ((i3 + 1 : Nat) : Int) := by (first | lia | omega)
        rw [e3] at hx3
        have c4 := hg3.sub _ cc4
        have c3 := hg3.sub _ cc3
        have c2 := hg3.sub _ cc2
        have c1 := hg3.sub _ cc1
        have hcb : 0 ≤ xs.getD i 0 ∧ xs.getD i 0 ≤ 1000 := by
          have h9 : i < xs.length := by rw [← la]; exact (List.getElem?_eq_some_iff.mp hv).1
          rw [getD_get h9]; exact hx _ (List.getElem_mem _)
        have e4 : ((most : Int) - ((i3 + 1 : Nat) : Int)).toNat = most - (i3 + 1) := Int.toNat_sub _ _
        clear F10 N10
        (try k_fold)
        repeat' (first | (k_unfold; (try dsimp only)) | (k_end; wrow_close) | walk1 | (dsimp only; walk1) | (leave1; walk_say "STEP leave1"; try dsimp only) | fail "no step")
        rename Fr g' _ _ _ => F12
        rename News g' _ _ _ => N12
        rw [e4] at N12
        (repeat (rename _ ∧ _ => hc9; have hc8 := And.left hc9; have hc7 := And.right hc9; clear hc9))
        refine cend_1 F12 N12 off3 hS3 (by assumption) (by assumption) (by assumption) ⟨_ :: tl3, by rw [hnw3]; rfl, ?_, ?_⟩
        · exact List.forall_mem_cons.mpr ⟨fun q hq => Nat.ne_of_lt (hg3.lt (by assumption) q hq), htl3⟩
        · rw [longC_take hi3, List.map_append]
          exact (h8.mono fun p hp => .tail _ hp).append (.one (.tuple (.head _) (.cons (.int _ _) (.cons (.int _ _) .nil))))
      case fin3 =>
        rintro g3 ys nw hJ58
        refine el1_3 hJ58 ?_
        clear hJ58
        rintro tl3 hnw3 htl3 h8 hS3
        have hg3 : Grown base3 nw := ⟨tl3, hnw3, htl3⟩
        rw [List.take_of_length_le (by simp [longC])] at h8
        have hys := h8.length
        simp only [longC, List.length_map, List.length_range] at hys
        have ccl' := hg3.sub _ ccl
        unfold LCg.FinE
        intro D9 h9 tk9 F11 N11 o1
        clear F10 N10
        (try k_fold)
        repeat' (first | (k_unfold; (try dsimp only)) | (k_end; wrow_close) | walk1 | (dsimp only; walk1) | (leave1; walk_say "STEP leave1"; try dsimp only) | fail "no step")
        rename Fr g' _ _ _ => F12
        rename News g' _ _ _ => N12
        rename_i D10 hz10 l10 hz11
        (try show wpAny _ _ _ _ _ { heap := _, gens := Shared.gens s, drawn := Shared.drawn s, toks := _, os := Shared.os s })
        (try k_fold)
        have hDn := tb_ltOf l10.2
        have hD9 := off1_mem o1
        have hoffr : ∀ (d : Addr) (o : Obj), (d, o) ∈ base3 → (∀ p ∈ rest2, p.1 ≠ d) → ∀ p ∈ ((D10, listOf (vl ++ ys).toArray 0) :: (D9, LCg.lst ys) :: (tl3 ++ rest2)), p.1 ≠ d := by
          intro d o hd hr
          simp only [List.forall_mem_cons]
          refine ⟨Nat.ne_of_gt (hDn _ (hg3.sub _ hd)), Ne.symm (hD9 _ (hg3.sub _ hd)), fun p hp => ?_⟩
          rcases List.mem_append.mp hp with hp | hp
          · exact Ne.symm (htl3 p hp _ hd)
          · exact hr p hp
        have hrb : ∀ p ∈ rest2, p ∈ base3 := fun p hp => by walk_at "mem"
        have hgr : Grown rest2 (tl3 ++ rest2) := ⟨tl3, rfl, fun p hp q hq => htl3 p hp q (hrb q hq)⟩
        have hgr2 := hg2.trans hgr
        have hin2 : ∀ p ∈ tl3 ++ rest2, p ∈ nw := fun p hp => by
          rw [hnw3]
          rcases List.mem_append.mp hp with hp | hp
          · exact List.mem_append_left _ hp
          · exact List.mem_append_right _ (hrb p hp)
        have hlenys : DatAll ((D10, listOf (vl ++ ys).toArray 0) :: (D9, LCg.lst ys) :: (tl3 ++ rest2)) (vl ++ ys) (((P.take (k + 1)).flatMap (longC most (xs.getD i 0))).map pD) := by
          rw [List.take_add_one, List.getElem?_eq_getElem hkP, List.flatMap_append, List.map_append]
          refine (hdl.mono fun p hp => .tail _ (.tail _ (List.mem_append_right _ hp))).append ?_
          simpa using h8.mono fun p hp => .tail _ (.tail _ hp)
        simp only [List.forall_mem_cons] at off2
        refine ⟨_, _, _, (L' + 1 + 1 + 1 + 1, ou3) :: (L' + 1 + 1 + 1, oc3) :: (I, oI') :: (L' + 1 + 1, on2) :: (L' + 1, om) :: (D10, listOf (vl ++ ys).toArray 0) :: (D9, LCg.lst ys) :: (tl3 ++ rest2), rfl, F12, fun p hp => N12 p ?_, ?_, ?_, ⟨ou3, oc3, D10, vl ++ ys, 0, _, _, fmH3 rfl rfl rfl, rfl, ⟨_, du3⟩, ⟨_, dc3⟩, (hgr2.consN fun q hq => hD9 _ (hin2 _ (hgr2.sub _ hq))).cons (fun q hq => hDn _ (hin2 _ (hgr2.sub _ hq))), hoffr _ _ cc4 q4, hoffr _ _ cc3 q3, hoffr _ _ cc2 q2, hoffr _ _ cc1 q1, hoffr _ _ (by walk_at "mem" : (I, oI') ∈ base3) qI, .head _, hlenys⟩⟩
        · revert hp p; walk_at "sub"
        · simp only [List.forall_mem_cons]
          exact ⟨off2.1, off2.2.1, off2.2.2.1, off2.2.2.2.1, off2.2.2.2.2.1, by simpa only [List.forall_mem_cons] using hoffr Ib oIb (by walk_at "mem") off2.2.2.2.2.2⟩
        · intro p hp
          rw [List.mem_singleton.mp hp]
          exact .tail _ (.tail _ (.tail _ (.tail _ (.tail _ (.tail _ (.tail _ (hgr2.sub _ hlr)))))))
    case done2 =>
      rintro m₂ nx h5 tk5 hJ59
      refine el7_12 hJ59 ?_
      clear hJ59
      rintro ou2 oc2 ll vl nl rest2 u2 rfl rfl hJ60
      refine el1_1 hJ60 ?_
      clear hJ60
      rintro vu2 hu42 hJ61
      refine el1_1 hJ61 ?_
      clear hJ61
      rintro vc2 hc32 hg2 q4 q3 q2 q1 qI hll hdl F8 N8
      have hus2 : us2.length = P.length := by rw [hd.length, List.length_map]
      rw [List.take_of_length_le (by (first | lia | omega))] at hdl
      have hvl : vl.length = (P.flatMap (longC most (xs.getD i 0))).length := by rw [hdl.length, List.length_map]
      have hix : i < xs.length := by rw [← la]; exact (List.getElem?_eq_some_iff.mp hv).1
      have hlgl : (P.flatMap (longC most (xs.getD i 0))).length ≤ 4 ^ (i + 1) := by
        have h9 := longs_len most (xs.getD i 0) P P.length
        rw [List.take_length] at h9
        rw [h9, Nat.min_self, Nat.pow_succ]
        exact Nat.mul_le_mul hPl (by assumption)
      have h45 : (4 : Nat) ^ (i + 1) ≤ 4 ^ 5 := Nat.pow_le_pow_right (by decide) (by (first | lia | omega))
      have h45' : (4 : Nat) ^ 5 = 1024 := by decide
      clear F6 N7
      (try k_fold)
      repeat' (first | (k_unfold; (try dsimp only)) | (k_end; wrow_close) | (fail_if_success (with_reducible show wpAny _ _ (exec (Stmt.For _ _ _ _ _) _) _ _ _)); first | walk1 | (dsimp only; walk1) | (leave1; walk_say "STEP leave1"; try dsimp only) | fail "no step")
      have hJ62 : ∃ b : Led, b = ((L' + 1 + 1 + 1 + 1, ou2) :: (L' + 1 + 1 + 1, oc2) :: (I, oI') :: (L' + 1 + 1, on2) :: (L' + 1, om) :: rest2) := ⟨_, rfl⟩
      refine el1_1 hJ62 ?_
      clear hJ62
      rintro base4 hb4
      rw [← hb4] at N8
      have hr24 : ∀ p ∈ rest2, p ∈ base4 := fun p hp => by walk_at "mem"
      have c1 : (L' + 1, om) ∈ base4 := by walk_at "mem"
      refine srcT_list rfl F8 N8 (hr24 _ hll) (by (first | lia | omega)) (fun i3 ys nw => nw = base4 ∧ DatAll rest2 ys ((((P.flatMap (longC most (xs.getD i 0))).take i3).filter fun p => decide (p.2 < 2 ^ most)).map pD)) ⟨rfl, .nil⟩ ?turn4 ?fin4
      case turn4 =>
        rintro i3 ys nw v I3 oI3 C3 oC3 D3 m3 h3 tk3 E3 hi3 hJ63
        refine el0_2 hJ63 ?_
        clear hJ63
        rintro rfl h8 hv3 hC3 hx3 F11 N11 off3 ne3 hS3
        have hi3' : i3 < (P.flatMap (longC most (xs.getD i 0))).length := by (first | lia | omega)
        obtain ⟨v', hv', hdv⟩ := hdl.get (k := i3) (by rw [List.length_map]; exact hi3')
        rw [hv3] at hv'
        obtain rfl := Option.some.inj hv'
        rw [List.getElem_map] at hdv
        have hdv0 := hdv
        have hJ64 := pD_inv hdv
        refine el4_2 hJ64 ?_
        clear hJ64
        rintro ta tt tu tn rfl hta
        have hta2 := hr24 _ hta
        have hJ65 : ∃ q, q = (P.flatMap (longC most (xs.getD i 0)))[i3]'hi3' := ⟨_, rfl⟩
        refine el1_1 hJ65 ?_
        clear hJ65
        rintro q9 hq9
        rw [← hq9] at hta hta2 hdv0
        have htk : ((P.flatMap (longC most (xs.getD i 0))).take (i3 + 1)).filter (fun p => decide (p.2 < 2 ^ most)) = ((P.flatMap (longC most (xs.getD i 0))).take i3).filter (fun p => decide (p.2 < 2 ^ most)) ++ (if q9.2 < 2 ^ most then [q9] else []) := by
          rw [List.take_add_one, List.getElem?_eq_getElem hi3', ← hq9, List.filter_append]
          congr 1
          by_cases h9 : q9.2 < 2 ^ most <;> simp [h9]
        clear F8 N8
        (try k_fold)
        repeat' (first | (k_unfold; (try dsimp only)) | (k_end; wrow_close) | walk1 | (dsimp only; walk1) | (leave1; walk_say "STEP leave1"; try dsimp only) | fail "no step")
        · rename Fr g' _ _ _ => F12
          rename News g' _ _ _ => N12
          have hq : q9.2 < 2 ^ most := by first | assumption | (have h9 : q9.2 < 2 ^ ((most : Int)).toNat := (by assumption); rwa [Int.toNat_natCast] at h9)
          refine cend_0 F12 N12 off3 hS3 ⟨rfl, ?_⟩
          rw [htk, if_pos hq, List.map_append]
          exact h8.append (.one hdv0)
        · rename Fr g' _ _ _ => F12
          rename News g' _ _ _ => N12
          have hq : ¬ q9.2 < 2 ^ most := by first | assumption | (have h9 : ¬ q9.2 < 2 ^ ((most : Int)).toNat := (by assumption); rwa [Int.toNat_natCast] at h9)
          refine cend_0 F12 N12 off3 hS3 ⟨rfl, ?_⟩
          rw [htk, if_neg hq, List.append_nil]
          exact h8
      case fin4 =>
        rintro g4 ys nw hJ66
        refine el0_2 hJ66 ?_
        clear hJ66
        rintro rfl h8 hS4
        rw [List.take_of_length_le (by (first | lia | omega))] at h8
        unfold LCg.FinA
        intro D9 h9 tk9 F11 N11 o1
        clear F8 N8
        (try k_fold)
        repeat' (first | (k_unfold; (try dsimp only)) | (k_end; wrow_close) | walk1 | (dsimp only; walk1) | (leave1; walk_say "STEP leave1"; try dsimp only) | fail "no step")
        rename Fr g' _ _ _ => F12
        rename News g' _ _ _ => N12
        have hD9 := off1_mem o1
        have hgg := hg.trans hg2
        have hi4 : ∀ (d : Addr) (o : Obj), (d, o) ∈ nw → (∀ p ∈ rest2, p.1 ≠ d) → ∀ p ∈ ((D9, LCg.lst ys) :: rest2), p.1 ≠ d := fun d o hd hr => List.forall_mem_cons.mpr ⟨Ne.symm (hD9 _ hd), hr⟩
        refine ⟨_, _, _, (L' + 1 + 1 + 1 + 1, ou2) :: (L' + 1 + 1 + 1, oc2) :: (L' + 1 + 1, on2) :: (L' + 1, om) :: (D9, LCg.lst ys) :: rest2, rfl, F12, fun p hp => N12 p ?_, ?_, ?_, ⟨ou2, oc2, on2, D9, ys, _, _, (D9, LCg.lst ys) :: rest2, _, fmH2 rfl rfl, rfl, ⟨_, hu42⟩, ⟨_, hc32⟩, ⟨_, hon2⟩, hgg.consN (fun q hq => hD9 _ (hr24 _ (hgg.sub _ hq))), hi4 _ ou2 (by walk_at "mem") q4, hi4 _ oc2 (by walk_at "mem") q3, hi4 _ on2 (by walk_at "mem") q2, hi4 _ om (by walk_at "mem") q1, .head _, h8.mono (fun p hp => .tail _ hp), Nat.le_trans (List.length_filter_le _ _) hlgl, ?_⟩⟩
        · revert hp p; walk_at "sub"
        · simp only [List.forall_mem_cons]
          exact ⟨hI4, hI3, hI2, hI1, Ne.symm (hD9 (I, oI') (by walk_at "mem")), qI⟩
        · intro p hp
          rw [List.mem_singleton.mp hp]
          exact .tail _ (.tail _ (.tail _ (.tail _ (.tail _ (hgg.sub _ ha)))))
        · rw [← hle, List.drop_eq_getElem_cons hix, leastC, getD_get hix]
  case done =>
    rintro m₁ nx h tk hJ67
    refine el9_14 hJ67 ?_
    clear hJ67
    rintro ou oc on lr us2 nf P rest u rfl rfl hJ68
    refine el1_1 hJ68 ?_
    clear hJ68
    rintro vu hu4 hJ69
    refine el1_1 hJ69 ?_
    clear hJ69
    rintro vc hc3 hJ70
    refine el1_1 hJ70 ?_
    clear hJ70
    rintro vn hn2 hg r4 r3 r2 r1 hlr hd hPl hle F5 N5
    clear F3 N4 N3
    have hus2 : us2.length = P.length := by rw [hd.length, List.length_map]
    rw [List.drop_of_length_le (by (first | lia | omega))] at hle
    have hPne : P ≠ [] := by intro e; rw [e] at hle; exact hne hle.symm
    have hPP : P = leastC most xs [(0, 0)] := hle
    have h45 : (4 : Nat) ^ us.length ≤ 4 ^ 5 := Nat.pow_le_pow_right (by decide) (by (first | lia | omega))
    have h45' : (4 : Nat) ^ 5 = 1024 := by decide
    (try k_fold)
    repeat' (first | (k_unfold; (try dsimp only)) | (k_end; wrow_close) | walk1 | (dsimp only; walk1) | (leave1; walk_say "STEP leave1"; try dsimp only) | fail "no step")
    have hJ71 : ∃ b : Led, b = ((L' + 1 + 1 + 1 + 1, ou) :: (L' + 1 + 1 + 1, oc) :: (L' + 1 + 1, on) :: (L' + 1, om) :: rest) := ⟨_, rfl⟩
    refine el1_1 hJ71 ?_
    clear hJ71
    rintro base4 hb4
    rw [← hb4] at N5
    have hr24 : ∀ p ∈ rest, p ∈ base4 := fun p hp => by walk_at "mem"
    refine srcP_list rfl F5 N5 (hr24 _ hlr) (by (first | lia | omega)) (fun i3 ys nw => nw = base4 ∧ IntsAre ys ((P.take i3).map (·.1))) ⟨rfl, .nil⟩ ?turn5 ?fin5
    case turn5 =>
      rintro i3 ys nw v hi3 hJ72
      refine el0_2 hJ72 ?_
      clear hJ72
      rintro rfl h8 hv3 hS3
      obtain ⟨v', hv', hdv⟩ := hd.get (k := i3) (by rw [List.length_map]; (first | lia | omega))
      rw [hv3] at hv'
      obtain rfl := Option.some.inj hv'
      rw [List.getElem_map] at hdv
      have hiP : i3 < P.length := by (first | lia | omega)
      have hJ73 := pD_inv hdv
      refine el4_2 hJ73 ?_
      clear hJ73
      rintro ta tt tu tn rfl hta
      refine ⟨ta, _, _, tn, rfl, hr24 _ hta, ?_⟩
      intro I3 oI3 C3 oC3 D3 m3 h3 tk3 E3 hC3 hx3 hx4 F11 N11 off3 ne3
      clear F5 N5
      (try k_fold)
      repeat' (first | (k_unfold; (try dsimp only)) | (k_end; wrow_close) | walk1 | (dsimp only; walk1) | (leave1; walk_say "STEP leave1"; try dsimp only) | fail "no step")
      refine cend_0 F11 N11 off3 hS3 ⟨rfl, ?_⟩
      rw [List.take_add_one, List.getElem?_eq_getElem hiP, List.map_append]
      exact h8.append (.cons _ _ .nil)
    case fin5 =>
      rintro g5 ys nw hJ74
      refine el0_2 hJ74 ?_
      clear hJ74
      rintro rfl h8 hS5
      rw [List.take_of_length_le (by (first | lia | omega))] at h8
      have hpos : 0 < (P.map (·.1)).length := by rw [List.length_map]; exact List.length_pos_iff.mpr hPne
      unfold LCg.FinE
      intro D9 h9 tk9 F11 N11 o1
      clear F5 N5
      (try k_fold)
      repeat' (first | (k_unfold; (try dsimp only)) | (k_end; wrow_close) | walk1 | (dsimp only; walk1) | (leave1; walk_say "STEP leave1"; try dsimp only) | fail "no step")
      rename Fr h₀ L _ m => kF
      rename News h₀ L _ _ => kN
      rename _ ∈ List.map _ _ => hM
      have hMl := (show ∀ a ∈ P.map (·.1), _ ≤ a by assumption)
      refine hret _ _ _ _ kF kN ⟨_, _, rfl, by rw [← hPP]; exact hM, fun p hp => hMl _ (List.mem_map.mpr ⟨p, by rw [hPP]; exact hp, rfl⟩), ?_⟩
      have hgb : Grown news nw := by
        rw [hb4]
        have hlt : ∀ d : Nat, @LT.lt Nat _ L' d → ∀ q ∈ news, q.1 ≠ d := fun d h q hq => Nat.ne_of_lt (Nat.lt_trans (l1 q hq) h)
        exact (((hg.consN (hlt _ (by (first | lia | omega)))).consN (hlt _ (by (first | lia | omega)))).consN (hlt _ (by (first | lia | omega)))).consN (hlt _ (by (first | lia | omega)))
      exact hgb.consN fun q hq => off1_mem o1 q (hgb.sub q hq)
end --T_Least

section --T_Coins
open PySem PySem.W PyProof.Rows PySem.Spec PySem.Calls
noncomputable def coinsC (first : Int) (ws : List Int) : List Coin := (List.range ws.length).map fun (k : Nat) => ((ws.getD k 0, [first + (k : Int)]) : Coin)
theorem coinsC_take {first : Int} {ws : List Int} {i : Nat} (h : i < ws.length) : (coinsC first ws).take (i + 1) = (coinsC first ws).take i ++ [(ws.getD i 0, [first + (i : Int)])] := by
  rw [List.take_add_one]
  congr 1
  simp [coinsC, h]
set_option maxRecDepth 100000 in
set_option maxHeartbeats 1000000 in
theorem coins_tel (w : World) {src : Addr} {x y first : Int} {t u v : Tok} {n : Nat} {rest : Led} (h1 : 0 ≤ x) (h2 : 0 ≤ y) (h3 : y < 2147483647) (h6 : ∀ p ∈ rest, p.1 ≠ src) (hf : 0 ≤ first ∧ first ≤ 100) :
    Tel w 162 3 [.ref src, .int first v] ((src, listOf #[.int x t, .int y u] n) :: rest) (fun r news' => ∃ ws rest', Src src rest' news' ∧ Grown rest rest' ∧ (∀ p ∈ rest', p.1 ≠ src) ∧ DatIn rest' r (csD (coinsC first ws)) ∧ ws.Pairwise (· ≤ ·) ∧ (∀ x ∈ ws, 0 ≤ x ∧ x < 6) ∧ ws.length ≤ 4) := by
  w_top off
  unfold Tel
  k_fill
  intro mean mg mb dp un gd cn cs a ccd cl outer A₀ base h₀ L m s Q E B F X N T hk hd hu hret
  refine wpAny_call ?_
  k_dflt (refine' code_defC ?k1 ?k2 ?k3 ?k4 ?k5 ?kA ?kF ?kK ?k6 ?k7 ?k8 ?k9 ?kB ?kD ?_ ?c2 ?c3 ?c4; (case kA => exact rfl); (case kF => exact rfl); (case kK => assumption); (case k1 => k_asm); (case k2 => k_asm); (case k3 => k_asm); (case k4 => k_asm); (case k5 => k_asm); (case k6 => k_is); (case k7 => k_is); (case k8 => ktr_room); (case k9 => exact BindsTo.of_eq rfl); (case kB => exact rfl); (case kD => decide +kernel); (case c2 => exact rfl); (case c3 => exact rfl); (case c4 => exact rfl); k_whole; intro g' L' h' tk' cells' FG' F' N' Y' B' X' T' l1; (try k_lt l1); k_cells Y'; (try simp only [List.cons_append, List.nil_append] at N'); (try dsimp only); (try k_fold))
  rename Fr _ _ _ _ => F1
  have F2 : Fr _ _ _ (fun _ => none) := F1
  clear F1
  rename News g' L' _ _ => N1
  rename_i ow of os dw df ds0
  have hcw : ow.data = .cell none := dw
  have hcf : of.data = .cell (some (.int first v)) := df
  have hcs : os.data = .cell (some (.ref src)) := ds0
  clear dw df ds0
  have hsL : @LT.lt Nat _ src L' := l1.1
  have hrL : ∀ p ∈ rest, p.1 < L' := tb_ltOf l1.2
  have hr3 : ∀ p ∈ rest, p.1 ≠ L' + 1 + 1 + 1 := fun p hp => Nat.ne_of_lt (Nat.lt_trans (hrL p hp) (by (first | lia | omega)))
  have hg0 : Grown rest ((L' + 1 + 1 + 1, ow) :: (L' + 1 + 1, of) :: (L' + 1, os) :: rest) := by
    have hlt : ∀ d : Nat, @LT.lt Nat _ L' d → ∀ q ∈ rest, q.1 ≠ d := fun d h q hq => Nat.ne_of_lt (Nat.lt_trans (hrL q hq) h)
    exact (((Grown.refl _).consN (hlt _ (by (first | lia | omega)))).consN (hlt _ (by (first | lia | omega)))).consN (hlt _ (by (first | lia | omega)))
  have hsb : ∀ p ∈ ((L' + 1 + 1 + 1, ow) :: (L' + 1 + 1, of) :: (L' + 1, os) :: rest), p.1 ≠ src := by
    have hlt : ∀ d : Nat, @LT.lt Nat _ L' d → @Ne Nat d src := fun d h => by (first | lia | omega)
    simp only [List.forall_mem_cons]
    exact ⟨hlt _ (by (first | lia | omega)), hlt _ (by (first | lia | omega)), hlt _ (by (first | lia | omega)), h6⟩
  have N2 : News g' L' h' ((src, listOf #[.int x t, .int y u] n) :: (L' + 1 + 1 + 1, ow) :: (L' + 1 + 1, of) :: (L' + 1, os) :: rest) := fun p hp => N1 p (by
    revert hp p; walk_at "sub")
  clear N1
  (try k_fold)
  repeat' (first | (k_unfold; (try dsimp only)) | (k_end; wrow_close) | (fail_if_success (with_reducible show wpAny _ _ (exec (Stmt.For _ _ _ _ _) _) _ _ _)); first | walk1 | (dsimp only; walk1) | (leave1; walk_say "STEP leave1"; try dsimp only) | fail "no step")
  with_unfolding_all refine' tel_use (take_tel w h1 h2 h3 (by decide) (by decide) hsb) B' F2 X' N2 T' rfl ?hd ?hu ?_
  case hd => first | exact room2 hd (by decide) | ktr_room
  case hu => first | exact room2 hu (by decide) | (show un + 3 + _ < _; exact room2 hu (by decide)) | (simp only [units_deeper]; (first | lia | omega))
  rintro r0 news0 h4 tk4 F3 N3 hJ75
  refine el2_4 hJ75 ?_
  clear hJ75
  rintro d5 td rfl hd0 hd5 hJ76
  refine el5_4 hJ76 ?_
  clear hJ76
  rintro x2 y2 t2 u2 n2 rfl k1 k2 k3
  clear F2 N2
  (try k_fold)
  repeat' (first | (k_unfold; (try dsimp only)) | (k_end; wrow_close) | walk1 | (dsimp only; walk1) | (leave1; walk_say "STEP leave1"; try dsimp only) | fail "no step")
  rename IsRange _ _ _ _ _ _ _ _ => rgX
  rename Fr g' _ _ _ => F4
  rename News g' _ _ _ => N4
  have hcsb : (L' + 1, os) ∈ ((L' + 1 + 1 + 1, ow) :: (L' + 1 + 1, of) :: (L' + 1, os) :: rest) := by simp
  refine srcU_range (n := d5.toNat) rfl F4 N4 rgX (rgD (by assumption) (by (first | lia | omega))) rgD' (by (first | lia | omega)) (fun i ys nw => ∃ ds, Src src ((L' + 1 + 1 + 1, ow) :: (L' + 1 + 1, of) :: (L' + 1, os) :: rest) nw ∧ IntsAre ys ds ∧ (∀ x ∈ ds, 0 ≤ x ∧ x < 6) ∧ ds.length = i) ⟨[], ⟨_, _, _, _, _, rfl, k1, k2, k3⟩, .nil, (fun _ h => nomatch h), rfl⟩ ?turn ?fin
  case turn =>
    rintro i ys nw v I oI C oC D9 m3 h3 tk3 E3 hi3 hJ77
    refine el1_4 hJ77 ?_
    clear hJ77
    rintro ds hJ78
    refine el5_4 hJ78 ?_
    clear hJ78
    rintro x3 y3 t3 u3 n3 rfl j1 j2 j3 hds hdb hdl hJ79
    refine el1_1 hJ79 ?_
    clear hJ79
    rintro t4 rfl hC hx F5 N5 off ne hS
    have off3 := off.mem
    have hsb2 : ∀ p ∈ ((I, oI) :: (C, oC) :: (D9, LCg.lst ys) :: (L' + 1 + 1 + 1, ow) :: (L' + 1 + 1, of) :: (L' + 1, os) :: rest), p.1 ≠ src := by
      have o1 := off3 _ (.head _)
      exact List.forall_mem_cons.mpr ⟨Ne.symm o1.1, List.forall_mem_cons.mpr ⟨Ne.symm o1.2.1, List.forall_mem_cons.mpr ⟨Ne.symm o1.2.2, hsb⟩⟩⟩
    have N6 : News g' L' h3 ((src, listOf #[.int x3 t3, .int y3 u3] n3) :: (I, oI) :: (C, oC) :: (D9, LCg.lst ys) :: (L' + 1 + 1 + 1, ow) :: (L' + 1 + 1, of) :: (L' + 1, os) :: rest) := fun p hp => N5 p (by
      revert hp p; walk_at "sub")
    clear F4 N4 N5
    (try k_fold)
    repeat' (first | (k_unfold; (try dsimp only)) | (k_end; wrow_close) | walk1 | (dsimp only; walk1) | (leave1; walk_say "STEP leave1"; try dsimp only) | fail "no step")
    with_unfolding_all refine' tel_use (take_tel w j1 j2 j3 (by decide) (by decide) hsb2) B' F5 X' N6 T' rfl ?hd ?hu ?_
    case hd => first | exact room2 hd (by decide) | ktr_room
    case hu => first | exact room2 hu (by decide) | (show un + 3 + _ < _; exact room2 hu (by decide)) | (simp only [units_deeper]; (first | lia | omega))
    rintro r1 news1 h5 tk5 F7 N7 hJ80
    refine el2_4 hJ80 ?_
    clear hJ80
    rintro d6 td6 rfl hd60 hd66 hJ81
    refine el5_4 hJ81 ?_
    clear hJ81
    rintro x4 y4 t6 u6 n4 rfl l4 l5 l6
    clear N6 F5
    (try k_fold)
    repeat' (first | (k_unfold; (try dsimp only)) | (k_end; wrow_close) | walk1 | (dsimp only; walk1) | (leave1; walk_say "STEP leave1"; try dsimp only) | fail "no step")
    refine LCg.CompEnd.intro F7 N7 ((src, listOf #[.int x4 t6, .int y4 u6] n4) :: (L' + 1 + 1 + 1, ow) :: (L' + 1 + 1, of) :: (L' + 1, os) :: rest) ?_ (by exact ⟨off.1, off.2⟩) (fun _ h => nomatch h) ⟨ds ++ [d6], ⟨_, _, _, _, _, rfl, l4, l5, l6⟩, hds.append (.cons _ _ .nil), ?_, by simp [hdl]⟩
    · intro p hp
      revert hp p; walk_at "sub"
    · intro z hz
      rcases List.mem_append.mp hz with hz | hz
      · exact hdb z hz
      · rw [List.mem_singleton.mp hz]; exact ⟨hd60, hd66⟩
  case fin =>
    rintro g5 ys nw hJ82
    refine el1_4 hJ82 ?_
    clear hJ82
    rintro ds hJ83
    refine el5_4 hJ83 ?_
    clear hJ83
    rintro x3 y3 t3 u3 n3 rfl j1 j2 j3 hds hdb hdl hS
    unfold LCg.FinE
    intro D9 h9 tk9 F5 N5 o1
    have hD9 := off1_mem o1
    have hD93 : @Ne Nat (L' + 1 + 1 + 1) D9 := hD9 _ (.tail _ (.head _))
    clear F4 N4
    (try k_fold)
    repeat' (first | (k_unfold; (try dsimp only)) | (k_end; wrow_close) | walk1 | (dsimp only; walk1) | (leave1; walk_say "STEP leave1"; try dsimp only) | fail "no step")
    rename IsRange _ _ _ _ _ _ _ _ => rgX2
    rename Fr g' _ _ _ => F8
    rename News g' _ _ _ => N8
    rename_i hz0 tkz0 tz0 uz0 vz0 kz0 D10 vs ws cw hz1 hiw hlw hpw how hbw hpw2 lw hz2 ow2 _ _ dw2 hz3 tkz3 tz3 uz3 vz3 kz3
    (try show wpAny _ _ _ _ _ { heap := _, gens := Shared.gens s, drawn := Shared.drawn s, toks := _, os := Shared.os s })
    (try k_fold)
    have hvl : vs.length = ws.length := hiw.length
    have hwl : ws.length ≤ 4 := by (first | lia | omega)
    have hJ84 : ∃ b : Led, b = ((D10, listOf vs.toArray cw) :: (D9, LCg.lst ys) :: (src, listOf #[.int x3 t3, .int y3 u3] n3) :: (L' + 1 + 1 + 1, ow2) :: (L' + 1 + 1, of) :: (L' + 1, os) :: rest) := ⟨_, rfl⟩
    refine el1_1 hJ84 ?_
    clear hJ84
    rintro base5 hb5
    rw [← hb5] at N8
    have b1 : (L' + 1 + 1 + 1, ow2) ∈ base5 := by walk_at "mem"
    have b2 : (L' + 1 + 1, of) ∈ base5 := by walk_at "mem"
    have b3 : (D10, listOf vs.toArray cw) ∈ base5 := by walk_at "mem"
    refine srcU_range (n := ws.length) rfl F8 N8 rgX2 (rgA (by (first | lia | omega))) rgA' (by (first | lia | omega)) (fun i3 ys5 nw => ∃ tl : Led, nw = tl ++ base5 ∧ (∀ p ∈ tl, ∀ q ∈ base5, q.1 ≠ p.1) ∧ DatAll tl ys5 (((coinsC first ws).take i3).map cD)) ⟨[], rfl, (fun _ h => nomatch h), .nil⟩ ?turn5 ?fin5
    case turn5 =>
      rintro i3 ys5 nw v5 I3 oI3 C3 oC3 D3 m5 h5 tk5 E5 hi5 hJ85
      refine el1_3 hJ85 ?_
      clear hJ85
      rintro tl hnw htl h8 hJ86
      refine el1_1 hJ86 ?_
      clear hJ86
      rintro t5 rfl hC5 hx5 F9 N9 off5 ne5 hS5
      have hg5 : Grown base5 nw := ⟨tl, hnw, htl⟩
      have e3 : (0 : Int) + (i3 : Int) * 1 = (i3 : Int) := by (first | lia | omega)
      rw [e3] at hx5
      have c1 := hg5.sub _ b1
      have c2 := hg5.sub _ b2
      have c3 := hg5.sub _ b3
      clear F8 N8
      (try k_fold)
      repeat' (first | (k_unfold; (try dsimp only)) | (k_end; wrow_close) | walk1 | (dsimp only; walk1) | (leave1; walk_say "STEP leave1"; try dsimp only) | fail "no step")
      rename Fr g' _ _ _ => F12
      rename News g' _ _ _ => N12
      rw [Int.toNat_natCast] at N12
      (repeat (rename _ ∧ _ => hc9; have hc8 := And.left hc9; have hc7 := And.right hc9; clear hc9))
      refine cend_2 F12 N12 off5 hS5 (by assumption) (by assumption) (by assumption) (by assumption) (by assumption) (by assumption) ⟨_ :: _ :: tl, by rw [hnw]; rfl, ?_, ?_⟩
      · exact List.forall_mem_cons.mpr ⟨fun q hq => Nat.ne_of_lt (hg5.lt (by assumption) q hq), List.forall_mem_cons.mpr ⟨fun q hq => Nat.ne_of_lt (hg5.lt (by assumption) q hq), htl⟩⟩
      · rw [coinsC_take hi5, List.map_append]
        exact (h8.mono fun p hp => .tail _ (.tail _ hp)).append (.one (.tuple (.head _) (.cons (.int _ _) (.cons (.list (.tail _ (.head _)) (.cons (.int _ _) .nil)) .nil))))
    case fin5 =>
      rintro g6 ys5 nw hJ87
      refine el1_3 hJ87 ?_
      clear hJ87
      rintro tl hnw htl h8 hS5
      rw [List.take_of_length_le (by simp [coinsC])] at h8
      unfold LCg.FinE
      intro D11 h9 tk9 F9 N9 o2
      clear F8 N8
      (try k_fold)
      repeat' (first | (k_unfold; (try dsimp only)) | (k_end; wrow_close) | walk1 | (dsimp only; walk1) | (leave1; walk_say "STEP leave1"; try dsimp only) | fail "no step")
      rename Fr h₀ L _ m => kF
      rename News h₀ L _ _ => kN
      have hD11 := off1_mem o2
      have hin : ∀ p ∈ ((D10, listOf vs.toArray cw) :: (D9, LCg.lst ys) :: (L' + 1 + 1 + 1, ow2) :: (L' + 1 + 1, of) :: (L' + 1, os) :: rest), p ∈ base5 := fun p hp => by
        revert hp p; walk_at "sub"
      have hinw : ∀ p ∈ base5, p ∈ nw := fun p hp => by rw [hnw]; exact List.mem_append_right _ hp
      have hsrc5 : (src, listOf #[.int x3 t3, .int y3 u3] n3) ∈ base5 := by walk_at "mem"
      refine hret _ ((src, listOf #[.int x3 t3, .int y3 u3] n3) :: (D11, LCg.lst ys5) :: (tl ++ ((D10, listOf vs.toArray cw) :: (D9, LCg.lst ys) :: (L' + 1 + 1 + 1, ow2) :: (L' + 1 + 1, of) :: (L' + 1, os) :: rest))) _ _ kF (fun p hp => kN p ?_) ⟨ws, _, ⟨_, _, _, _, _, rfl, j1, j2, j3⟩, ?_, ?_, .list (.head _) (h8.mono fun p hp => .tail _ (List.mem_append_left _ hp)), how, fun z hz => hdb z (hpw.mem_iff.mp hz), hwl⟩
      · rcases List.mem_cons.mp hp with rfl | hp
        · exact .tail _ (hinw _ hsrc5)
        rcases List.mem_cons.mp hp with rfl | hp
        · exact .head _
        rcases List.mem_append.mp hp with hp | hp
        · exact .tail _ (by rw [hnw]; exact List.mem_append_left _ hp)
        · exact .tail _ (hinw _ (hin p hp))
      · have hrb : ∀ p ∈ rest, p ∈ base5 := fun p hp => hin p (by simp [hp])
        have hlt : ∀ d : Nat, @LT.lt Nat _ L' d → ∀ q ∈ rest, q.1 ≠ d := fun d h q hq => Nat.ne_of_lt (Nat.lt_trans (hrL q hq) h)
        have g1 : Grown rest ((D10, listOf vs.toArray cw) :: (D9, LCg.lst ys) :: (L' + 1 + 1 + 1, ow2) :: (L' + 1 + 1, of) :: (L' + 1, os) :: rest) := by
          refine ((((((Grown.refl _).consN (hlt _ (by (first | lia | omega)))).consN (hlt _ (by (first | lia | omega)))).consN (hlt _ (by (first | lia | omega)))).consN fun q hq => ?_).consN fun q hq => ?_)
          · exact hD9 q (by simp [hq])
          · exact Nat.ne_of_lt (tb_ltOf lw.2.2.2.2.2 q hq)
        have hJ88 := g1
        refine el1_2 hJ88 ?_
        clear hJ88
        try clear g1
        rintro t1 e1 k1'
        refine Grown.consN ⟨tl ++ t1, by rw [e1, List.append_assoc], fun p hp q hq => ?_⟩ fun q hq => hD11 q (hinw _ (hrb q hq))
        rcases List.mem_append.mp hp with hp | hp
        · exact htl p hp q (hrb q hq)
        · exact k1' p hp q hq
      · refine List.forall_mem_cons.mpr ⟨Ne.symm (hD11 _ (hinw _ hsrc5)), fun p hp => ?_⟩
        rcases List.mem_append.mp hp with hp | hp
        · exact Ne.symm (htl p hp _ hsrc5)
        · rcases List.mem_cons.mp hp with rfl | hp
          · exact Nat.ne_of_gt lw.2.1
          rcases List.mem_cons.mp hp with rfl | hp
          · exact Ne.symm (hD9 _ (.head _))
          · have hlt : ∀ d : Nat, @LT.lt Nat _ L' d → @Ne Nat d src := fun d h => by (first | lia | omega)
            rcases List.mem_cons.mp hp with rfl | hp
            · exact hlt _ (by (first | lia | omega))
            rcases List.mem_cons.mp hp with rfl | hp
            · exact hlt _ (by (first | lia | omega))
            rcases List.mem_cons.mp hp with rfl | hp
            · exact hlt _ (by (first | lia | omega))
            · exact h6 p hp
end --T_Coins

section --T_Exc
open PySem PySem.W PyProof.Rows PySem.Spec PySem.Calls
section
variable {prog : Program} {w : World} {A : Around} {E : Value → Shared → Prop} {h : Heap} {g : Array GenState} {d : Drawn} {t : Nat} {os : OsState}
noncomputable abbrev bmT : List Value := [.ref 31, .type "Exception", .type "BaseException", .type "object"]
noncomputable abbrev clsT : Obj := excClassObj (Str.ofString "TableError") (Str.ofString "TableError") 44 43 [.ref 31] bmT true [] [] false none none (some (.ref 35)) none (some (.str (Str.ofString "TableError") 218)) (some (.str (Str.ofString "TableError") 226)) (some (.bool true)) "Exception.__new__"
theorem clsT_at {p : Params} (X : (hdK p).In h) : h.get? 44 = some clsT := X 44 _ rfl
/-- the new exception, before its __init__ -/
theorem te_new {R : Result → Shared → Prop} {v : Value} (hC : h.get? 44 = some clsT)
    (hq : R (.ok (.ret (.ref (h.objs.size + 1)))) ⟨(h.push { cls := .type "tuple", data := .seq #[v] }).push { cls := .ref 44, data := .fields #[.ref h.objs.size, .none, .none, .none, .bool false, .none] }, g, d, t, os⟩) :
    codeAny (model prog w) A (.builtin "Exception.__new__" ⟨[.ref 44, v], []⟩) R ⟨h, g, d, t, os⟩ := by
  have F := PySem.F.excBase_Exception
  have hends := F.ends
  have hcB : (Value.ref 44 :: bmT).contains (.type "Exception") = true := by decide
  have hcA : (Value.ref 44 :: bmT).contains (.type "AttributeError") = false := by decide
  have hcN : (Value.ref 44 :: bmT).contains (.type "NameError") = false := by decide
  refine codeAny_builtinAt F.entry ?_
  unfold Builtin.«BaseException.__new__»
  refine PySem.wpAt_bind ?_
  show PySem.wpAt _ _ _ (stack >>= _) _ _ _
  refine PySem.wpAt_bind (PySem.wpAt_stack fun p below => PySem.wpAt_of_wpAny ?_)
  wp_walk
  refine PySem.wpAt_of_wpAny ?_
  rw [F.owner]
  repeat (first | with_reducible refine wpAny_madeHere_exc F.canon hC ?_ | with_reducible refine wpAny_loadPart_at hC ?_ | (with_reducible refine wpAny_isSubtype_exc hC ?_; first | rw [hcB] | rw [hcA] | rw [hcN]) | wp_step)
  show R _ _
  rw [Heap.size_push]
  exact hq
theorem te_check {M : Model} {v : Value} {Q : Unit → Shared → Prop} (hC : h.get? 44 = some clsT) (hq : Q () ⟨h, g, d, t, os⟩) : wpAny M A (checkBuiltinCall "Exception.__new__" ⟨[.ref 44, v], []⟩) Q E ⟨h, g, d, t, os⟩ := by
  have F := PySem.F.excBase_Exception
  have hcB : (Value.ref 44 :: bmT).contains (.type "Exception") = true := by decide
  have hstar := F.noStar
  simp only [checkBuiltinCall, F.newKind, F.newSplit, F.newRow]
  repeat (first | refine wpAny_loadPart_at hC ?_ | (refine wpAny_isSubtype_exc hC ?_; rw [hcB]) | refine wpAny_staticBase_exc hC ?_ | refine wpAny_madeBy_exc hC ?_ | simp only [bne_self_eq_false, Bool.false_eq_true, if_false] | wp_step)
  exact hq
theorem te_call {p : Params} {v : Value} {Q : Value → Shared → Prop} (X : (hdK p).In h)
    (hq : ∀ h' e, Heap.MadeExcOf h h' e (.ref 44) [v] →
      wpAny (model prog w) (A.under (.builtin "type.__call__" ⟨[.ref 44, v], []⟩)) (call (.ref 28) [.ref e, v]) (fun r s' => r = .none ∧ Q (.ref e) s') E ⟨h', g, d, t, os⟩) :
    wpAny (model prog w) A (call (.ref 44) [v]) Q E ⟨h, g, d, t, os⟩ := by
  k_fill
  have hC := clsT_at X
  have F := PySem.F.excBase_Exception
  have f1 := tc_lookup
  have f2 := tc_bind (.ref 44)
  have hT : (⟨h, g, d, t, os⟩ : Shared).TypeIs (.ref 44) "type" := ⟨_, hC, rfl⟩
  refine wpAny_call (codeAny_of_tree ?_)
  show wpAny _ _ (callAny (.ref 44) _) _ _ _
  repeat (any_goals (first | assumption | with_reducible refine wpAny_loadPart_at hC ?_ | wp_step))
  refine ⟨rfl, ?_⟩
  refine codeAny_call_builtin_at (Code.quiet_builtin _ (by decide +kernel)) entry_typeCall (wpAny_check_type_call_sub hC ?_)
  repeat (first | with_reducible refine wpAny_loadPart_at hC ?_ | with_reducible refine wpAny_madeBy_exc hC ?_ | wp_step)
  refine codeAny_call_builtin_code (Code.quiet_builtin _ F.quiet) (te_check hC ?_)
  refine te_new hC ?_
  show wpAny _ _ _ _ _ _
  have hJ89 : ∃ h2, h2 = (h.push { cls := .type "tuple", data := .seq #[v] }).push { cls := .ref 44, data := .fields #[.ref h.objs.size, .none, .none, .none, .bool false, .none] } := ⟨_, rfl⟩
  refine el1_1 hJ89 ?_
  clear hJ89
  rintro h2 hh2
  have kp : ∀ b o, h.get? b = some o → h2.get? b = some o := fun b o e => by rw [hh2]; exact Heap.get?_push_of_some _ (Heap.get?_push_of_some _ e)
  have hget : h2.get? (h.objs.size + 1) = some { cls := .ref 44, data := .fields #[.ref h.objs.size, .none, .none, .none, .bool false, .none] } := by rw [hh2]; heap_get
  have hgt : h2.get? h.objs.size = some { cls := .type "tuple", data := .seq #[v] } := by rw [hh2]; exact Heap.get?_push_of_some _ (Heap.get?_push_at rfl rfl)
  rw [← hh2]
  have X2 : (hdK p).In h2 := fun b o e => kp b o (X b o e)
  have hC2 := clsT_at X2
  have hcC : (Value.ref 44 :: bmT).contains (.ref 44) = true := by decide
  unfold isInstance
  repeat (first | with_reducible refine wpAny_loadPart_at hget ?_ | (with_reducible refine wpAny_isSubtype_exc hC2 ?_; rw [hcC]) | wp_step)
  show wpAny _ _ (typeLookup (.ref 44) _) _ _ _
  refine (looks_findIn X2 (show findIn (hdK p) (.ref 44) "__init__" = some (some (.ref 28)) by kernel_rfl)).here ?_
  refine wpAny_holding (wpAny_bind ?_)
  refine (bind_fn X2 _ (show typeIn (hdK p) (.ref 28) = some (.type "function") by kernel_rfl)).here ?_
  refine wpAny_bind (wpAny_mono (hq _ (h.objs.size + 1) ⟨kp, Heap.get?_none_of_le (Nat.le_succ _), h.objs.size, hget, Heap.get?_none_of_le (Nat.le_refl _), hgt⟩) (fun r s' hr => ?_) fun _ _ x => x)
  have hJ90 := hr
  refine el0_2 hJ90 ?_
  clear hJ90
  try clear hr
  rintro rfl hQ
  wp_walk
  exact hQ
end
noncomputable abbrev excO (d : Option Addr) (t : Addr) : Obj := { cls := .ref 44, dict := d, data := .fields #[.ref t, .none, .none, .none, .bool false, .none] }
section
variable {prog : Program} {w : World} {A : Around} {E : Value → Shared → Prop} {h : Heap} {g : Array GenState} {d : Drawn} {t : Nat} {os : OsState}
set_option maxRecDepth 100000 in
theorem exc_getm {s : Shared} {p : Params} {pl : Sem Bool} {Q : Value × List Value → Shared → Prop} (X : (hdK p).In s.heap) (h : Q (.builtin "Exception.__init__", []) { s with toks := s.toks + 1 }) :
    wpAny (model prog w) A (getMethod (.type "Exception") (Str.ofString "__init__") pl) Q E s := by
  have hstub : opaqueClassAbove (.type "Exception") = pure none := by unfold opaqueClassAbove; dsimp only; rw [show Manifest.isStub "Exception" = false by decide +kernel]; rfl
  have ht : typeOf (.type "Exception") = pure (.type "type") := by first | rfl | kernel_rfl
  have L0 : Looks (model prog w) s.heap (typeOf (.type "Exception")) (.type "type") := Looks.of_pure ht
  have hg : findIn (hdK p) (.type "type") "__getattribute__" = some (some (.builtin "type.__getattribute__")) := by kernel_rfl
  have e : findCls (hdK p) (.type "Exception") (.type "type") (Str.ofString "__init__") = some (.val (.builtin "Exception.__init__")) := by kernel_rfl
  unfold getMethod specialOf
  refine wpAny_bind (wpAny_bind (L0.here ((looks_findIn X hg).here ?_)))
  dsimp only
  rw [if_pos canon_tga]
  refine wpAny_bind (wpAny_mono (Q := fun v => Q (v, [])) (E := E) ?_ (fun _ _ z => wpAny_pure z) fun _ _ z => z)
  have LO : Looks (model prog w) s.heap (opaqueClassAbove (.type "Exception")) none := Looks.of_pure hstub
  refine cls_open X LO L0 hg (looks_hook X (r := none) (by kernel_rfl)) (by show subIn (hdK p) _ _ = _; kernel_rfl) e ?_
  exact wpAny_pure (handed_on (by kernel_rfl) h)
set_option maxRecDepth 100000 in
theorem exc_init {e t0 : Addr} {v : Value} {Q : Value → Shared → Prop} (hC : h.get? 44 = some clsT) (he : h.get? e = some (excO none t0))
    (hq : ∀ h' t1, h'.get? e = some (excO none t1) → h'.get? t1 = some { cls := .type "tuple", data := .seq #[v] } → h.get? t1 = none → (∀ b o, b ≠ e → h.get? b = some o → h'.get? b = some o) → Q .none ⟨h', g, d, t, os⟩) :
    wpAny (model prog w) A (call (.builtin "Exception.__init__") [.ref e, v]) Q E ⟨h, g, d, t, os⟩ := by
  have F := PySem.F.excBase_Exception
  have hcB : (Value.ref 44 :: bmT).contains (.type "Exception") = true := by decide
  have hshort := F.noStar
  refine wpAny_call (codeAny_call_builtin F.init.plain F.initEntry ?_)
  simp only [checkBuiltinCall, F.initKind, F.initSplit, F.initRow]
  repeat (first | (with_reducible refine wpAny_loadPart_at he ?_) | with_reducible refine wpAny_loadPart_at hC ?_ | (with_reducible refine wpAny_isSubtype_exc hC ?_; rw [hcB]) | wp_step)
  show Q Value.none _
  refine hq _ h.objs.size ?_ ?_ (Heap.get?_none_of_le (Nat.le_refl _)) ?_
  · rw [Heap.get?_update_self _ (Heap.get?_push_of_some _ he) rfl]
    rfl
  · rw [Heap.get?_update_other _ _ (Nat.ne_of_lt (Heap.lt_size he))]
    exact Heap.get?_push_at rfl rfl
  · intro b o hb ho
    rw [Heap.get?_update_other _ _ (Ne.symm hb)]
    exact Heap.get?_push_of_some _ ho
set_option maxRecDepth 100000 in
theorem exc_set {p : Params} {e t0 : Addr} {v : Value} {Q : Unit → Shared → Prop} (X : (hdK p).In h) (he : h.get? e = some (excO none t0))
    (hq : ∀ h' d1 tk, h'.get? e = some (excO (some d1) t0) → (∀ b o, b ≠ e → h.get? b = some o → h'.get? b = some o) → Q () ⟨h', g, d, tk, os⟩) :
    wpAny (model prog w) A (setAttr (.ref e) (Str.ofString "message") v) Q E ⟨h, g, d, t, os⟩ := by
  have I : InstAt h e (excO none t0) 44 none := ⟨he, rfl, rfl, trivial⟩
  refine set_plain X I (by kernel_rfl) ?_
  have SF := PySem.F.store_object
  have hpass := PySem.F.store_Exception.passes (.ref e)
  have hmro : Looks (model prog w) h (mroOf (.ref 44)) (.ref 44 :: bmT) := (looks_clsIn X (show clsIn (hdK p) 44 = some _ from rfl)).andThen .now
  have sub : Looks (model prog w) h (isInstance (.ref e) (.type "object")) true := I.type.andThen (looks_mroIn X (by kernel_rfl))
  have hcd : Looks (model prog w) h (classData 44) _ := looks_clsIn X (show clsIn (hdK p) 44 = some _ from rfl)
  have hmsg : Looks (model prog w) h (typeLookup (.ref 44) (Str.ofString "message")) none := looks_findIn X (by kernel_rfl)
  refine codeAny_call_builtin SF.slot.plain SF.entry (@check_slot (model prog w) _ _ _ "object.__setattr__" "object" "__setattr__" (.ref e) [.str (Str.ofString "message") t, v] [] _ SF.kind SF.split sub (SF.args (.ref e) (.str (Str.ofString "message") t) v) ?_)
  rw [osa_eq, refuse_eq]
  refine wpAny_bind (wpAny_bind (I.type.here (wpAny_bind (hmro.here ?_))))
  rw [refuseLoop_ref, refuseLoop_ref, hpass]
  refine wpAny_pure (wpAny_bind (I.type.here (wpAny_bind (hmsg.here ?_))))
  refine wpAny_bind (wpAny_pure ?_)
  show wpAny _ _ (Builtin.ObjectAttr.storeInOwnDict (.ref e) (.ref 44) (.str (Str.ofString "message") t) (Str.ofString "message") v false) _ _ _
  unfold Builtin.ObjectAttr.storeInOwnDict Builtin.ObjectAttr.ownDictForStores instanceDict
  refine wpAny_bind (wpAny_pure ?_)
  dsimp only
  rw [if_neg (show ¬ (Value.ref 44 == Value.type "module") = true by decide)]
  refine wpAny_bind (wpAny_bind (wpAny_loadPart_at he ?_))
  dsimp only
  refine wpAny_bind (hcd.here ?_)
  dsimp only
  rw [if_neg (by decide), if_neg (by simp [typeHasDict])]
  have hx1 : (h.push { cls := .type "dict", data := .dict #[] }).get? e = some (excO none t0) := Heap.get?_push_of_some _ he
  have hxs : e ≠ h.objs.size := Nat.ne_of_lt (Heap.lt_size he)
  refine wpAny_bind (wpAny_alloc' ?_)
  refine wpAny_bind (wpAny_update' hx1 ?_)
  refine wpAny_pure ?_
  have hgd : ((h.push { cls := .type "dict", data := .dict #[] }).update e fun o => { cls := o.cls, dict := some h.objs.size, data := o.data, slots := o.slots }).get? h.objs.size
      = some { cls := .type "dict", data := .dict #[] } :=
    (Heap.get?_update_ne _ _ _ _ hxs.symm).trans (Heap.get?_push_at rfl rfl)
  have hnd : ((h.push { cls := .type "dict", data := .dict #[] }).update e fun o => { cls := o.cls, dict := some h.objs.size, data := o.data, slots := o.slots }).Ns h.objs.size (fun _ => none) :=
    ⟨_, #[], _, hgd, rfl, fun e he => absurd he (by simp), fun _ => rfl⟩
  show wpAny _ _ (Builtin.ObjectAttr.storeInDict h.objs.size (.str (Str.ofString "message") t) (Str.ofString "message") v) _ _ _
  unfold Builtin.ObjectAttr.storeInDict Builtin.ObjectAttr.newKeyGuard
  refine wpAny_bind (wpAny_pure (wpAny_bind (wpAny_nsSet1 (Heap.Ns1.of_empty hnd) fun h' hn' hs => ?_)))
  have hJ91 := hn'.count (Within.cons (Str.ofString "message") v Within.nil)
  refine el3_3 hJ91 ?_
  clear hJ91
  rintro oD esD epD hoD hdD hcD
  refine wpAny_bind (wpAny_lookBehind hoD (by rw [hdD]; exact pastItsLine_dict (Nat.le_trans hcD (by rw [List.length_cons, List.length_nil, sizeLine_eq]; (first | lia | omega)))) ?_)
  wp_walk
  refine hq h' h.objs.size _ ((hs.2 e hxs).trans (Heap.get?_update_self _ hx1 rfl)) fun b o hb ho => ?_
  exact (hs.2 b (Nat.ne_of_lt (Heap.lt_size ho))).trans ((Heap.get?_update_ne _ _ _ _ hb).trans (Heap.get?_push_of_some _ ho))
end
section
variable {prog : Program} {w : World} {A : Around} {E : Value → Shared → Prop} {s : Shared} {h₀ : Heap} {L e t0 : Addr} {m : Str → Option Value} {rest : Led} {v : Value} {p : Params}
theorem exc_initN {Q : Value → Shared → Prop} (F : Fr h₀ L s.heap m) (N : News h₀ L s.heap ((e, excO none t0) :: rest)) (X : (hdK p).In s.heap) (hr : ∀ p ∈ rest, p.1 ≠ e)
    (hq : ∀ h' t1, Fr h₀ L h' m → News h₀ L h' ((t1, tupL [v] 0) :: (e, excO none t1) :: rest) → (∀ p ∈ rest, p.1 ≠ t1) → Q .none { s with heap := h' }) :
    wpAny (model prog w) A (call (.builtin "Exception.__init__") [.ref e, v]) Q E s := by
  obtain ⟨h, g, d, t, os⟩ := s
  have hJ93 := N _ (.head _)
  refine el0_3 hJ93 ?_
  clear hJ93
  rintro he hLe h0e
  refine exc_init (clsT_at X) he fun h' t1 h1 h2 h3 h4 => ?_
  have F' : Fr h₀ L h' m := LCg.fr_but F (fun b o hb => h4 b o fun q => hb (by rw [q]; exact .head _)) (Ne.symm hLe) h0e
  have hne : ∀ p ∈ rest, p.1 ≠ t1 := fun p hp q => by have := (N p (.tail _ hp)).1; rw [q] at this; rw [h3] at this; cases this
  refine hq h' t1 F' (fun p hp => ?_) hne
  simp only [List.mem_cons] at hp
  rcases hp with rfl | rfl | hp
  · refine ⟨h2, fun q => ?_, ?_⟩
    · have hJ94 := F.ns
      refine el3_2 hJ94 ?_
      clear hJ94
      rintro _ _ _ ho _
      rw [← q, h3] at ho; cases ho
    · show h₀.get? t1 = none
      cases hq : h₀.get? t1 with
      | none => rfl
      | some o => have := F.keep _ o hq; rw [h3] at this; cases this
  · exact ⟨h1, hLe, h0e⟩
  · have hJ95 := N p (.tail _ hp)
    refine el0_3 hJ95 ?_
    clear hJ95
    rintro n1 n2 n3
    exact ⟨h4 _ _ (hr p hp) n1, n2, n3⟩
theorem exc_setN {Q : Unit → Shared → Prop} (F : Fr h₀ L s.heap m) (N : News h₀ L s.heap ((e, excO none t0) :: rest)) (X : (hdK p).In s.heap) (hr : ∀ p ∈ rest, p.1 ≠ e)
    (hq : ∀ h' d1 tk, Fr h₀ L h' m → News h₀ L h' ((e, excO (some d1) t0) :: rest) → Q () { s with heap := h', toks := tk }) :
    wpAny (model prog w) A (setAttr (.ref e) (Str.ofString "message") v) Q E s := by
  obtain ⟨h, g, d, t, os⟩ := s
  have hJ97 := N _ (.head _)
  refine el0_3 hJ97 ?_
  clear hJ97
  rintro he hLe h0e
  refine exc_set X he fun h' d1 tk h1 h4 => ?_
  refine hq h' d1 tk (LCg.fr_but F (fun b o hb => h4 b o fun q => hb (by rw [q]; exact .head _)) (Ne.symm hLe) h0e) (fun p hp => ?_)
  simp only [List.mem_cons] at hp
  rcases hp with rfl | hp
  · exact ⟨h1, hLe, h0e⟩
  · have hJ98 := N p (.tail _ hp)
    refine el0_3 hJ98 ?_
    clear hJ98
    rintro n1 n2 n3
    exact ⟨h4 _ _ (hr p hp) n1, n2, n3⟩
end
set_option maxRecDepth 100000 in
set_option maxHeartbeats 1000000 in
theorem te_tel (w : World) {v : Str} {tv : Tok} {news : Led} :
    Tel w 44 3 [.str v tv] news (fun r news' => ∃ (e t d : Addr) (tl : Led), r = .ref e ∧ news' = tl ++ news ∧ (e, excO (some d) t) ∈ tl ∧ (t, tupL [.str v tv] 0) ∈ tl ∧ ∀ p ∈ tl, ∀ q ∈ news, q.1 ≠ p.1) := by
  w_top off
  unfold Tel
  k_fill
  intro mean mg mb dp un gd cn cs a ccd cl outer A₀ base h₀ L m s Q E B F X N T hk hd hu hret
  obtain ⟨hh, gg, dd, tt, oo⟩ := s
  refine te_call (X.keeps F.keep) ?_
  intro h1 e hm
  have hJ100 := hm.there
  refine el1_3 hJ100 ?_
  clear hJ100
  rintro t he ht0 ht
  have he0 := hm.new
  have hnl : ∀ b, hh.get? b = none → b ≠ L := by
    rintro b hb rfl
    have hJ101 := F.ns
    refine el3_2 hJ101 ?_
    clear hJ101
    rintro _ _ _ ho _
    rw [hb] at ho; cases ho
  have hn0 : ∀ b, hh.get? b = none → h₀.get? b = none := by
    intro b hb
    cases hq : h₀.get? b with
    | none => rfl
    | some o => have := F.keep b o hq; rw [hb] at this; cases this
  have hte : t ≠ e := by rintro rfl; rw [he] at ht; cases ht
  have F1 : Fr h₀ L h1 m := F.keeps hm.keeps
  have N1 : News h₀ L h1 ((e, excO none t) :: (t, tupL [.str v tv] 0) :: news) := fun p hp => by
    simp only [List.mem_cons] at hp
    rcases hp with rfl | rfl | hp
    · exact ⟨he, hnl _ he0, hn0 _ he0⟩
    · exact ⟨ht, hnl _ ht0, hn0 _ ht0⟩
    · exact ⟨hm.keeps _ _ (N p hp).1, (N p hp).2⟩
  have hne : ∀ p ∈ news, p.1 ≠ e := fun p hp q => by have := (N p hp).1; rw [q, he0] at this; cases this
  have hnt : ∀ p ∈ news, p.1 ≠ t := fun p hp q => by have := (N p hp).1; rw [q, ht0] at this; cases this
  clear F N
  refine wpAny_call ?_
  k_dflt (refine' code_def ?k1 ?k2 ?k3 ?k4 ?k5 ?kA ?kF ?kK ?k6 ?k7 ?k8 ?k9 ?kB ?_ ?c2 ?c3 ?c4 ?c5; (case kA => exact rfl); (case kF => exact rfl); (case kK => assumption); (case k1 => k_asm); (case k2 => k_asm); (case k3 => k_asm); (case k4 => k_asm); (case k5 => k_asm); (case k6 => k_is); (case k7 => k_is); (case k8 => ktr_room); (case k9 => exact BindsTo.of_eq rfl); (case c5 => decide); (case kB => exact locs rfl); (case c2 => exact rfl); (case c3 => exact rfl); (case c4 => exact rfl); k_whole; intro g' L' h' FG' F' N' B' X' T'; (try dsimp only); (try k_fold))
  (try k_fold)
  repeat' (first | (k_unfold; (try dsimp only)) | (k_end; wrow_close) | walk1 | (dsimp only; walk1) | (leave1; walk_say "STEP leave1"; try dsimp only) | fail "no step")
  rename Fr g' _ _ _ => F2
  have F3 : Fr g' L' h' (fun y => List.lookup y [(Str.ofString "message", .str v tv), (Str.ofString "self", Value.ref e)]) := F2
  clear F2
  with_unfolding_all refine exc_getm (X'.keeps F3.keep) ?_
  (try k_fold)
  repeat' (first | (k_unfold; (try dsimp only)) | (k_end; wrow_close) | walk1 | (dsimp only; walk1) | (leave1; walk_say "STEP leave1"; try dsimp only) | fail "no step")
  rename Fr g' _ _ _ => F4
  rename News g' _ _ _ => N4
  with_unfolding_all refine exc_initN F4 N4 (X'.keeps F4.keep) ?hr ?_
  case hr =>
    intro p hp
    rcases List.mem_cons.mp hp with rfl | hp
    · exact hte
    · exact hne p hp
  intro h5 t1 F5 N5 hne5
  clear F4 N4
  (try k_fold)
  repeat' (first | (k_unfold; (try dsimp only)) | (k_end; wrow_close) | walk1 | (dsimp only; walk1) | (leave1; walk_say "STEP leave1"; try dsimp only) | fail "no step")
  have N6 : News g' L' h5 ((e, excO none t1) :: (t1, tupL [.str v tv] 0) :: (t, tupL [.str v tv] 0) :: news) := fun p hp => N5 p (by
    revert hp p; walk_at "sub")
  have het1 : t1 ≠ e := fun q => by
    have h1 := (N5 _ (.head _)).1
    have h2 := (N5 _ (.tail _ (.head _))).1
    rw [q, h2] at h1; cases h1
  with_unfolding_all refine exc_setN F5 N6 (X'.keeps F5.keep) ?hr ?_
  case hr =>
    intro p hp
    simp only [List.mem_cons] at hp
    rcases hp with rfl | rfl | hp
    · exact het1
    · exact hte
    · exact hne p hp
  intro h6 d6 tk6 F6 N7
  clear F5 N5 N6
  (try k_fold)
  repeat' (first | (k_unfold; (try dsimp only)) | (k_end; wrow_close) | walk1 | (dsimp only; walk1) | (leave1; walk_say "STEP leave1"; try dsimp only) | fail "no step")
  rename Fr h₀ L _ m => kF
  rename News h₀ L _ _ => kN
  refine hret _ _ _ _ kF kN ⟨e, t1, d6, [(e, excO (some d6) t1), (t1, tupL [.str v tv] 0), (t, tupL [.str v tv] 0)], rfl, rfl, .head _, .tail _ (.head _), ?_⟩
  intro p hp q hq
  simp only [List.mem_cons, List.not_mem_nil, or_false] at hp
  rcases hp with rfl | rfl | rfl
  · exact hne q hq
  · exact hne5 q (.tail _ hq)
  · exact hnt q hq
section
variable {M : Model} {A : Around} {E : Value → Shared → Prop} {s' : Shared} {base g : Heap} {outer : List Env} {L a e t : Addr} {m : Str → Option Value} {name : Str} {scope : Scope} {cd : Value} {Q : Unit → Shared → Prop} {news : Led}
/-- our exception leaves the frame that made it -/
theorem exc_leave {d : Option Addr} {vs : List Value} {n : Nat} (K : Below A base outer g) (F : Fr g L s'.heap m) (Ne' : News g L s'.heap ((e, excO d t) :: (t, tupL vs n) :: news)) (hne : ∀ q ∈ news, q.1 ≠ e) (hnt : ∀ q ∈ news, q.1 ≠ t)
    (hQ : ∀ h', RaisedS base g outer e (.ref 44) t vs news h' → g.UpToSlots h' → Q () { s' with heap := h' }) (hk : scope.kind = .function := by rfl) :
    wpAny M (A.deeper (envOf name scope L a cd)) (leaving (envOf name scope L a cd) (.ref e)) Q E s' := by
  have hJ102 := Ne' _ (.head _)
  refine el0_3 hJ102 ?_
  clear hJ102
  rintro he hLe h0e
  have hJ103 := Ne' _ (.tail _ (.head _))
  refine el0_3 hJ103 ?_
  clear hJ103
  rintro ht hLt h0t
  have K' := K.push (name := name) (a := a) (cd := cd) F hk
  have hJ104 : ∃ l, l = e :: t :: (envOf name scope L a cd :: outer).filterMap (·.frame) := ⟨_, rfl⟩
  refine el1_1 hJ104 ?_
  clear hJ104
  rintro hid hhid
  have hfr : ∀ b ∈ (envOf name scope L a cd :: outer).filterMap (·.frame), base.get? b = none ∧ ∃ o, s'.heap.get? b = some o ∧ ∀ vs, o.data ≠ .fields vs := fun b hb => K'.frames.mem hb
  have hin : ∀ env ∈ (envOf name scope L a cd :: outer), ∀ b, env.frame = some b → b ∈ hid := fun env he b hb => by
    rw [hhid]; exact .tail _ (.tail _ (List.mem_filterMap.mpr ⟨env, he, hb⟩))
  have b0 : ∀ b, g.get? b = none → base.get? b = none := fun b hb => by
    cases hq : base.get? b with
    | none => rfl
    | some o => have := K.stays b o hq; rw [hb] at this; cases this
  have st : base.StaysIn (hideAll s'.heap hid) := fun b o q => hideAll_get _ (K'.stays b o q) fun hm => by
    rw [hhid] at hm
    rcases List.mem_cons.mp hm with rfl | hm
    · rw [b0 _ h0e] at q; cases q
    rcases List.mem_cons.mp hm with rfl | hm
    · rw [b0 _ h0t] at q; cases q
    rw [(hfr b hm).1] at q; cases q
  have sg : ∀ b o, g.get? b = some o → b ∉ outer.filterMap (·.frame) → (hideAll s'.heap hid).get? b = some o := fun b o q nm => hideAll_get _ (F.keep b o q) fun hm => by
    rw [hhid] at hm
    rcases List.mem_cons.mp hm with rfl | hm
    · rw [h0e] at q; cases q
    rcases List.mem_cons.mp hm with rfl | hm
    · rw [h0t] at q; cases q
    rcases kts_mem hm with z | z
    · rw [z, kts_self F] at q; cases q
    · exact nm z
  have hl : ∀ q ∈ news, (hideAll s'.heap hid).get? q.1 = some q.2 ∧ g.get? q.1 = none ∧ base.get? q.1 = none := fun q hq => by
    have hJ105 := Ne' q (.tail _ (.tail _ hq))
    refine el0_3 hJ105 ?_
    clear hJ105
    rintro n1 n2 n3
    refine ⟨hideAll_get _ n1 fun hm => ?_, n3, b0 _ n3⟩
    rw [hhid] at hm
    rcases List.mem_cons.mp hm with z | hm
    · exact hne q hq z
    rcases List.mem_cons.mp hm with z | hm
    · exact hnt q hq z
    rcases kts_mem hm with z | z
    · exact n2 z
    · obtain ⟨_, o, ho, _⟩ := K.frames.mem z
      rw [n3] at ho; cases ho
  have hhe : (hideAll s'.heap hid).get? e = none := hideAll_none _ (by rw [hhid]; exact .head _)
  have hht : (hideAll s'.heap hid).get? t = none := hideAll_none _ (by rw [hhid]; exact .tail _ (.head _))
  refine wpAny_leaving_firstW (a0 := .ref t) K'.stack (funFrames_hide K'.frames hin) rfl he (fun b o q => of_hideAll _ q) hhe rfl rfl rfl fun h' hL => ?_
  have hJ107 := hL
  refine el0_4 hJ107 ?_
  clear hJ107
  try clear hL
  rintro k1 hJ108
  refine el0_3 hJ108 ?_
  clear hJ108
  rintro _ _ k2 k3 k4
  exact hQ h' ⟨⟨_, st, sg, hl, ⟨k1, hhe, k2, k3⟩, hht⟩, Heap.TupAt.of_slots ⟨_, n, ht, rfl, rfl⟩ k4⟩ ((Heap.UpToSlots.of_keeps F.keep).trans k4)
end
section
variable {M : Model} {A : Around} {E : Value → Shared → Prop} {s : Shared} {env : Env}
noncomputable def RaisesT (E : Value → Shared → Prop) (v : Value) (s₁ : Shared) : Prop := ∃ a d t, v = .ref a ∧ s₁.heap.get? 44 = some clsT ∧ s₁.heap.get? a = some (excO d t) ∧ E (.ref a) s₁
theorem raise_mine {e : PySem.Expr} {pos : Pos} {Q : Flow → Shared → Prop} (hh : A.handled = none) (h : wpAny M A (eval e env) (RaisesT E) E s) : wpAny M A (exec (.Raise (some e) none pos) env) Q E s := by
  show wpAny M A (do standAt pos; raiseStmt env (some (do let v ← eval e env; standAt pos; pure v)) none) Q E s
  have hcB : (Value.ref 44 :: bmT).contains (.type "BaseException") = true := by decide
  refine wpAny_bind (wpAny_standAt ?_)
  unfold raiseStmt
  dsimp only
  refine wpAny_bind (wpAny_bind (wpAny_mono h (fun v s₁ h₁ => wpAny_bind (wpAny_standAt (wpAny_pure ?_))) fun _ _ x => x))
  have hJ109 := h₁
  refine el3_4 hJ109 ?_
  clear hJ109
  try clear h₁
  rintro a d t rfl hC he hE
  obtain ⟨hp, g, dr, tk, os⟩ := s₁
  dsimp only at hC he
  repeat (first | with_reducible refine wpAny_loadPart_at he ?_ | with_reducible refine wpAny_loadPart_at hC ?_ | (with_reducible refine wpAny_isSubtype_exc hC ?_; rw [hcB]) | wp_step)
  exact wpAny_raiseNew_none hh hE
end
/-- a call that comes back, or raises our exception -/
noncomputable def TelE (w : World) (f : Addr) (k : Nat) (args : List Value) (news : Led) (Post : Value → Led → Prop) (PE : Prop) : Prop :=
  ∀ (mean : ExcName → Option Value) (mg mb : Str → Option Value) (dp un : Nat) (gd : Option (List Code)) (cn : Str) (cs : Scope) (a : Addr) (ccd : Value) (cl : List (Str × Addr)) (outer : List Env) (A₀ : Around) (base h₀ : Heap) (L : Addr) (m : Str → Option Value) (s : Shared)
    (Q E : Value → Shared → Prop),
    Below A₀ base outer h₀ → Fr h₀ L s.heap m → (hdK w.params).In h₀ → News h₀ L s.heap news → Top hdV (looseW hdV []) mean mg mb h₀ → cs.kind = .function → dp + k < recursionLimit → un + 8 * k < cLine →
    (∀ r news' h' tk', Fr h₀ L h' m → News h₀ L h' news' → Post r news' → Q r { s with heap := h', toks := tk' }) →
    (∀ G e t vs h' tk', PE → Fr h₀ L G m → RaisedS base G (envX cn cs L a ccd cl :: outer) e (.ref 44) t vs news h' → G.UpToSlots h' → E (.ref e) { s with heap := h', toks := tk' }) →
    wpAny (model PySem.Challenge.rw_ok0135_01.row.prog w) (ktrTop dp un gd cn cs L a ccd cl outer) (call (.ref f) args) Q E s
end --T_Exc

section --T_Pool
open PySem PySem.W PyProof.Rows PySem.Spec PySem.Calls
theorem ite01 {p : Prop} [Decidable p] : (0 : Int) ≤ if p then 1 else 0 := by split <;> decide
/-- a contract that reads a list of the ground -/
noncomputable def TelL (w : World) (f : Addr) (k : Nat) (args : List Value) (news : Led) (a1 : Addr) (us : List Value) (Post : Value → Led → Prop) : Prop :=
  ∀ (mean : ExcName → Option Value) (mg mb : Str → Option Value) (dp un : Nat) (gd : Option (List Code)) (cn : Str) (cs : Scope) (a : Addr) (ccd : Value) (cl : List (Str × Addr)) (outer : List Env) (A₀ : Around) (base h₀ : Heap) (L : Addr) (m : Str → Option Value) (s : Shared)
    (Q E : Value → Shared → Prop),
    Below A₀ base outer h₀ → Fr h₀ L s.heap m → (hdK w.params).In h₀ → News h₀ L s.heap news → Top hdV (looseW hdV []) mean mg mb h₀ → h₀.IsList a1 us.toArray → cs.kind = .function → dp + k < recursionLimit → un + 8 * k < cLine →
    (∀ r news' h' tk', Fr h₀ L h' m → News h₀ L h' news' → Post r news' → Q r { s with heap := h', toks := tk' }) →
    wpAny (model PySem.Challenge.rw_ok0135_01.row.prog w) (ktrTop dp un gd cn cs L a ccd cl outer) (call (.ref f) args) Q E s
set_option maxRecDepth 100000 in
set_option maxHeartbeats 4000000 in
theorem pool_tel (w : World) {a1 : Addr} {xs : List Int} {news : Led} {us : List Value} (hi : IntsAre us xs) (hl : xs.length ≤ 63) :
    TelL w 145 1 [.ref a1] news a1 us (fun r news' => ∃ src, r = .ref src ∧ Src src news news' ∧ ∀ p ∈ news, p.1 ≠ src) := by
  w_top off
  unfold TelL
  k_fill
  intro mean mg mb dp un gd cn cs a ccd cl outer A₀ base h₀ L m s Q E B F X N T hL hk hd hu hret
  have la := hi.length
  refine wpAny_call ?_
  k_dflt (refine' code_def ?k1 ?k2 ?k3 ?k4 ?k5 ?kA ?kF ?kK ?k6 ?k7 ?k8 ?k9 ?kB ?_ ?c2 ?c3 ?c4 ?c5; (case kA => exact rfl); (case kF => exact rfl); (case kK => assumption); (case k1 => k_asm); (case k2 => k_asm); (case k3 => k_asm); (case k4 => k_asm); (case k5 => k_asm); (case k6 => k_is); (case k7 => k_is); (case k8 => ktr_room); (case k9 => exact BindsTo.of_eq rfl); (case c5 => decide); (case kB => exact locs rfl); (case c2 => exact rfl); (case c3 => exact rfl); (case c4 => exact rfl); k_whole; intro g' L' h' FG' F' N' B' X' T'; (try dsimp only); (try k_fold))
  rename Fr _ _ _ _ => F1
  have F2 : Fr _ _ _ (fun y => List.lookup y [(Str.ofString "script", Value.ref a1)]) := F1
  clear F1
  have hL' : g'.IsList a1 us.toArray := by
    have hJ111 := hL
    refine el1_3 hJ111 ?_
    clear hJ111
    try clear hL
    rintro o h1 h2 h3
    exact ⟨o, FG'.keep _ _ h1, h2, h3⟩
  (try k_fold)
  repeat' (first | (k_unfold; (try dsimp only)) | (k_end; wrow_close) | (fail_if_success (with_reducible show wpAny _ _ (exec (Stmt.For _ _ _ _ _) _) _ _ _)); first | walk1 | (dsimp only; walk1) | (leave1; walk_say "STEP leave1"; try dsimp only) | fail "no step")
  all_goals
    rename Fr h₀ L _ m => kF
    rename News h₀ L _ _ => kN
    rename ∀ p ∈ news, p.1 < _ => kl
    refine hret _ _ _ _ kF kN ⟨_, rfl, ⟨_, _, _, _, _, rfl, Int.mul_nonneg ?_ ite01, Int.fmod_nonneg_of_pos _ (by decide), Int.fmod_lt_of_pos _ (by decide)⟩, fun p hp => Nat.ne_of_lt (kl p hp)⟩
    · split <;> (first | lia | omega)
end --T_Pool

section --T_Tmul
open PySem PySem.W PyProof.Rows PySem.Spec PySem.Calls
section
variable {prog : Program} {w : World} {A : Around} {E : Value → Shared → Prop} {s : Shared} {h₀ : Heap} {L : Addr} {m : Str → Option Value} {news : Led}
theorem rmul_slot : typeLookup (.type "tuple") (Str.ofString "__rmul__") = pure (some (.builtin "tuple.__rmul__")) := by rw [typeLookup_type, builtinLookup_eq_fast]; kernel_rfl
theorem noFill_tmul : fillsNumberSlot (.type "tuple") "mul" = pure false :=
  PySem.fillsNumberSlot_seq (id := "tuple.__mul__") (r := some (.builtin "tuple.__rmul__")) PySem.F.slot_tuple_mul.lookup (by decide +kernel) rmul_slot (by decide +kernel)
theorem repeat_tup : seqRepeat? (.type "tuple") = pure (some (.builtin "tuple.__mul__")) := by
  unfold seqRepeat?
  rw [PySem.seqSlot_of (T := "tuple") (name := "__mul__") (id := "tuple.__mul__") PySem.F.slot_tuple_mul.lookup (by decide +kernel), PySem.seqSlot_of (T := "tuple") (name := "__rmul__") (id := "tuple.__rmul__") rmul_slot (by decide +kernel)]
  rfl
theorem rmul_declines (a : Int) (t : Tok) (l : Addr) (items : Array Value) (n : Nat) :
    Meets (Builtin.«int.__rmul__» ⟨[.int a t, .ref l], []⟩) (fun _ R s => s.heap.get? l = some { cls := .type "tuple", dict := none, data := .seq items n, slots := #[] } ∧ R (.ok (.ret Value.notImplemented)) s) :=
  .of_wp fun prog w A R s h => by obtain ⟨hp, g, d, tk, os⟩ := s; obtain ⟨hl, h⟩ := h; wp_walk; exact ⟨_, rfl, h⟩
theorem tmul_x (l : Addr) (items : Array Value) (n : Nat) (x : Int) (t : Tok) (hc0 : ¬ (decide (x < -(2 ^ 63)) || decide (x ≥ 2 ^ 63)) = true) (hc1 : ¬ (items.isEmpty || x == 1) = true) (hc2 : ¬ (decide (x ≤ 0) || items.isEmpty) = true) (hc3 : ¬ items.size * x > (2 ^ 63 - 1) / 8) (hc4 : ¬ Builtin.Tuple.tupleTooMany (items.size * x) = true) (hc5 : ((List.replicate x.toNat items).foldl (fun x1 x2 => x1 ++ x2) #[]).size ≤ sizeLine) :
    Meets (Builtin.«tuple.__mul__» ⟨[.ref l, .int x t], []⟩) (fun _ R s => s.heap.get? l = some { cls := .type "tuple", dict := none, data := .seq items n, slots := #[] } ∧ R (.ok (.ret (.ref s.heap.objs.size))) { s with heap := s.heap.push { cls := .type "tuple", data := .seq ((List.replicate x.toNat items).foldl (fun x1 x2 => x1 ++ x2) #[]) } }) :=
  .of_wp fun prog w A R s h => by
    obtain ⟨hp, g, d, tk, os⟩ := s
    have hJ113 := h
    refine el0_2 hJ113 ?_
    clear hJ113
    try clear h
    rintro hl h
    wp_walk
    rw [if_neg hc0]
    repeat (first | (dsimp only; rw [if_neg hc1]) | (dsimp only; rw [if_neg hc2]) | (dsimp only; rw [if_neg hc3]) | (dsimp only; rw [if_neg hc4]) | wp_step)
    split
    · rename_i h9; exact absurd h9 hc3
    unfold Builtin.Tuple.tupleExact
    wp_walk
    exact ⟨_, rfl, h⟩
theorem tup_rep {l : Addr} {vs : Array Value} {x : Int} {n : Nat} {u : Tok} {ws : List Value} {Q : Value → Shared → Prop} (F : Fr h₀ L s.heap m) (N : News h₀ L s.heap news) (hm : (l, { cls := .type "tuple", data := .seq vs n }) ∈ news)
    (hc0 : ¬ (decide (x < -(2 ^ 63)) || decide (x ≥ 2 ^ 63)) = true) (hc1 : ¬ (vs.isEmpty || x == 1) = true) (hc2 : ¬ (decide (x ≤ 0) || vs.isEmpty) = true) (hc3 : ¬ vs.size * x > (2 ^ 63 - 1) / 8) (hc4 : ¬ Builtin.Tuple.tupleTooMany (vs.size * x) = true) (e16 : (List.replicate x.toNat vs).foldl (fun x1 x2 => x1 ++ x2) #[] = ws.toArray) (hws : ws.length ≤ 5000)
    (h : ∀ D h', Fr h₀ L h' m → News h₀ L h' ((D, tupL ws 0) :: news) → (∀ p ∈ news, p.1 < D) → Q (.ref D) { s with heap := h' }) : wpAny (model prog w) A (binaryOp .Mult (.ref l) (.int x u)) Q E s := by
  have hl : s.heap.get? l = some { cls := .type "tuple", dict := none, data := .seq vs n, slots := #[] } := (N _ hm).1
  refine wpAny_binaryOp_repeat_ref (T := "tuple") (U := "int") (by decide) ⟨_, hl, rfl⟩ (fun s' => typeIs_int s' x u) noFill_tmul PySem.F.fills_int_mul PySem.F.slot_int_rmul repeat_tup PySem.F.slot_int_index.lookup
    (call_meets PySem.F.slot_int_rmul (typeIs_int s x u) PySem.F.entry_int_rmul (PySem.F.args_int_rmul_2 _ _) (rmul_declines x u l vs n)
      ⟨hl, rfl, ⟨_, hl, rfl⟩, call_meets PySem.F.slot_tuple_mul ⟨_, hl, rfl⟩ PySem.F.entry_tuple_mul (PySem.F.args_tuple_mul_2 _ _)
        (tmul_x l vs n x u hc0 hc1 hc2 hc3 hc4 (by rw [e16, List.size_toArray, sizeLine_eq]; (first | lia | omega))) ⟨hl, ?_⟩⟩)
  have N' := News.push F N { cls := Value.type "tuple", data := Data.seq ((List.replicate x.toNat vs).foldl (fun x1 x2 => x1 ++ x2) #[]) }
  rw [e16] at N' ⊢
  exact h _ _ (F.push _) N' (fun p hp => Heap.lt_size (N p hp).1)
theorem tup16 {l : Addr} {v : Value} {x : Int} {n : Nat} {u : Tok} {Q : Value → Shared → Prop} (F : Fr h₀ L s.heap m) (N : News h₀ L s.heap news) (hm : (l, tupL [v] n) ∈ news) (hx : x = 16)
    (h : ∀ D h', Fr h₀ L h' m → News h₀ L h' ((D, tupL (List.replicate 16 v) 0) :: news) → (∀ p ∈ news, p.1 < D) → Q (.ref D) { s with heap := h' }) : wpAny (model prog w) A (binaryOp .Mult (.ref l) (.int x u)) Q E s := by
  subst hx
  have c4 : ¬ Builtin.Tuple.tupleTooMany (((#[v] : Array Value).size : Nat) * (16 : Int)) = true := by
    have : ((#[v] : Array Value).size : Nat) = 1 := rfl
    rw [this]
    unfold Builtin.Tuple.tupleTooMany
    rw [sizeLine_eq, decide_eq_true_eq]
    (first | lia | omega)
  have c5 : (List.replicate (16 : Int).toNat (#[v] : Array Value)).foldl (fun x1 x2 => x1 ++ x2) #[] = (List.replicate 16 v).toArray := by
    have : (16 : Int).toNat = 16 := rfl
    rw [this]
    simp [List.replicate]
  have c3 : ¬ (((#[v] : Array Value).size : Nat) : Int) * 16 > (2 ^ 63 - 1) / 8 := by
    have : ((#[v] : Array Value).size : Nat) = 1 := rfl
    rw [this]; (first | lia | omega)
  exact tup_rep (vs := #[v]) F N hm (by simp) (by simp) (by simp) c3 c4 c5 (by simp) h
theorem eq_any {v1 v2 : Value} {d e : Dat} {n₁ n₂ : Led} {r : Bool} {Q : Value → Shared → Prop} (N : News h₀ L s.heap news) (D1 : DatIn n₁ v1 d) (s1 : ∀ p ∈ n₁, p ∈ news) (D2 : DatIn n₂ v2 e) (s2 : ∀ p ∈ n₂, p ∈ news)
    (ha : kqdOk 9 d = true) (hb : kqdOk 9 e = true) (hu : A.units + 64 < cLine) (hr : r = true ↔ d = e) (h : Q (.bool r) s) : wpAny (model prog w) A (compareOp .Eq v1 v2) Q E s := by
  have hJ114 := kqd_in N 9 (DatIn.mono s1 D1) ha
  refine el1_1 hJ114 ?_
  clear hJ114
  rintro as ra
  have hJ115 := kqd_in N 9 (DatIn.mono s2 D2) hb
  refine el1_1 hJ115 ?_
  clear hJ115
  rintro bs rb
  have la := kqd_lay 9 d ha
  have lb := kqd_lay 9 e hb
  have q := kqd_eqv 9 d e 9 ha hb
  have e1 : PyData.eqv (kqdP d) (kqdP e) = r := by
    cases r with
    | true => exact q.mpr (hr.mp rfl)
    | false => exact Bool.eq_false_iff.mpr fun x => nomatch (hr.mpr (q.mp x))
  refine eq_dataH ra rb ?_ ?_ hu (by rw [e1]; exact h)
  · unfold SeqAt.shaped; rw [la.1, Bool.true_and]; exact decide_eq_true (Nat.le_trans la.2 (by decide))
  · unfold SeqAt.shaped; rw [lb.1, Bool.true_and]; exact decide_eq_true (Nat.le_trans lb.2 (by decide))
end
end --T_Tmul

section --T_Pl1

theorem merge_ind {P : List Coin → List Coin → Prop} (h1 : ∀ ys, P [] ys) (h2 : ∀ c cs, P (c :: cs) []) (h3 : ∀ c cs p ps, c.1 ≤ p.1 → P cs (p :: ps) → P (c :: cs) (p :: ps))
    (h4 : ∀ c cs p ps, ¬ c.1 ≤ p.1 → P (c :: cs) ps → P (c :: cs) (p :: ps)) : ∀ xs ys, P xs ys := by
  intro xs
  induction xs with
  | nil => exact h1
  | cons c cs ih =>
    intro ys
    induction ys with
    | nil => exact h2 c cs
    | cons p ps ihp => exact if h : c.1 ≤ p.1 then h3 c cs p ps h (ih _) else h4 c cs p ps h ihp
theorem mergeC_n (ys : List Coin) : mergeC [] ys = ys := by rw [mergeC]
theorem mergeC_l {c p : Coin} {cs ps : List Coin} (h : c.1 ≤ p.1) : mergeC (c :: cs) (p :: ps) = c :: mergeC cs (p :: ps) := by rw [mergeC, if_pos h]
theorem mergeC_r {c p : Coin} {cs ps : List Coin} (h : ¬ c.1 ≤ p.1) : mergeC (c :: cs) (p :: ps) = p :: mergeC (c :: cs) ps := by rw [mergeC, if_neg h]
theorem mergeC_perm (xs ys : List Coin) : (mergeC xs ys).Perm (xs ++ ys) := by
  refine merge_ind (P := fun xs ys => (mergeC xs ys).Perm (xs ++ ys)) ?_ ?_ ?_ ?_ xs ys
  · intro ys; rw [mergeC_n]; exact List.Perm.refl _
  · intro c cs; rw [mergeC_nil, List.append_nil]
  · intro c cs p ps h ih; rw [mergeC_l h]; exact ih.cons c
  · intro c cs p ps h ih
    rw [mergeC_r h]
    exact (ih.cons p).trans (List.perm_middle (a := p) (l₁ := c :: cs) (l₂ := ps)).symm
theorem mergeC_length (xs ys : List Coin) : (mergeC xs ys).length = xs.length + ys.length := by rw [(mergeC_perm xs ys).length_eq, List.length_append]
theorem filter_none {p : Coin → Bool} : ∀ {l : List Coin}, (∀ c ∈ l, p c = false) → l.filter p = []
  | [], _ => rfl
  | c :: l, h => by rw [List.filter_cons_of_neg (by rw [h c (.head _)]; simp)]; exact filter_none fun d hd => h d (.tail _ hd)
theorem filter_whole {p : Coin → Bool} : ∀ {l : List Coin}, (∀ c ∈ l, p c = true) → l.filter p = l
  | [], _ => rfl
  | c :: l, h => by rw [List.filter_cons_of_pos (h c (.head _)), filter_whole fun d hd => h d (.tail _ hd)]
theorem mergeC_filter1 {p : Coin → Bool} {xs ys : List Coin} (hx : ∀ c ∈ xs, p c = true) (hy : ∀ c ∈ ys, p c = false) : (mergeC xs ys).filter p = xs := by
  refine merge_ind (P := fun xs ys => (∀ c ∈ xs, p c = true) → (∀ c ∈ ys, p c = false) → (mergeC xs ys).filter p = xs) ?_ ?_ ?_ ?_ xs ys hx hy
  · intro ys _ hy; rw [mergeC_n]; exact filter_none hy
  · intro c cs hx _; rw [mergeC_nil]; exact filter_whole hx
  · intro c cs d ds h ih hx hy
    rw [mergeC_l h, List.filter_cons_of_pos (hx c (.head _)), ih (fun e he => hx e (.tail _ he)) hy]
  · intro c cs d ds h ih hx hy
    rw [mergeC_r h, List.filter_cons_of_neg (by rw [hy d (.head _)]; exact Bool.false_ne_true), ih hx fun e he => hy e (.tail _ he)]
theorem mergeC_filter2 {p : Coin → Bool} {xs ys : List Coin} (hx : ∀ c ∈ xs, p c = false) (hy : ∀ c ∈ ys, p c = true) : (mergeC xs ys).filter p = ys := by
  refine merge_ind (P := fun xs ys => (∀ c ∈ xs, p c = false) → (∀ c ∈ ys, p c = true) → (mergeC xs ys).filter p = ys) ?_ ?_ ?_ ?_ xs ys hx hy
  · intro ys _ hy; rw [mergeC_n]; exact filter_whole hy
  · intro c cs hx _; rw [mergeC_nil]; exact filter_none hx
  · intro c cs d ds h ih hx hy
    rw [mergeC_l h, List.filter_cons_of_neg (by rw [hx c (.head _)]; exact Bool.false_ne_true), ih (fun e he => hx e (.tail _ he)) hy]
  · intro c cs d ds h ih hx hy
    rw [mergeC_r h, List.filter_cons_of_pos (hy d (.head _)), ih hx fun e he => hy e (.tail _ he)]
/-- near and far stand right: ascending, and of like ones those of the first row ahead -/
noncomputable def RightOf (p : Coin → Bool) (a b : Coin) : Prop := a.1 ≤ b.1 ∧ ¬ (a.1 = b.1 ∧ p a = false ∧ p b = true)
theorem mergeC_right {p : Coin → Bool} {xs ys : List Coin} (hx : xs.Pairwise (fun a b => a.1 ≤ b.1)) (hy : ys.Pairwise (fun a b => a.1 ≤ b.1)) (px : ∀ c ∈ xs, p c = true) (py : ∀ c ∈ ys, p c = false) : (mergeC xs ys).Pairwise (RightOf p) := by
  refine merge_ind (P := fun xs ys => xs.Pairwise (fun a b => a.1 ≤ b.1) → ys.Pairwise (fun a b => a.1 ≤ b.1) → (∀ c ∈ xs, p c = true) → (∀ c ∈ ys, p c = false) → (mergeC xs ys).Pairwise (RightOf p)) ?_ ?_ ?_ ?_ xs ys hx hy px py
  · intro ys _ hy _ py
    rw [mergeC_n]
    exact hy.imp_of_mem fun {a b} ha hb h => ⟨h, fun h2 => Bool.false_ne_true ((py b hb).symm.trans h2.2.2)⟩
  · intro c cs hx _ px _
    rw [mergeC_nil]
    exact hx.imp_of_mem fun {a b} ha hb h => ⟨h, fun h2 => Bool.false_ne_true (h2.2.1.symm.trans (px a ha))⟩
  · intro c cs d ds hle ih hx hy px py
    rw [mergeC_l hle]
    have hx' := List.pairwise_cons.mp hx
    refine List.pairwise_cons.mpr ⟨fun e he => ⟨?_, fun h2 => Bool.false_ne_true (h2.2.1.symm.trans (px c (.head _)))⟩, ih hx'.2 hy (fun e he => px e (.tail _ he)) py⟩
    exact (List.mem_append.mp ((mergeC_perm _ _).mem_iff.mp he)).elim (hx'.1 e) (all_cons (Φ := fun e : Coin => c.1 ≤ e.1) hle (fun e he => Int.le_trans hle ((List.pairwise_cons.mp hy).1 e he)) e)
  · intro c cs d ds hle ih hx hy px py
    rw [mergeC_r hle]
    have hlt : d.1 < c.1 := Int.not_le.mp hle
    have hy' := List.pairwise_cons.mp hy
    refine List.pairwise_cons.mpr ⟨fun e he => ?_, ih hx hy'.2 px fun e he => py e (.tail _ he)⟩
    refine (List.mem_append.mp ((mergeC_perm _ _).mem_iff.mp he)).elim (fun he => ?_) fun he => ⟨hy'.1 e he, fun h3 => Bool.false_ne_true ((py e (.tail _ he)).symm.trans h3.2.2)⟩
    have h9 : d.1 < e.1 := all_cons (Φ := fun e : Coin => d.1 < e.1) hlt (fun e he => Int.lt_of_lt_of_le hlt ((List.pairwise_cons.mp hx).1 e he)) e he
    exact ⟨Int.le_of_lt h9, fun h1 => Int.ne_of_lt h9 h1.1⟩
theorem packC_get : ∀ (xs : List Coin) (k : Nat) (h : 2 * k + 1 < xs.length), (packC xs)[k]? = some ((xs[2 * k]'(by (first | lia | omega))).1 + (xs[2 * k + 1]'h).1, (xs[2 * k]'(by (first | lia | omega))).2 ++ (xs[2 * k + 1]'h).2)
  | [], k, h => by simp at h
  | [_], k, h => by simp at h
  | a :: b :: r, 0, h => by simp [packC]
  | a :: b :: r, k + 1, h => by
    have h' : 2 * k + 1 < r.length := by simp at h; (first | lia | omega)
    have e2 : 2 * (k + 1) = 2 * k + 1 + 1 := by (first | lia | omega)
    rw [packC, List.getElem?_cons_succ, packC_get r k h']
    simp only [e2, List.getElem_cons_succ]
end --T_Pl1

section --T_Pl2

noncomputable def wsum (l : List Coin) : Int := (l.map (·.1)).sum
theorem wsum_nil : wsum [] = 0 := rfl
theorem wsum_cons (c : Coin) (l : List Coin) : wsum (c :: l) = c.1 + wsum l := by simp [wsum]
noncomputable abbrev Asc (l : List Coin) : Prop := l.Pairwise fun a b => a.1 ≤ b.1
noncomputable abbrev Pos (l : List Coin) : Prop := ∀ c ∈ l, 0 ≤ c.1
theorem wsum_pos : ∀ {l : List Coin}, Pos l → 0 ≤ wsum l
  | [], _ => by simp [wsum]
  | c :: l, h => by
    have := h c (.head _)
    have := wsum_pos (l := l) fun d hd => h d (.tail _ hd)
    rw [wsum_cons]; (first | lia | omega)
theorem wsum_take_mono : ∀ {l : List Coin} {a b : Nat}, Pos l → a ≤ b → wsum (l.take a) ≤ wsum (l.take b)
  | [], a, b, _, _ => by simp
  | c :: l, 0, b, h, _ => by
    rw [List.take_zero, wsum_nil]
    exact wsum_pos fun d hd => h d (List.mem_of_mem_take hd)
  | c :: l, a + 1, 0, _, hab => by (first | lia | omega)
  | c :: l, a + 1, b + 1, h, hab => by
    rw [List.take_succ_cons, List.take_succ_cons, wsum_cons, wsum_cons]
    have := wsum_take_mono (l := l) (a := a) (b := b) (fun d hd => h d (.tail _ hd)) (by (first | lia | omega))
    (first | lia | omega)
/-- one more item of an ascending list weighs at least its first -/
theorem wsum_take_last : ∀ {l : List Coin} {p : Int} {b : Nat}, (∀ c ∈ l, p ≤ c.1) → b < l.length → wsum (l.take b) + p ≤ wsum (l.take (b + 1))
  | [], _, _, _, h => by simp at h
  | c :: l, p, 0, h, _ => by
    have := h c (.head _)
    rw [List.take_zero, List.take_succ_cons, List.take_zero, wsum_cons, wsum_nil]; (first | lia | omega)
  | c :: l, p, b + 1, h, hb => by
    have := wsum_take_last (l := l) (p := p) (b := b) (fun d hd => h d (.tail _ hd)) (by simpa using hb)
    rw [List.take_succ_cons, List.take_succ_cons, wsum_cons, wsum_cons]; (first | lia | omega)
theorem take_sublist {T : List Coin} : ∀ {l : List Coin}, T.Sublist l → Asc l → wsum (l.take T.length) ≤ wsum T := by
  intro l h
  induction h with
  | slnil => intro _; simp
  | @cons T l a h ih =>
    intro hs
    have hs' := List.pairwise_cons.mp hs
    refine Int.le_trans ?_ (ih hs'.2)
    cases e : T.length with
    | zero => simp
    | succ k =>
      rw [List.take_succ_cons, wsum_cons]
      have := wsum_take_last (l := l) (p := a.1) (b := k) hs'.1 (by have := h.length_le; (first | lia | omega))
      (first | lia | omega)
  | @cons_cons T l a h ih =>
    intro hs
    have hs' := List.pairwise_cons.mp hs
    have := ih hs'.2
    rw [List.length_cons, List.take_succ_cons, wsum_cons, wsum_cons]; (first | lia | omega)
theorem take_zero_le {xs ys : List Coin} {a b : Nat} (px : Pos xs) (py : Pos ys) {l : List Coin} : wsum (l.take 0) ≤ wsum (xs.take a) + wsum (ys.take b) := by
  rw [List.take_zero, wsum_nil]
  exact Int.add_nonneg (wsum_pos fun d hd => px d (List.mem_of_mem_take hd)) (wsum_pos fun d hd => py d (List.mem_of_mem_take hd))
theorem take_merge (xs ys : List Coin) (m a b : Nat) (sx : Asc xs) (sy : Asc ys) (px : Pos xs) (py : Pos ys) (hm : m ≤ a + b) (ha : a ≤ xs.length) (hb : b ≤ ys.length) : wsum ((mergeC xs ys).take m) ≤ wsum (xs.take a) + wsum (ys.take b) := by
  refine merge_ind (P := fun xs ys => ∀ m a b, Asc xs → Asc ys → Pos xs → Pos ys → m ≤ a + b → a ≤ xs.length → b ≤ ys.length → wsum ((mergeC xs ys).take m) ≤ wsum (xs.take a) + wsum (ys.take b)) ?_ ?_ ?_ ?_ xs ys m a b sx sy px py hm ha hb
  · intro ys m a b _ _ _ py hm ha hb
    obtain rfl : a = 0 := Nat.le_zero.mp ha
    rw [mergeC_n, List.take_zero, wsum_nil, Int.zero_add]
    exact wsum_take_mono py (Nat.zero_add b ▸ hm)
  · intro c cs m a b _ _ px _ hm ha hb
    obtain rfl : b = 0 := Nat.le_zero.mp hb
    rw [mergeC_nil, List.take_zero, wsum_nil, Int.add_zero]
    exact wsum_take_mono px hm
  · intro c cs p ps hle ih m a b sx sy px py hm ha hb
    have hx1 := (List.pairwise_cons.mp sx).2
    have hp1 : Pos cs := fun d hd => px d (.tail _ hd)
    rw [mergeC_l hle]
    cases m with
    | zero => exact take_zero_le px py
    | succ m =>
      rw [List.take_succ_cons, wsum_cons]
      cases a with
      | zero =>
        cases b with
        | zero => exact absurd hm (Nat.not_succ_le_zero _)
        | succ b =>
          have h := ih m 0 b hx1 sy hp1 py (by (first | lia | omega)) (Nat.zero_le _) (Nat.le_of_succ_le hb)
          have h9 := wsum_take_last (l := p :: ps) (p := c.1) (b := b) (all_cons hle fun d hd => Int.le_trans hle ((List.pairwise_cons.mp sy).1 d hd)) hb
          rw [List.take_zero, wsum_nil, Int.zero_add] at h ⊢
          exact Int.le_trans (Int.add_le_add_left h c.1) (Int.add_comm _ _ ▸ h9)
      | succ a =>
        have h := ih m a b hx1 sy hp1 py (by (first | lia | omega)) (Nat.le_of_succ_le_succ ha) hb
        rw [List.take_succ_cons, wsum_cons, Int.add_assoc]
        exact Int.add_le_add_left h c.1
  · intro c cs p ps hle ih m a b sx sy px py hm ha hb
    have hlt : p.1 ≤ c.1 := Int.le_of_lt (Int.not_le.mp hle)
    have hy1 := (List.pairwise_cons.mp sy).2
    have hp1 : Pos ps := fun d hd => py d (.tail _ hd)
    rw [mergeC_r hle]
    cases m with
    | zero => exact take_zero_le px py
    | succ m =>
      rw [List.take_succ_cons, wsum_cons]
      cases b with
      | zero =>
        cases a with
        | zero => exact absurd hm (Nat.not_succ_le_zero _)
        | succ a =>
          have h := ih m a 0 sx hy1 px hp1 (Nat.le_of_succ_le_succ hm) (Nat.le_of_succ_le ha) (Nat.zero_le _)
          have h9 := wsum_take_last (l := c :: cs) (p := p.1) (b := a) (all_cons hlt fun d hd => Int.le_trans hlt ((List.pairwise_cons.mp sx).1 d hd)) ha
          rw [List.take_zero, wsum_nil, Int.add_zero] at h ⊢
          exact Int.le_trans (Int.add_le_add_left h p.1) (Int.add_comm _ _ ▸ h9)
      | succ b =>
        have h := ih m a b sx hy1 px hp1 (Nat.le_of_succ_le_succ hm) ha (Nat.le_of_succ_le_succ hb)
        rw [List.take_succ_cons, wsum_cons, Int.add_left_comm]
        exact Int.add_le_add_left h p.1
theorem mergeC_asc {xs ys : List Coin} (hx : Asc xs) (hy : Asc ys) : Asc (mergeC xs ys) := by
  have key : ∀ xs ys : List Coin, Asc xs → Asc ys → Asc (mergeC xs ys) := by
    intro xs
    induction xs with
    | nil => intro ys _ hy; rw [mergeC]; exact hy
    | cons c cs ihx =>
      intro ys hx hy
      induction ys with
      | nil => rw [mergeC]; exact hx
      | cons p ps ihy =>
        have hx' := List.pairwise_cons.mp hx
        have hy' := List.pairwise_cons.mp hy
        rw [mergeC]
        split
        · rename_i hle
          refine List.pairwise_cons.mpr ⟨fun e he => ?_, ihx _ hx'.2 hy⟩
          rcases List.mem_append.mp ((mergeC_perm _ _).mem_iff.mp he) with he | he
          · exact hx'.1 e he
          · rcases List.mem_cons.mp he with rfl | he
            · exact hle
            · exact Int.le_trans hle (hy'.1 e he)
        · rename_i hle
          refine List.pairwise_cons.mpr ⟨fun e he => ?_, ihy hy'.2⟩
          rcases List.mem_append.mp ((mergeC_perm _ _).mem_iff.mp he) with he | he
          · rcases List.mem_cons.mp he with rfl | he
            · (first | lia | omega)
            · have := hx'.1 e he; (first | lia | omega)
          · exact hy'.1 e he
  exact key xs ys hx hy
theorem packC_asc : ∀ {xs : List Coin}, Asc xs → Asc (packC xs)
  | [], _ => by rw [packC]; exact .nil; all_goals simp
  | [_], _ => by simp [packC]
  | a :: b :: r, h => by
    have h1 := List.pairwise_cons.mp h
    have h2 := List.pairwise_cons.mp h1.2
    rw [packC]
    refine List.pairwise_cons.mpr ⟨fun e he => ?_, packC_asc h2.2⟩
    have hin : ∀ (r : List Coin) (e : Coin), e ∈ packC r → ∃ x ∈ r, ∃ y ∈ r, e.1 = x.1 + y.1 := by
      intro r
      induction r using packC.induct with
      | case1 a b r ih =>
        intro e he
        rw [packC] at he
        rcases List.mem_cons.mp he with rfl | he
        · exact ⟨a, .head _, b, .tail _ (.head _), rfl⟩
        · obtain ⟨x, hx, y, hy, e'⟩ := ih e he
          exact ⟨x, .tail _ (.tail _ hx), y, .tail _ (.tail _ hy), e'⟩
      | case2 r h =>
        intro e he
        match r, h with
        | [], _ => simp [packC] at he
        | [_], _ => simp [packC] at he
        | a :: b :: r, h => exact absurd rfl (h a b r)
    obtain ⟨x, hx, y, hy, e'⟩ := hin r e he
    have := h1.1 x (.tail _ hx)
    have := h2.1 y hy
    show a.1 + b.1 ≤ e.1
    (first | lia | omega)
theorem packC_pos : ∀ {xs : List Coin}, Pos xs → Pos (packC xs)
  | [], _, e, he => by simp [packC] at he
  | [_], _, e, he => by simp [packC] at he
  | a :: b :: r, h, e, he => by
    rw [packC] at he
    rcases List.mem_cons.mp he with rfl | he
    · have := h a (.head _); have := h b (.tail _ (.head _)); show 0 ≤ a.1 + b.1; (first | lia | omega)
    · exact packC_pos (fun c hc => h c (.tail _ (.tail _ hc))) e he
theorem packC_wsum : ∀ (xs : List Coin) (k : Nat), 2 * k ≤ xs.length → wsum ((packC xs).take k) = wsum (xs.take (2 * k))
  | xs, 0, _ => by simp
  | [], k + 1, h => by simp at h
  | [_], k + 1, h => by simp at h; (first | lia | omega)
  | a :: b :: r, k + 1, h => by
    have e2 : 2 * (k + 1) = 2 * k + 1 + 1 := by (first | lia | omega)
    rw [packC, e2, List.take_succ_cons, List.take_succ_cons, List.take_succ_cons, wsum_cons, wsum_cons, wsum_cons, packC_wsum r k (by simp at h; (first | lia | omega))]
    show a.1 + b.1 + _ = _
    (first | lia | omega)
end --T_Pl2

section --T_Pm

noncomputable def rowC (cs : List Coin) : Nat → List Coin
  | 0 => cs
  | n + 1 => mergeC cs (packC (rowC cs n))
theorem rowC_asc {cs : List Coin} (h : Asc cs) : ∀ n, Asc (rowC cs n)
  | 0 => h
  | n + 1 => mergeC_asc h (packC_asc (rowC_asc h n))
theorem mem_merge {xs ys : List Coin} {c : Coin} : c ∈ mergeC xs ys ↔ c ∈ xs ∨ c ∈ ys := by
  rw [(mergeC_perm xs ys).mem_iff, List.mem_append]
theorem rowC_pos {cs : List Coin} (h : Pos cs) : ∀ n, Pos (rowC cs n)
  | 0 => h
  | n + 1 => fun c hc => by
    rcases mem_merge.mp hc with hc | hc
    · exact h c hc
    · exact packC_pos (rowC_pos h n) c hc
theorem pow_two_succ (n : Nat) : 2 ^ (n + 1) = 2 * 2 ^ n := by rw [Nat.pow_succ, Nat.mul_comm]
theorem row_len (cs : List Coin) : ∀ (h j : Nat), j * 2 ^ h + cs.length ≤ cs.length * 2 ^ (h + 1) → j ≤ (rowC cs h).length
  | 0, j, hj => by simp [rowC] at hj ⊢; (first | lia | omega)
  | h + 1, j, hj => by
    rw [rowC, mergeC_length, packC_length]
    by_cases hc : j ≤ cs.length
    · (first | lia | omega)
    · obtain ⟨k, rfl⟩ : ∃ k, j = cs.length + k := ⟨j - cs.length, by (first | lia | omega)⟩
      have ih := row_len cs h (2 * k) (by
        have e1 : (cs.length + k) * 2 ^ (h + 1) = cs.length * 2 ^ (h + 1) + 2 * k * 2 ^ h := by rw [Nat.add_mul, pow_two_succ h, Nat.mul_left_comm k 2, Nat.mul_assoc]
        have e2 : cs.length * 2 ^ (h + 1 + 1) = cs.length * 2 ^ (h + 1) + cs.length * 2 ^ (h + 1) := by rw [pow_two_succ (h + 1), Nat.mul_left_comm, Nat.two_mul]
        rw [e1, e2] at hj
        (first | lia | omega))
      (first | lia | omega)
/-- the width and the weight of the levels below n -/
noncomputable def lvW (A : Nat → List Coin) : Nat → Nat
  | 0 => 0
  | n + 1 => lvW A n + (A n).length * 2 ^ n
noncomputable def lvS (A : Nat → List Coin) : Nat → Int
  | 0 => 0
  | n + 1 => lvS A n + wsum (A n)
theorem lvW_le {A : Nat → List Coin} {cs : List Coin} (hA : ∀ t, (A t).Sublist cs) : ∀ n, lvW A n + cs.length ≤ cs.length * 2 ^ n
  | 0 => by simp [lvW]
  | n + 1 => by
    have ih := lvW_le hA n
    have h1 : (A n).length * 2 ^ n ≤ cs.length * 2 ^ n := Nat.mul_le_mul_right _ (hA n).length_le
    have e2 : cs.length * 2 ^ (n + 1) = cs.length * 2 ^ n + cs.length * 2 ^ n := by rw [pow_two_succ n, Nat.mul_left_comm, Nat.two_mul]
    rw [lvW, e2]
    (first | lia | omega)
theorem lvS_pos {A : Nat → List Coin} {cs : List Coin} (hA : ∀ t, (A t).Sublist cs) (hp : Pos cs) : ∀ n, 0 ≤ lvS A n
  | 0 => by simp [lvS]
  | n + 1 => by
    have := lvS_pos hA hp n
    have := wsum_pos (l := A n) fun c hc => hp c ((hA n).mem hc)
    rw [lvS]; (first | lia | omega)
theorem row_opt {cs : List Coin} (hs : Asc cs) (hp : Pos cs) {A : Nat → List Coin} (hA : ∀ t, (A t).Sublist cs) : ∀ (h m : Nat), m * 2 ^ h ≤ lvW A (h + 1) → wsum ((rowC cs h).take m) ≤ lvS A (h + 1)
  | 0, m, hm => by
    simp only [lvW, lvS, rowC, Nat.pow_zero, Nat.mul_one, Nat.zero_add, Int.zero_add] at hm ⊢
    exact Int.le_trans (wsum_take_mono hp hm) (take_sublist (hA 0) hs)
  | h + 1, m, hm => by
    rw [rowC, lvS]
    have ha := (hA (h + 1)).length_le
    have h9 := take_sublist (hA (h + 1)) hs
    have hps := packC_asc (rowC_asc hs h)
    have hpp := packC_pos (rowC_pos hp h)
    by_cases hc : m ≤ (A (h + 1)).length
    · have h1 := take_merge cs (packC (rowC cs h)) m (A (h + 1)).length 0 hs hps hp hpp (by (first | lia | omega)) ha (Nat.zero_le _)
      have h2 := lvS_pos hA hp (h + 1)
      rw [List.take_zero, wsum_nil] at h1
      (first | lia | omega)
    · obtain ⟨k, rfl⟩ : ∃ k, m = (A (h + 1)).length + k := ⟨m - (A (h + 1)).length, by (first | lia | omega)⟩
      have e1 : ((A (h + 1)).length + k) * 2 ^ (h + 1) = (A (h + 1)).length * 2 ^ (h + 1) + 2 * k * 2 ^ h := by rw [Nat.add_mul, pow_two_succ h, Nat.mul_left_comm k 2, Nat.mul_assoc]
      rw [lvW, e1] at hm
      have hk : 2 * k * 2 ^ h ≤ lvW A (h + 1) := by (first | lia | omega)
      have ih := row_opt hs hp hA h (2 * k) hk
      have hl := row_len cs h (2 * k) (by have := lvW_le hA (h + 1); (first | lia | omega))
      have h1 := take_merge cs (packC (rowC cs h)) ((A (h + 1)).length + k) (A (h + 1)).length k hs hps hp hpp (Nat.le_refl _) ha (by rw [packC_length]; (first | lia | omega))
      rw [packC_wsum _ _ hl] at h1
      (first | lia | omega)
/-- the first of a merge are the first of both -/
theorem merge_take (xs ys : List Coin) (m : Nat) (h : m ≤ xs.length + ys.length) : ∃ a b, a + b = m ∧ a ≤ xs.length ∧ b ≤ ys.length ∧ ((mergeC xs ys).take m).Perm (xs.take a ++ ys.take b) := by
  refine merge_ind (P := fun xs ys => ∀ m, m ≤ xs.length + ys.length → ∃ a b, a + b = m ∧ a ≤ xs.length ∧ b ≤ ys.length ∧ ((mergeC xs ys).take m).Perm (xs.take a ++ ys.take b)) ?_ ?_ ?_ ?_ xs ys m h
  · intro ys m h
    exact ⟨0, m, Nat.zero_add m, Nat.zero_le _, Nat.zero_add ys.length ▸ h, by rw [mergeC_n]; exact .refl _⟩
  · intro c cs m h
    exact ⟨m, 0, rfl, h, Nat.zero_le _, by rw [mergeC_nil, List.take_zero, List.append_nil]⟩
  · intro c cs p ps hle ih m h
    cases m with
    | zero => exact ⟨0, 0, rfl, Nat.zero_le _, Nat.zero_le _, .refl _⟩
    | succ m =>
      have h' : m ≤ cs.length + (p :: ps).length := Nat.le_of_succ_le_succ (Nat.succ_add _ _ ▸ h)
      refine el2_4 (ih m h') fun a b e ha hb hP => ⟨a + 1, b, by rw [← e, Nat.succ_add], Nat.succ_le_succ ha, hb, ?_⟩
      rw [mergeC_l hle]
      exact hP.cons c
  · intro c cs p ps hle ih m h
    cases m with
    | zero => exact ⟨0, 0, rfl, Nat.zero_le _, Nat.zero_le _, .refl _⟩
    | succ m =>
      refine el2_4 (ih m (Nat.le_of_succ_le_succ h)) fun a b e ha hb hP => ⟨a, b + 1, by rw [← e]; rfl, ha, Nat.succ_le_succ hb, ?_⟩
      rw [mergeC_r hle, List.take_succ_cons, List.take_succ_cons]
      exact (hP.cons p).trans List.perm_middle.symm
noncomputable abbrev flatC (l : List Coin) : List Int := l.flatMap (·.2)
theorem packC_flat : ∀ (xs : List Coin) (b : Nat), 2 * b ≤ xs.length → flatC ((packC xs).take b) = flatC (xs.take (2 * b))
  | xs, 0, _ => by simp
  | [], k + 1, h => by simp at h
  | [_], k + 1, h => by simp at h; (first | lia | omega)
  | x :: y :: r, k + 1, h => by
    have e2 : 2 * (k + 1) = 2 * k + 1 + 1 := by (first | lia | omega)
    rw [packC, e2, List.take_succ_cons, List.take_succ_cons, List.take_succ_cons]
    have ih := packC_flat r k (by simp at h; (first | lia | omega))
    simp only [flatC, List.flatMap_cons] at ih ⊢
    rw [ih, List.append_assoc]
/-- how often x stands in the first m of row h -/
noncomputable abbrev cnt (cs : List Coin) (h m : Nat) (x : Int) : Nat := (flatC ((rowC cs h).take m)).count x
theorem flat_perm {l r : List Coin} (h : l.Perm r) : (flatC l).Perm (flatC r) := h.flatMap_right _
theorem cnt_step {cs : List Coin} {h m : Nat} (hm : m ≤ (rowC cs (h + 1)).length) : ∃ a b, a + b = m ∧ a ≤ cs.length ∧ 2 * b ≤ (rowC cs h).length ∧ ∀ x, cnt cs (h + 1) m x = (flatC (cs.take a)).count x + cnt cs h (2 * b) x := by
  rw [rowC, mergeC_length] at hm
  obtain ⟨a, b, e, ha, hb, hP⟩ := merge_take cs (packC (rowC cs h)) m hm
  rw [packC_length] at hb
  have hb' : 2 * b ≤ (rowC cs h).length := by (first | lia | omega)
  refine ⟨a, b, e, ha, hb', fun x => ?_⟩
  rw [cnt, rowC, (flat_perm hP).count_eq, flatC, List.flatMap_append, List.count_append, ← flatC, ← flatC, packC_flat _ _ hb']
section
variable {ids : List Int} {w : Int → Int}
noncomputable abbrev coinsW (w : Int → Int) (ids : List Int) : List Coin := ids.map fun x => (w x, [x])
theorem flat_coins : ∀ ids : List Int, flatC (coinsW w ids) = ids
  | [] => rfl
  | x :: r => by simp only [coinsW, List.map_cons, flatC, List.flatMap_cons]; rw [← flatC, ← coinsW, flat_coins r]; rfl
theorem flat_take (a : Nat) : flatC ((coinsW w ids).take a) = ids.take a := by rw [coinsW, ← List.map_take, ← coinsW, flat_coins]
theorem cnt_zero (m : Nat) (x : Int) : cnt (coinsW w ids) 0 m x = (ids.take m).count x := by rw [cnt, rowC, flat_take]
theorem count_take_le (hn : ids.Nodup) (a : Nat) (x : Int) : (ids.take a).count x ≤ 1 := Nat.le_trans ((List.take_sublist a ids).count_le x) (List.nodup_iff_count.mp hn x)
theorem cnt_le (hn : ids.Nodup) : ∀ (h m : Nat), m ≤ (rowC (coinsW w ids) h).length → ∀ x, cnt (coinsW w ids) h m x ≤ h + 1
  | 0, m, _, x => by rw [cnt_zero]; have := count_take_le hn m x; (first | lia | omega)
  | h + 1, m, hm, x => by
    obtain ⟨a, b, e, ha, hb, hx⟩ := cnt_step hm
    rw [hx x, flat_take]
    have := count_take_le hn a x
    have := cnt_le hn h (2 * b) hb x
    (first | lia | omega)
theorem sum_le {f g : Int → Nat} : ∀ {l : List Int}, (∀ x ∈ l, f x ≤ g x) → (l.map f).sum ≤ (l.map g).sum
  | [], _ => by simp
  | x :: r, h => by
    have := h x (.head _)
    have := sum_le (l := r) fun y hy => h y (.tail _ hy)
    simp only [List.map_cons, List.sum_cons]; (first | lia | omega)
theorem sum_add (f g : Int → Nat) : ∀ l : List Int, (l.map fun x => f x + g x).sum = (l.map f).sum + (l.map g).sum
  | [] => by simp
  | x :: r => by simp only [List.map_cons, List.sum_cons, sum_add f g r]; (first | lia | omega)
theorem sum_mul (f : Int → Nat) (k : Nat) : ∀ l : List Int, (l.map fun x => f x * k).sum = (l.map f).sum * k
  | [] => by simp
  | x :: r => by simp only [List.map_cons, List.sum_cons, sum_mul f k r, Nat.add_mul]
theorem sum_const (k : Nat) : ∀ l : List Int, (l.map fun _ => k).sum = l.length * k
  | [] => by simp
  | x :: r => by simp only [List.map_cons, List.sum_cons, List.length_cons, sum_const k r, Nat.add_mul]; (first | lia | omega)
theorem sum_count : ∀ {l : List Int} {ids : List Int}, ids.Nodup → (∀ x ∈ l, x ∈ ids) → (ids.map fun x => l.count x).sum = l.length
  | [], ids, _, _ => by simp [sum_const]
  | y :: l, ids, hn, h => by
    have ih := sum_count (l := l) hn fun x hx => h x (.tail _ hx)
    have e : (ids.map fun x => (y :: l).count x).sum = (ids.map fun x => l.count x).sum + (ids.map fun x => if y = x then 1 else 0).sum := by
      rw [← sum_add]; congr 1; apply List.map_congr_left; intro x _; rw [List.count_cons]; congr 1; simp
    have e1 : ∀ ids : List Int, ids.Nodup → y ∈ ids → (ids.map fun x => if y = x then 1 else 0).sum = 1 := by
      intro ids
      induction ids with
      | nil => intro _ h; cases h
      | cons z r ihz =>
        intro hn hy
        have hn' := List.nodup_cons.mp hn
        simp only [List.map_cons, List.sum_cons]
        by_cases hz : y = z
        · subst hz
          have : (r.map fun x => if y = x then 1 else 0).sum = 0 := by
            have : (r.map fun x => if y = x then 1 else 0) = r.map fun _ => 0 := by
              apply List.map_congr_left; intro x hx; rw [if_neg]; rintro rfl; exact hn'.1 hx
            rw [this, sum_const]; (first | lia | omega)
          rw [if_pos rfl, this]
        · rw [if_neg hz, ihz hn'.2 (by rcases List.mem_cons.mp hy with h | h; exact absurd h hz; exact h)]
    rw [e, ih, e1 ids hn (h y (.head _)), List.length_cons]
/-- Kraft: the first m of row h are no wider than their numbers allow -/
theorem kraft (hn : ids.Nodup) : ∀ (h m : Nat), m ≤ (rowC (coinsW w ids) h).length → m * 2 ^ h ≤ (ids.map fun x => 2 ^ (h + 1) - 2 ^ (h + 1 - cnt (coinsW w ids) h m x)).sum
  | 0, m, hm => by
    have hm' : m ≤ ids.length := by simpa [rowC] using hm
    have e : (ids.map fun x => (ids.take m).count x).sum = m := by
      rw [sum_count hn fun x hx => List.mem_of_mem_take hx, List.length_take]; (first | lia | omega)
    rw [Nat.pow_zero, Nat.mul_one]
    refine Nat.le_trans (Nat.le_of_eq e.symm) (sum_le fun x _ => ?_)
    have := count_take_le hn m x
    rw [cnt_zero]
    generalize (ids.take m).count x = c at *
    match c, this with
    | 0, _ => decide
    | 1, _ => decide
  | h + 1, m, hm => by
    obtain ⟨a, b, e, ha, hb, hx⟩ := cnt_step hm
    have ih := kraft hn h (2 * b) hb
    have ha' : a ≤ ids.length := by simpa using ha
    have e1 : (ids.map fun x => (ids.take a).count x).sum = a := by
      rw [sum_count hn fun x hx => List.mem_of_mem_take hx, List.length_take]; (first | lia | omega)
    have e2 : m * 2 ^ (h + 1) = a * 2 ^ (h + 1) + 2 * b * 2 ^ h := by rw [← e, Nat.add_mul, pow_two_succ h, Nat.mul_left_comm b 2, Nat.mul_assoc]
    rw [e2]
    have h3 : a * 2 ^ (h + 1) + 2 * b * 2 ^ h ≤ (ids.map fun x => (ids.take a).count x * 2 ^ (h + 1) + (2 ^ (h + 1) - 2 ^ (h + 1 - cnt (coinsW w ids) h (2 * b) x))).sum := by
      rw [sum_add, sum_mul, e1]; (first | lia | omega)
    refine Nat.le_trans h3 (sum_le fun x _ => ?_)
    rw [hx x, flat_take]
    have hc1 := count_take_le hn a x
    have hc2 := cnt_le (w := w) hn h (2 * b) hb x
    generalize (ids.take a).count x = c at *
    generalize cnt (coinsW w ids) h (2 * b) x = d at *
    have ep : 2 ^ (h + 1 + 1) = 2 * 2 ^ (h + 1) := pow_two_succ _
    have hle : 2 ^ (h + 1 - d) ≤ 2 ^ (h + 1) := Nat.pow_le_pow_right (by decide) (by (first | lia | omega))
    match c, hc1 with
    | 0, _ =>
      have e4 : h + 1 + 1 - (0 + d) = (h + 1 - d) + 1 := by (first | lia | omega)
      rw [e4, pow_two_succ (h + 1 - d), ep]; (first | lia | omega)
    | 1, _ =>
      have e4 : h + 1 + 1 - (1 + d) = h + 1 - d := by (first | lia | omega)
      rw [e4, ep]; (first | lia | omega)
end
end --T_Pm

section --T_Pmm

section
variable {ids : List Int} {w : Int → Int}
theorem pack_good {P : Coin → Prop} (hP : ∀ a b : Coin, P a → P b → P (a.1 + b.1, a.2 ++ b.2)) : ∀ {l : List Coin}, (∀ c ∈ l, P c) → ∀ c ∈ packC l, P c
  | [], _, c, hc => by simp [packC] at hc
  | [_], _, c, hc => by simp [packC] at hc
  | a :: b :: r, h, c, hc => by
    rw [packC] at hc
    rcases List.mem_cons.mp hc with rfl | hc
    · exact hP a b (h a (.head _)) (h b (.tail _ (.head _)))
    · exact pack_good hP (fun d hd => h d (.tail _ (.tail _ hd))) c hc
theorem row_good {P : Coin → Prop} (hP : ∀ a b : Coin, P a → P b → P (a.1 + b.1, a.2 ++ b.2)) {cs : List Coin} (h : ∀ c ∈ cs, P c) : ∀ n, ∀ c ∈ rowC cs n, P c
  | 0 => h
  | n + 1 => fun c hc => by
    rcases mem_merge.mp hc with hc | hc
    · exact h c hc
    · exact pack_good hP (row_good hP h n) c hc
theorem row_w (h : Nat) : ∀ c ∈ rowC (coinsW w ids) h, c.1 = (c.2.map w).sum := by
  refine row_good (P := fun c => c.1 = (c.2.map w).sum) (fun a b ha hb => ?_) (fun c hc => ?_) h
  · show a.1 + b.1 = _
    rw [List.map_append, List.sum_append, ← ha, ← hb]
  · obtain ⟨x, _, rfl⟩ := List.mem_map.mp hc
    simp
theorem row_ids (h : Nat) : ∀ c ∈ rowC (coinsW w ids) h, ∀ x ∈ c.2, x ∈ ids := by
  refine row_good (P := fun c => ∀ x ∈ c.2, x ∈ ids) (fun a b ha hb x hx => ?_) (fun c hc => ?_) h
  · rcases List.mem_append.mp hx with hx | hx
    · exact ha x hx
    · exact hb x hx
  · obtain ⟨x, hx, rfl⟩ := List.mem_map.mp hc
    intro y hy
    rw [List.mem_singleton.mp hy]; exact hx
theorem wsum_flat : ∀ {l : List Coin}, (∀ c ∈ l, c.1 = (c.2.map w).sum) → wsum l = ((flatC l).map w).sum
  | [], _ => by simp [wsum]
  | c :: l, h => by
    rw [wsum_cons, h c (.head _), wsum_flat fun d hd => h d (.tail _ hd), flatC, flatC, List.flatMap_cons, List.map_append, List.sum_append]
theorem isum_add (f g : Int → Int) : ∀ l : List Int, (l.map fun x => f x + g x).sum = (l.map f).sum + (l.map g).sum
  | [] => by simp
  | x :: r => by simp only [List.map_cons, List.sum_cons, isum_add f g r]; (first | lia | omega)
theorem isum_zero : ∀ l : List Int, (l.map fun _ => (0 : Int)).sum = 0
  | [] => by simp
  | x :: r => by simp only [List.map_cons, List.sum_cons, isum_zero r]; rfl
theorem isum_one {y : Int} (v : Int) : ∀ {ids : List Int}, ids.Nodup → y ∈ ids → (ids.map fun x => if y = x then v else 0).sum = v
  | [], _, h => nomatch h
  | z :: r, hn, hy => by
    have hn' := List.nodup_cons.mp hn
    simp only [List.map_cons, List.sum_cons]
    by_cases hz : y = z
    · subst hz
      have : (r.map fun x => if y = x then v else 0) = r.map fun _ => (0 : Int) := by
        apply List.map_congr_left; intro x hx; rw [if_neg]; rintro rfl; exact hn'.1 hx
      rw [if_pos rfl, this, isum_zero]; (first | lia | omega)
    · rw [if_neg hz, isum_one v hn'.2 (by rcases List.mem_cons.mp hy with h | h; exact absurd h hz; exact h)]; (first | lia | omega)
theorem isum_count : ∀ {l : List Int} {ids : List Int}, ids.Nodup → (∀ x ∈ l, x ∈ ids) → (l.map w).sum = (ids.map fun x => w x * (l.count x : Nat)).sum
  | [], ids, _, _ => by simp [isum_zero]
  | y :: l, ids, hn, h => by
    have ih := isum_count (l := l) hn fun x hx => h x (.tail _ hx)
    have e : (ids.map fun x => w x * ((y :: l).count x : Nat)).sum = (ids.map fun x => w x * (l.count x : Nat)).sum + (ids.map fun x => if y = x then w y else 0).sum := by
      rw [← isum_add]; congr 1; apply List.map_congr_left; intro x _
      rw [List.count_cons]
      by_cases hx : y = x
      · subst hx; simp [Int.mul_add]
      · simp [hx]
    rw [e, ← ih, isum_one _ hn (h y (.head _)), List.map_cons, List.sum_cons]; (first | lia | omega)
theorem row_cost (hn : ids.Nodup) (h m : Nat) : wsum ((rowC (coinsW w ids) h).take m) = (ids.map fun x => w x * (cnt (coinsW w ids) h m x : Nat)).sum := by
  rw [wsum_flat fun c hc => row_w h c (List.mem_of_mem_take hc)]
  refine isum_count hn fun x hx => ?_
  obtain ⟨c, hc, hx⟩ := List.mem_flatMap.mp hx
  exact row_ids h c (List.mem_of_mem_take hc) x hx
noncomputable def lev (w : Int → Int) (ids : List Int) (d : Int → Nat) (t : Nat) : List Coin := coinsW w (ids.filter fun x => decide (d x ≤ t))
theorem lev_sub (d : Int → Nat) (t : Nat) : (lev w ids d t).Sublist (coinsW w ids) := (List.filter_sublist).map _
theorem len_filter (p : Int → Bool) (k : Nat) : ∀ l : List Int, (l.filter p).length * k = (l.map fun x => if p x = true then k else 0).sum
  | [] => by simp
  | x :: r => by
    have ih := len_filter p k r
    simp only [List.map_cons, List.sum_cons]
    cases hp : p x with
    | true => rw [List.filter_cons_of_pos hp, List.length_cons, Nat.add_mul, ih]; simp; (first | lia | omega)
    | false => rw [List.filter_cons_of_neg (by simp [hp]), ih]; simp
theorem sum_filter (p : Int → Bool) : ∀ l : List Int, wsum (coinsW w (l.filter p)) = (l.map fun x => if p x = true then w x else 0).sum
  | [] => by simp [wsum]
  | x :: r => by
    have ih := sum_filter p r
    simp only [List.map_cons, List.sum_cons]
    cases hp : p x with
    | true => rw [List.filter_cons_of_pos hp, coinsW, List.map_cons, wsum_cons, ← coinsW, ih]; simp
    | false => rw [List.filter_cons_of_neg (by simp [hp]), ih]; simp
theorem lev_W (d : Int → Nat) : ∀ n, lvW (lev w ids d) n = (ids.map fun x => 2 ^ n - 2 ^ d x).sum
  | 0 => by
    have : (ids.map fun x => 2 ^ 0 - 2 ^ d x) = ids.map fun _ => 0 := by
      apply List.map_congr_left; intro x _
      have : 0 < 2 ^ d x := Nat.pow_pos (by decide)
      simp; (first | lia | omega)
    rw [this, sum_const, lvW]; (first | lia | omega)
  | n + 1 => by
    rw [lvW, lev_W d n, lev, coinsW, List.length_map, len_filter, ← sum_add]
    congr 1
    apply List.map_congr_left
    intro x _
    by_cases hd : d x ≤ n
    · have : 2 ^ d x ≤ 2 ^ n := Nat.pow_le_pow_right (by decide) hd
      simp only [hd, decide_true, if_true, pow_two_succ n]; (first | lia | omega)
    · have : 2 ^ (n + 1) ≤ 2 ^ d x := Nat.pow_le_pow_right (by decide) (by (first | lia | omega))
      simp only [hd, decide_false, pow_two_succ n] at this ⊢
      rw [if_neg (by simp)]; (first | lia | omega)
theorem lev_S (d : Int → Nat) : ∀ n, lvS (lev w ids d) n = (ids.map fun x => w x * ((n - d x : Nat) : Int)).sum
  | 0 => by simp [lvS, isum_zero]
  | n + 1 => by
    rw [lvS, lev_S d n, lev, sum_filter, ← isum_add]
    congr 1
    apply List.map_congr_left
    intro x _
    by_cases hd : d x ≤ n
    · have e : n + 1 - d x = (n - d x) + 1 := by (first | lia | omega)
      simp only [hd, decide_true, if_true, e]
      rw [Int.natCast_add, Int.mul_add]; simp
    · have e : n + 1 - d x = n - d x := by (first | lia | omega)
      simp only [hd, decide_false, e]; simp
theorem sum_sub {f : Int → Nat} {k : Nat} : ∀ {l : List Int}, (∀ x ∈ l, f x ≤ k) → (l.map fun x => k - f x).sum + (l.map f).sum = l.length * k
  | [], _ => by simp
  | x :: r, h => by
    have := sum_sub (l := r) fun y hy => h y (.tail _ hy)
    have := h x (.head _)
    simp only [List.map_cons, List.sum_cons, List.length_cons, Nat.add_mul]; (first | lia | omega)
theorem sum_lt {f : Int → Nat} {k : Nat} : ∀ {l : List Int} {y : Int}, y ∈ l → (∀ x ∈ l, f x + 1 ≤ k) → f y = 0 → (l.map f).sum + (l.length - 1) ≤ (l.length - 1) * k
  | x :: r, y, hy, h, h0 => by
    rcases List.mem_cons.mp hy with rfl | hy
    · have h2 : (r.map f).sum + r.length ≤ r.length * k := by
        have : ∀ r : List Int, (∀ x ∈ r, f x + 1 ≤ k) → (r.map f).sum + r.length ≤ r.length * k := by
          intro r
          induction r with
          | nil => intro _; simp
          | cons z r ih =>
            intro h
            have := ih fun x hx => h x (.tail _ hx)
            have := h z (.head _)
            simp only [List.map_cons, List.sum_cons, List.length_cons, Nat.add_mul]; (first | lia | omega)
        exact this r fun x hx => h x (.tail _ hx)
      simp only [List.map_cons, List.sum_cons, List.length_cons, h0]
      simpa using h2
    · have ih := sum_lt hy (fun x hx => h x (.tail _ hx)) h0
      have h1 := h x (.head _)
      have hr : 1 ≤ r.length := List.length_pos_of_mem hy
      obtain ⟨n, hn⟩ : ∃ n, r.length = n + 1 := ⟨r.length - 1, by (first | lia | omega)⟩
      simp only [List.map_cons, List.sum_cons, List.length_cons, hn, Nat.add_sub_cancel] at ih ⊢
      rw [Nat.add_mul]; (first | lia | omega)
/-- the first 2 n - 2 of the last row: sizes of codes, and none cost less -/
theorem pm_main (hn : ids.Nodup) (hw : ∀ x ∈ ids, 0 ≤ w x) (hs : Asc (coinsW w ids)) {h : Nat} (h2 : 2 ≤ ids.length) (hfit : ids.length ≤ 2 ^ (h + 1)) :
    (∀ x ∈ ids, 1 ≤ cnt (coinsW w ids) h (2 * ids.length - 2) x ∧ cnt (coinsW w ids) h (2 * ids.length - 2) x ≤ h + 1) ∧
    (ids.map fun x => 2 ^ (h + 1 - cnt (coinsW w ids) h (2 * ids.length - 2) x)).sum ≤ 2 ^ (h + 1) ∧
    ∀ l : Int → Nat, (∀ x ∈ ids, l x ≤ h + 1) → (ids.map fun x => 2 ^ (h + 1 - l x)).sum ≤ 2 ^ (h + 1) →
      (ids.map fun x => w x * (cnt (coinsW w ids) h (2 * ids.length - 2) x : Nat)).sum ≤ (ids.map fun x => w x * (l x : Nat)).sum := by
  have em : (2 * ids.length - 2) * 2 ^ h + 2 ^ (h + 1) = ids.length * 2 ^ (h + 1) := by
    rw [pow_two_succ, ← Nat.add_mul, ← Nat.mul_assoc]; congr 1; (first | lia | omega)
  have hlen : 2 * ids.length - 2 ≤ (rowC (coinsW w ids) h).length := by
    refine row_len _ h _ ?_
    rw [List.length_map]; (first | lia | omega)
  have hle := cnt_le (w := w) hn h _ hlen
  have hk := kraft (w := w) hn h _ hlen
  have hpl : ∀ c, 2 ^ (h + 1 - c) ≤ 2 ^ (h + 1) := fun c => Nat.pow_le_pow_right (by decide) (by (first | lia | omega))
  have hsub := sum_sub (l := ids) (f := fun x => 2 ^ (h + 1 - cnt (coinsW w ids) h (2 * ids.length - 2) x)) (k := 2 ^ (h + 1)) fun x _ => hpl _
  refine ⟨fun x hx => ⟨?_, hle x⟩, ?_, fun l hl hsum => ?_⟩
  · refine Nat.pos_of_ne_zero fun h0 => ?_
    have hlt := sum_lt (l := ids) (f := fun x => 2 ^ (h + 1) - 2 ^ (h + 1 - cnt (coinsW w ids) h (2 * ids.length - 2) x)) (k := 2 ^ (h + 1)) hx (fun y _ => by
      have : 0 < 2 ^ (h + 1 - cnt (coinsW w ids) h (2 * ids.length - 2) y) := Nat.pow_pos (by decide)
      have := hpl (cnt (coinsW w ids) h (2 * ids.length - 2) y)
      (first | lia | omega)) (by simp only [h0, Nat.sub_zero]; (first | lia | omega))
    have e3 : (ids.length - 1) * 2 ^ (h + 1) + 2 ^ (h + 1) = ids.length * 2 ^ (h + 1) := by
      obtain ⟨n, hn⟩ : ∃ n, ids.length = n + 1 := ⟨ids.length - 1, by (first | lia | omega)⟩
      rw [hn, Nat.add_sub_cancel, Nat.add_mul]; (first | lia | omega)
    (first | lia | omega)
  · (first | lia | omega)
  · rw [← row_cost hn]
    have ho := row_opt (cs := coinsW w ids) hs (fun c hc => by obtain ⟨x, hx, rfl⟩ := List.mem_map.mp hc; exact hw x hx) (A := lev w ids fun x => h + 1 - l x) (lev_sub _) h (2 * ids.length - 2) (by
      rw [lev_W]
      have := sum_sub (l := ids) (f := fun x => 2 ^ (h + 1 - l x)) (k := 2 ^ (h + 1)) fun x _ => hpl _
      (first | lia | omega))
    rw [lev_S] at ho
    refine Int.le_trans ho (Int.le_of_eq ?_)
    congr 1
    apply List.map_congr_left
    intro x hx
    have := hl x hx
    rw [show h + 1 - (h + 1 - l x) = l x by (first | lia | omega)]
end
end --T_Pmm

section --T_Pr1

theorem rowC_len_le (cs : List Coin) : ∀ n, (rowC cs n).length ≤ 2 * cs.length
  | 0 => by simp only [rowC]; (first | lia | omega)
  | n + 1 => by have := rowC_len_le cs n; rw [rowC, mergeC_length, packC_length]; (first | lia | omega)
theorem packC_wide {k : Nat} : ∀ {l : List Coin}, (∀ c ∈ l, c.2.length ≤ k) → ∀ c ∈ packC l, c.2.length ≤ 2 * k
  | [], _, c, hc => by simp [packC] at hc
  | [_], _, c, hc => by simp [packC] at hc
  | a :: b :: r, h, c, hc => by
    rw [packC] at hc
    rcases List.mem_cons.mp hc with rfl | hc
    · have := h a (.head _); have := h b (.tail _ (.head _)); show (a.2 ++ b.2).length ≤ _; rw [List.length_append]; (first | lia | omega)
    · exact packC_wide (fun d hd => h d (.tail _ (.tail _ hd))) c hc
theorem rowC_wide {cs : List Coin} (h : ∀ c ∈ cs, c.2.length ≤ 1) : ∀ n, ∀ c ∈ rowC cs n, c.2.length ≤ 2 ^ n
  | 0 => h
  | n + 1 => fun c hc => by
    have hp : 1 ≤ 2 ^ n := Nat.one_le_two_pow
    rcases mem_merge.mp hc with hc | hc
    · have := h c hc; rw [pow_two_succ]; (first | lia | omega)
    · have := packC_wide (rowC_wide h n) c hc; rw [pow_two_succ]; (first | lia | omega)
noncomputable def bump (S : List (Int × Int)) (x : Int) : List (Int × Int) := dput S x ((look S x).getD 0 + 1)
noncomputable def coinsOf (P : List Pr) : List Coin := (0, [-1]) :: P.map fun p => (p.1, [-p.2])
noncomputable def tallyC (cs : List Coin) : List (Int × Int) := cs.foldl (fun S c => c.2.foldl bump S) []
theorem look_bumps : ∀ (l : List Int) (S : List (Int × Int)) (x : Int), look (l.foldl bump S) x = if l.count x = 0 then look S x else some ((look S x).getD 0 + (l.count x : Nat))
  | [], S, x => by simp
  | y :: l, S, x => by
    rw [List.foldl_cons, look_bumps l (bump S y) x, bump, look_dput, List.count_cons]
    by_cases h : y = x
    · subst h
      by_cases h0 : l.count y = 0
      · simp [h0]
      · simp [h0]; (first | lia | omega)
    · simp [h]
theorem tally_flat : ∀ (cs : List Coin) (S : List (Int × Int)), cs.foldl (fun S c => c.2.foldl bump S) S = (flatC cs).foldl bump S
  | [], S => rfl
  | c :: cs, S => by
    have e : flatC (c :: cs) = c.2 ++ flatC cs := rfl
    rw [List.foldl_cons, tally_flat cs, e, List.foldl_append]
theorem look_tally (cs : List Coin) (x : Int) : look (tallyC cs) x = if (flatC cs).count x = 0 then none else some (((flatC cs).count x : Nat) : Int) := by
  rw [tallyC, tally_flat, look_bumps]
  simp [look]
theorem bumps_len : ∀ (l : List Int) (S : List (Int × Int)), (l.foldl bump S).length ≤ S.length + l.length
  | [], S => by simp
  | x :: l, S => by
    have h1 := bumps_len l (bump S x)
    have h2 : (bump S x).length ≤ S.length + 1 := dput_len _ _
    rw [List.foldl_cons, List.length_cons]; (first | lia | omega)
theorem tally_len (cs : List Coin) : (tallyC cs).length ≤ (flatC cs).length := by
  rw [tallyC, tally_flat]
  have := bumps_len (flatC cs) []
  simpa using this
theorem flat_len {k : Nat} : ∀ {l : List Coin}, (∀ c ∈ l, c.2.length ≤ k) → (flatC l).length ≤ l.length * k
  | [], _ => by simp
  | c :: l, h => by
    have h1 := flat_len (l := l) fun d hd => h d (.tail _ hd)
    have h2 := h c (.head _)
    have e : flatC (c :: l) = c.2 ++ flatC l := rfl
    rw [e, List.length_append, List.length_cons, Nat.add_mul]
    (first | lia | omega)
theorem look_ddel {D : List (Int × Int)} {x : Int} : ∀ {y : Int}, look (ddel D x) y = if y = x then none else look D y := by
  induction D with
  | nil => intro y; simp [ddel, look]
  | cons p D ih =>
    intro y
    by_cases h : p.1 = x
    · have e : ddel (p :: D) x = ddel D x := by rw [ddel, List.filter_cons_of_neg (by simp [h])]; rfl
      rw [e, ih]
      by_cases hy : y = x
      · simp [hy]
      · have : p.1 ≠ y := by rw [h]; exact fun e => hy e.symm
        rw [if_neg hy, if_neg hy]
        obtain ⟨a, b⟩ := p
        simp only [look] at this ⊢
        simp [this]
    · have e : ddel (p :: D) x = p :: ddel D x := by rw [ddel, List.filter_cons_of_pos (by simp [h])]; rfl
      rw [e]
      obtain ⟨a, b⟩ := p
      simp only at h
      by_cases hy : a = y
      · subst hy; simp [look, h]
      · simp only [look, hy, if_false]; exact ih
/-- the sizes that best_sizes tells, P being the used symbols with their counts, ascending -/
noncomputable def sizesC (most : Nat) (P : List Pr) : List (Int × Int) := match P with
  | [] => []
  | _ => ddel (tallyC ((rowC (coinsOf P) (most - 1)).take (2 * (coinsOf P).length - 2))) (-1)
noncomputable def idsOf (P : List Pr) : List Int := -1 :: P.map fun p => -p.2
noncomputable def wOf (P : List Pr) (x : Int) : Int := if x = -1 then 0 else (look (P.map fun p => (-p.2, p.1)) x).getD 0
theorem coinsOf_eq {P : List Pr} (hk : (P.map (·.2)).Nodup) (h1 : ∀ p ∈ P, p.2 ≠ 1) : coinsOf P = coinsW (wOf P) (idsOf P) := by
  rw [coinsOf, coinsW, idsOf, List.map_cons]
  congr 1
  rw [List.map_map]
  apply List.map_congr_left
  intro p hp
  have hl : look (P.map fun p => (-p.2, p.1)) (-p.2) = some p.1 := look_of_mem (by
    rw [List.map_map]
    rw [List.nodup_iff_pairwise_ne, List.pairwise_map] at *
    exact hk.imp fun {a b} h e => h (by simp only [Function.comp] at e; (first | lia | omega))) (List.mem_map.mpr ⟨p, hp, rfl⟩)
  have hne : ¬ (-p.2 = -1) := by have := h1 p hp; (first | lia | omega)
  simp only [Function.comp, wOf]
  rw [if_neg hne, hl]; rfl
end --T_Pr1

section --T_Pr2

noncomputable abbrev rowE (most : Nat) (P : List Pr) : List Coin := (rowC (coinsOf P) (most - 1)).take (2 * (coinsOf P).length - 2)
noncomputable abbrev symsOf (P : List Pr) : List Int := P.map fun p => -p.2
theorem sizesC_ne {most : Nat} {P : List Pr} (h : P ≠ []) : sizesC most P = ddel (tallyC (rowE most P)) (-1) := by
  cases P with
  | nil => exact absurd rfl h
  | cons p P => rfl
theorem best_pure {P : List Pr} {most : Nat} (hk : (P.map (·.2)).Nodup) (h1 : ∀ p ∈ P, p.2 ≠ 1) (hs : P.Pairwise fun a b => lt2 a b = true) (hp : ∀ p ∈ P, 0 < p.1) (hne : P ≠ []) (hm : 1 ≤ most) (hfit : P.length + 1 ≤ 2 ^ most) :
    ∃ c : Int → Nat, (∃ v, look (tallyC (rowE most P)) (-1) = some v) ∧ (∀ x, look (sizesC most P) x = if x ∈ symsOf P then some ((c x : Nat) : Int) else none) ∧ (∀ x ∈ symsOf P, 1 ≤ c x ∧ c x ≤ most) ∧
      ((symsOf P).map fun x => 2 ^ (most - c x)).sum < 2 ^ most ∧
      ∀ l : Int → Nat, (∀ x ∈ symsOf P, l x ≤ most) → ((symsOf P).map fun x => 2 ^ (most - l x)).sum < 2 ^ most → ((symsOf P).map fun x => wOf P x * (c x : Nat)).sum ≤ ((symsOf P).map fun x => wOf P x * (l x : Nat)).sum := by
  obtain ⟨h, rfl⟩ : ∃ h, most = h + 1 := ⟨most - 1, by (first | lia | omega)⟩
  have hids : idsOf P = -1 :: symsOf P := rfl
  have hnU : (symsOf P).Nodup := by
    rw [List.nodup_iff_pairwise_ne, List.pairwise_map] at *
    exact hk.imp fun {a b} h e => h (by (first | lia | omega))
  have hno : (-1 : Int) ∉ symsOf P := by
    intro hm
    obtain ⟨p, hp, e⟩ := List.mem_map.mp hm
    exact h1 p hp (by (first | lia | omega))
  have hn : (idsOf P).Nodup := by rw [hids]; exact List.nodup_cons.mpr ⟨hno, hnU⟩
  have he := coinsOf_eq hk h1
  have hw1 : wOf P (-1) = 0 := by simp [wOf]
  have hlen : (coinsOf P).length = P.length + 1 := by simp [coinsOf]
  have hil : (idsOf P).length = P.length + 1 := by simp [idsOf]
  have hpl : 1 ≤ P.length := List.length_pos_iff.mpr hne
  have hasc : Asc (coinsOf P) := by
    rw [coinsOf]
    refine List.pairwise_cons.mpr ⟨fun d hd => ?_, ?_⟩
    · obtain ⟨p, hp', rfl⟩ := List.mem_map.mp hd
      have := hp p hp'; show (0 : Int) ≤ p.1; (first | lia | omega)
    · rw [List.pairwise_map]
      refine hs.imp fun {a b} hab => ?_
      simp only [lt2, Bool.or_eq_true, Bool.and_eq_true, decide_eq_true_eq] at hab
      show a.1 ≤ b.1
      (first | lia | omega)
  have hpos : ∀ c ∈ coinsOf P, 0 ≤ c.1 := by
    intro c hc
    rcases List.mem_cons.mp hc with rfl | hc
    · exact Int.le_refl _
    · obtain ⟨p, hp', rfl⟩ := List.mem_map.mp hc
      have := hp p hp'; show (0 : Int) ≤ p.1; (first | lia | omega)
  have hw : ∀ x ∈ idsOf P, 0 ≤ wOf P x := by
    intro x hx
    have : (wOf P x, [x]) ∈ coinsOf P := by rw [he]; exact List.mem_map.mpr ⟨x, hx, rfl⟩
    exact hpos _ this
  obtain ⟨m1, m2, m3⟩ := pm_main (w := wOf P) hn hw (he ▸ hasc) (h := h) (by (first | lia | omega)) (by rw [hil]; exact hfit)
  rw [← he] at m1 m2 m3
  have hR : ∀ x, cnt (coinsOf P) h (2 * (idsOf P).length - 2) x = (flatC (rowE (h + 1) P)).count x := by
    intro x; rw [cnt, rowE, hil, hlen, Nat.add_sub_cancel]
  simp only [hR] at m1 m2 m3
  have hsub : ∀ x ∈ flatC (rowE (h + 1) P), x ∈ idsOf P := by
    intro x hx
    obtain ⟨c, hc, hx⟩ := List.mem_flatMap.mp hx
    have hc' := List.mem_of_mem_take hc
    rw [he] at hc'
    exact row_ids (w := wOf P) _ c hc' x hx
  have c1 := m1 (-1) (by rw [hids]; exact .head _)
  refine ⟨fun x => (flatC (rowE (h + 1) P)).count x, ⟨_, by rw [look_tally, if_neg (by (first | lia | omega))]⟩, ?_, ?_, ?_, ?_⟩
  · intro x
    have e : sizesC (h + 1) P = ddel (tallyC (rowE (h + 1) P)) (-1) := sizesC_ne hne
    rw [e, look_ddel]
    by_cases hx : x = -1
    · subst hx; rw [if_pos rfl, if_neg hno]
    · rw [if_neg hx, look_tally]
      by_cases hxU : x ∈ symsOf P
      · have := m1 x (by rw [hids]; exact .tail _ hxU)
        rw [if_pos hxU, if_neg (by (first | lia | omega))]
      · rw [if_neg hxU, if_pos]
        refine List.count_eq_zero.mpr fun hm => ?_
        rcases List.mem_cons.mp (hids ▸ hsub x hm) with h | h
        · exact hx h
        · exact hxU h
  · exact fun x hx => m1 x (by rw [hids]; exact .tail _ hx)
  · rw [hids] at m2
    simp only [List.map_cons, List.sum_cons] at m2
    have : 0 < 2 ^ (h + 1 - (flatC (rowE (h + 1) P)).count (-1)) := Nat.pow_pos (by decide)
    dsimp only
    (first | lia | omega)
  · intro l hl hsum
    have := m3 (fun x => if x = -1 then h + 1 else l x) (fun x hx => by
      by_cases hx1 : x = -1
      · simp [hx1]
      · simp only [hx1, if_false]
        rcases List.mem_cons.mp (hids ▸ hx) with e | hx
        · exact absurd e hx1
        · exact hl x hx) (by
      rw [hids]
      simp only [List.map_cons, List.sum_cons, if_true, Nat.sub_self, Nat.pow_zero]
      have e : ((symsOf P).map fun x => 2 ^ (h + 1 - (if x = -1 then h + 1 else l x))) = (symsOf P).map fun x => 2 ^ (h + 1 - l x) := by
        apply List.map_congr_left
        intro x hx
        rw [if_neg (fun e : x = -1 => hno (e ▸ hx))]
      rw [e]; (first | lia | omega))
    rw [hids] at this
    simp only [List.map_cons, List.sum_cons, hw1, Int.zero_mul, Int.zero_add] at this
    refine Int.le_trans this (Int.le_of_eq ?_)
    congr 1
    apply List.map_congr_left
    intro x hx
    rw [if_neg (fun e : x = -1 => hno (e ▸ hx))]
end --T_Pr2

section --T_Best
open PySem PySem.W PyProof.Rows PySem.Spec PySem.Calls
theorem pick_upto {l : List Value} {y : Int} {k : Nat} (h : 0 ≤ y) (e : y.toNat = k) : kms_pick l none (some y) = l.take k := by
  unfold kms_pick kms_lo kms_hi
  simp only [if_neg (show ¬ y < 0 by (first | lia | omega)), List.drop_zero, Nat.sub_zero, e]
  exact kmk_take_min _ _
theorem cD_refs {L : Led} : ∀ {us : List Value} {P : List Coin}, DatAll L us (P.map cD) → ∀ v ∈ us, ∃ b, v = Value.ref b
  | [], _, _, _, h => nomatch h
  | _ :: _, [], h, _, _ => nomatch h
  | _ :: us, c :: cs, h, v, hv => by
    cases h with
    | cons h1 h2 =>
      rcases List.mem_cons.mp hv with rfl | hv
      · obtain ⟨a, _, _, _, e, _⟩ := cD_inv h1
        exact ⟨a, e⟩
      · exact cD_refs h2 v hv
theorem datTake {L : Led} : ∀ {us : List Value} {ds : List Dat} (k : Nat), DatAll L us ds → DatAll L (us.take k) (ds.take k)
  | _, _, 0, _ => by simp only [List.take_zero]; exact .nil
  | _, _, _ + 1, .nil => .nil
  | _, _, k + 1, .cons h r => .cons h (datTake k r)
local macro_rules | `(tactic| walk_at "exec Raise some none") => `(tactic| (k_here; (with_reducible show wpAny _ _ (exec (Stmt.Raise (some (Expr.Call (Expr.Name _ _) (_ :: _) [] _)) none _) _) _ _ _); k_dflt (refine raise_mine rfl ?_)))
set_option maxRecDepth 100000 in
set_option maxHeartbeats 1000000 in
theorem best_tel (w : World) {a1 : Addr} {D : List (Int × Int)} {news : Led} {o : Obj} {most : Nat} {t : Tok} (ha : (a1, o) ∈ news) (hD : DictI PySem.Challenge.rw_ok0135_01.row.prog w o D) (lo : (a1 == sysModules) = false) (ok1 : D.length ≤ 5) (hD0 : ∀ p ∈ D, 0 ≤ p.1) (hm1 : 1 ≤ most) (hm4 : most ≤ 4) :
    TelE w 84 12 [.ref a1, .int (most : Int) t] news (fun r news' => ∃ P' : List Pr, P'.Perm (usedP D) ∧ P'.Pairwise (fun a b => lt2 a b = true) ∧ Grown news news' ∧ ∃ A o', r = .ref A ∧ (A, o') ∈ news' ∧ (A == sysModules) = false ∧ DictI PySem.Challenge.rw_ok0135_01.row.prog w o' (sizesC most P') ∧ (P' = [] ∨ P'.length + 1 ≤ 2 ^ most)) (usedP D ≠ [] ∧ 2 ^ most < (usedP D).length + 1) := by
  w_top off
  unfold TelE
  k_fill
  intro mean mg mb dp un gd cn cs a ccd cl outer A₀ base h₀ L m s Q E B F X N T hk hd hu hret hexc
  refine wpAny_call ?_
  k_dflt (refine' code_def ?k1 ?k2 ?k3 ?k4 ?k5 ?kA ?kF ?kK ?k6 ?k7 ?k8 ?k9 ?kB ?_ ?c2 ?c3 ?c4 ?c5; (case kA => exact rfl); (case kF => exact rfl); (case kK => assumption); (case k1 => k_asm); (case k2 => k_asm); (case k3 => k_asm); (case k4 => k_asm); (case k5 => k_asm); (case k6 => k_is); (case k7 => k_is); (case k8 => ktr_room); (case k9 => exact BindsTo.of_eq rfl); (case c5 => decide); (case kB => exact locs rfl); (case c2 => exact rfl); (case c3 => exact rfl); (case c4 => exact rfl); k_whole; intro g' L' h' FG' F' N' B' X' T'; (try dsimp only); (try k_fold))
  rename Fr _ _ _ _ => F1
  have F2 : Fr _ _ _ (fun y => List.lookup y [(Str.ofString "most", .int (most : Int) t), (Str.ofString "frequencies", Value.ref a1)]) := F1
  clear F1
  (try k_fold)
  repeat' (first | (k_unfold; (try dsimp only)) | (k_end; wrow_close) | (fail_if_success (with_reducible show wpAny _ _ (exec (Stmt.For _ _ _ _ _) _) _ _ _)); first | walk1 | (dsimp only; walk1) | (leave1; walk_say "STEP leave1"; try dsimp only) | fail "no step")
  with_unfolding_all refine' tel_use (worth_tel w ha hD lo ok1) B' F2 X' N' T' rfl ?hd ?hu ?_
  case hd => first | exact room2 hd (by decide) | ktr_room
  case hu => first | exact room2 hu (by decide) | (show un + 3 + _ < _; exact room2 hu (by decide)) | (simp only [units_deeper]; (first | lia | omega))
  rintro r0 news0 h4 tk4 F3 N3 hJ2
  refine el1_3 hJ2 ?_
  clear hJ2
  rintro P' hP hPs hr0
  clear F2 N'
  have hJ3 := datRef hr0.dat
  refine el1_1 hJ3 ?_
  clear hJ3
  rintro c1 hc1
  subst hc1
  have hJ4 := datList hr0.dat
  refine el2_2 hJ4 ?_
  clear hJ4
  rintro vc nc hcm hcd
  (try k_fold)
  repeat' (first | (k_unfold; (try dsimp only)) | (k_end; wrow_close) | (fail_if_success (with_reducible show wpAny _ _ (exec (Stmt.For _ _ _ _ _) _) _ _ _)); first | walk1 | (dsimp only; walk1) | (leave1; walk_say "STEP leave1"; try dsimp only) | fail "no step")
  rename Fr g' _ _ _ => F4
  rename News g' _ _ _ => N4
  by_cases hPe : P' = []
  · subst hPe
    with_unfolding_all refine' eq_dat (r := true) N4 (.tail _ hcm) hcd (fun _ h => .tail _ h) (.head _) (show DatAll [] [] [] from .nil) (fun _ h => nomatch h) csD_ok (fun _ h => nomatch h) ?hu (by simp) ?_
    case hu => first | exact room2 hu (by decide) | (show un + 3 + _ < _; exact room2 hu (by decide)) | (simp only [units_deeper]; (first | lia | omega))
    (try k_fold)
    repeat' (first | (k_unfold; (try dsimp only)) | (k_end; wrow_close) | walk1 | (dsimp only; walk1) | (leave1; walk_say "STEP leave1"; try dsimp only) | fail "no step")
    rename_i q1 k1 g1 l5 g2 l15 d5 g3 o5 F5 N5 lo5 hs5 fs5 hi5 fi5 l25 kF kN Tc kX
    (try show wpAny _ _ _ _ _ { heap := _, gens := Shared.gens s, drawn := Shared.drawn s, toks := _, os := Shared.os s })
    (try k_fold)
    have l15' : ∀ q ∈ news, @Ne Nat q.1 l5 := fun q hq => Nat.ne_of_lt (l15 q (hr0.grown.sub q hq))
    have l25' : ∀ q ∈ news, @Ne Nat q.1 d5 := fun q hq => Nat.ne_of_lt (tb_ltOf l25.2 q (hr0.grown.sub q hq))
    exact hret _ _ _ _ kF kN ⟨[], hP, .nil, (hr0.grown.consN l15').consN l25', d5, o5, rfl, .head _, lo5, ⟨[], hi5, .nil⟩, .inl rfl⟩
  · with_unfolding_all refine' eq_dat (r := false) N4 (.tail _ hcm) hcd (fun _ h => .tail _ h) (.head _) (show DatAll [] [] [] from .nil) (fun _ h => nomatch h) csD_ok (fun _ h => nomatch h) ?hu (by simp [hPe]) ?_
    case hu => first | exact room2 hu (by decide) | (show un + 3 + _ < _; exact room2 hu (by decide)) | (simp only [units_deeper]; (first | lia | omega))
    (try k_fold)
    repeat' (first | (k_unfold; (try dsimp only)) | (k_end; wrow_close) | (fail_if_success (with_reducible show wpAny _ _ (exec (Stmt.For _ _ _ _ _) _) _ _ _)); first | walk1 | (dsimp only; walk1) | (leave1; walk_say "STEP leave1"; try dsimp only) | fail "no step")
    rename Fr g' _ _ _ => F5
    rename News g' _ _ _ => N5
    have hP5 : P'.length ≤ 5 := by rw [hP.length_eq]; rw [usedP, List.length_map]; exact Nat.le_trans (List.length_filter_le _ _) ok1
    have hvl : vc.length = P'.length := by rw [hcd.length]; simp
    rename_i e0 ge0 le0 e1 ge1 le1 e2 ge2 le2 e3 ge3 le3
    (try show wpAny _ _ _ _ _ { heap := _, gens := Shared.gens s, drawn := Shared.drawn s, toks := _, os := Shared.os s })
    (try k_fold)
    with_unfolding_all refine' add_any F5 N5 (.head _) (.tail _ (.tail _ (.tail _ (.tail _ hcm)))) (by simp; (first | lia | omega)) ?_
    intro D6 h6 F6 N6 l6
    clear F5 N5
    have hJ5 : ∃ us : List Value, us = [Value.ref e2] ++ vc := ⟨_, rfl⟩
    refine el1_1 hJ5 ?_
    clear hJ5
    rintro us hus
    rw [← hus] at N6
    have hJ6 : ∃ b : Led, b = _ ∧ News g' L' h6 b := ⟨_, rfl, N6⟩
    refine el1_2 hJ6 ?_
    clear hJ6
    rintro b6 hb6 N7
    clear N6
    have hul : us.length = P'.length + 1 := by rw [hus]; simp [hvl]
    have hcm6 : (D6, listOf us.toArray 0) ∈ b6 := by rw [hb6]; exact .head _
    have hsub : ∀ p ∈ news0, p ∈ b6 := fun p hp => by rw [hb6]; exact .tail _ (.tail _ (.tail _ (.tail _ (.tail _ hp))))
    have hcd6 : DatAll b6 us ((coinsOf P').map cD) := by
      rw [hus]
      refine .cons ?_ (hcd.mono hsub)
      refine .tuple (by rw [hb6]; exact .tail _ (.tail _ (.head _))) (.cons (.int _ _) (.cons (.list (by rw [hb6]; exact .tail _ (.tail _ (.tail _ (.head _)))) (.cons (.int _ _) .nil)) .nil))
    have hg6 : Grown news0 b6 := by
      rw [hb6]
      have f1 : ∀ q ∈ news0, @LT.lt Nat _ q.1 e0 := le0
      have f2 : ∀ q ∈ news0, @LT.lt Nat _ q.1 e1 := tb_ltOf le1.2
      have f3 : ∀ q ∈ news0, @LT.lt Nat _ q.1 e2 := tb_ltOf le2.2.2
      have f4 : ∀ q ∈ news0, @LT.lt Nat _ q.1 e3 := tb_ltOf le3.2.2.2
      have f5 : ∀ q ∈ news0, @LT.lt Nat _ q.1 D6 := fun q hq => l6 q (.tail _ (.tail _ (.tail _ (.tail _ hq))))
      exact ((((((Grown.refl _).cons f1).cons f2).cons f3).cons f4).cons f5)
    (try k_fold)
    repeat' (first | (k_unfold; (try dsimp only)) | (k_end; wrow_close) | (fail_if_success (with_reducible show wpAny _ _ (exec (Stmt.For _ _ _ _ _) _) _ _ _)); first | walk1 | (dsimp only; walk1) | (leave1; walk_say "STEP leave1"; try dsimp only) | fail "no step")
    · rename Fr g' L' _ _ => F8
      rename News g' L' _ _ => N8
      have hPE : usedP D ≠ [] ∧ 2 ^ most < (usedP D).length + 1 := by
        rename _ < ((P'.length + 1 : Nat) : Int) => hnl
        rw [Int.toNat_natCast] at hnl
        have : ((2 ^ most : Nat) : Int) < ((P'.length + 1 : Nat) : Int) := by push_cast; (first | lia | omega)
        have h2 : 2 ^ most < P'.length + 1 := by exact_mod_cast this
        rw [← hP.length_eq]
        exact ⟨fun e => hPe (by rw [e] at hP; exact hP.eq_nil), h2⟩
      with_unfolding_all refine' tel_use (te_tel w) B' F8 X' N8 T' rfl ?hd ?hu ?_
      case hd => first | exact room2 hd (by decide) | ktr_room
      case hu => first | exact room2 hu (by decide) | (show un + 3 + _ < _; exact room2 hu (by decide)) | (simp only [units_deeper]; (first | lia | omega))
      rintro r9 news9 h9 tk9 F9 N9 hJ7
      refine el4_5 hJ7 ?_
      clear hJ7
      rintro e9 t9 d9 tl9 rfl rfl hm1 hm2 hne9
      clear F8 N8
      (try k_fold)
      repeat' (first | (k_unfold; (try dsimp only)) | (k_end; wrow_close) | walk1 | (dsimp only; walk1) | (leave1; walk_say "STEP leave1"; try dsimp only) | fail "no step")
      have hnb : ∀ q ∈ news, q ∈ b6 := fun q hq => hsub _ (hr0.grown.sub _ hq)
      refine ⟨e9, some d9, t9, rfl, clsT_at (X'.keeps F9.keep), (N9 _ (List.mem_append_left _ hm1)).1, ?_⟩
      k_unfold
      (try dsimp only)
      have N10 : News g' L' h9 ((e9, excO (some d9) t9) :: (t9, tupL [.str (Str.ofString "there are too many symbols for codes of this size") _] 0) :: news) := fun p hp => N9 p (by
        simp only [List.mem_cons] at hp
        rcases hp with rfl | rfl | hp
        · exact List.mem_append_left _ hm1
        · exact List.mem_append_left _ hm2
        · exact List.mem_append_right _ (hnb p hp))
      with_unfolding_all refine exc_leave B' F9 N10 (fun q hq => hne9 _ hm1 q (hnb q hq)) (fun q hq => hne9 _ hm2 q (hnb q hq)) ?_
      intro h10 R10 U10
      (try dsimp only)
      exact hexc _ _ _ _ _ _ hPE FG' R10 U10
    · rename Fr g' L' _ _ => F8
      rename News g' L' _ _ => N8
      have hfitP : P'.length + 1 ≤ 2 ^ most := by
        rename ¬ _ < ((P'.length + 1 : Nat) : Int) => hnl
        rw [Int.toNat_natCast] at hnl
        have : ((P'.length + 1 : Nat) : Int) ≤ ((2 ^ most : Nat) : Int) := by push_cast; (first | lia | omega)
        exact_mod_cast this
      refine my_forS g' (by rfl) (by rfl) ?_
      (try k_fold)
      repeat' (first | (k_unfold; (try dsimp only)) | (k_end; wrow_close) | walk1 | (dsimp only; walk1) | (leave1; walk_say "STEP leave1"; try dsimp only) | fail "no step")
      rename IsRange _ _ _ _ _ _ _ _ => rgX
      rename Fr g' _ _ _ => F8
      rename News g' _ _ _ => N8
      have hcl : (coinsOf P').length = P'.length + 1 := by simp [coinsOf]
      have hcw : ∀ c ∈ coinsOf P', c.2.length ≤ 1 := by
        intro c hc
        rcases List.mem_cons.mp hc with rfl | hc
        · exact Nat.le_refl _
        · obtain ⟨q, _, rfl⟩ := List.mem_map.mp hc; exact Nat.le_refl _
      have hb6r : DatIn b6 (.ref D6) (csD (coinsOf P')) := .list hcm6 hcd6
      refine for_range (n := most - 1) rfl F8 N8 rgX (rgB (by (first | lia | omega))) rgB' (fun i m nx => ∃ (r : Addr) (u : Str → Option Value), m = (fun y => if y = Str.ofString "row" then some (.ref r) else if y = Str.ofString "coins" then some (.ref D6) else u y) ∧ Grown b6 nx ∧ DatIn nx (.ref r) (csD (rowC (coinsOf P') i))) ⟨D6, _, fmH2 rfl rfl, .refl _, hb6r⟩ ?turn ?done
      case turn =>
        rintro i v m₁ nx h tk I oI' hi hJ8
        refine el1_1 hJ8 ?_
        clear hJ8
        rintro t rfl hJ9
        refine el2_3 hJ9 ?_
        clear hJ9
        rintro r u rfl hg hd hS off F9 N9
        have hrl := rowC_len_le (coinsOf P') i
        have hrw := rowC_wide hcw i
        have hp4 : 2 ^ i ≤ 2 ^ 4 := Nat.pow_le_pow_right (by decide) (by (first | lia | omega))
        clear F8 N8
        (try k_fold)
        repeat' (first | (k_unfold; (try dsimp only)) | (k_end; wrow_close) | (fail_if_success (with_reducible show wpAny _ _ (exec (Stmt.For _ _ _ _ _) _) _ _ _)); first | walk1 | (dsimp only; walk1) | (leave1; walk_say "STEP leave1"; try dsimp only) | fail "no step")
        with_unfolding_all refine' tel_use (packed_telS w (sub := nx) hd (fun p hp => .tail _ hp) (by (first | lia | omega)) (fun c hc => Nat.le_trans (hrw c hc) (by (first | lia | omega)))) B' F9 X' N9 T' rfl ?hd ?hu ?_
        case hd => first | exact room2 hd (by decide) | ktr_room
        case hu => first | exact room2 hu (by decide) | (show un + 3 + _ < _; exact room2 hu (by decide)) | (simp only [units_deeper]; (first | lia | omega))
        rintro r1 news1 h5 tk5 F10 N10 hJ10
        refine el1_3 hJ10 ?_
        clear hJ10
        rintro tl1 rfl hne1 hd1
        clear F9 N9
        have hJ11 := datRef hd1
        refine el1_1 hJ11 ?_
        clear hJ11
        rintro p1 hp1
        subst hp1
        (try k_fold)
        repeat' (first | (k_unfold; (try dsimp only)) | (k_end; wrow_close) | (fail_if_success (with_reducible show wpAny _ _ (exec (Stmt.For _ _ _ _ _) _) _ _ _)); first | walk1 | (dsimp only; walk1) | (leave1; walk_say "STEP leave1"; try dsimp only) | fail "no step")
        with_unfolding_all refine' tel_use (merged_telS w (sub := tl1 ++ nx) (DatIn.mono (fun p hp => List.mem_append_right _ (hg.sub _ hp)) hb6r) hd1 (fun p hp => by rcases List.mem_append.mp hp with hp | hp; exact List.mem_append_left _ hp; exact List.mem_append_right _ (.tail _ hp)) (by (first | lia | omega)) (by rw [packC_length]; (first | lia | omega))) B' F10 X' N10 T' rfl ?hd ?hu ?_
        case hd => first | exact room2 hd (by decide) | ktr_room
        case hu => first | exact room2 hu (by decide) | (show un + 3 + _ < _; exact room2 hu (by decide)) | (simp only [units_deeper]; (first | lia | omega))
        rintro r2 news2 h6 tk6 F11 N11 hJ12
        refine el1_3 hJ12 ?_
        clear hJ12
        rintro tl2 rfl hne2 hd2
        clear F10 N10
        have hJ13 := datRef hd2
        refine el1_1 hJ13 ?_
        clear hJ13
        rintro p2 hp2
        subst hp2
        (try k_fold)
        repeat' (first | (k_unfold; (try dsimp only)) | (k_end; wrow_close) | (fail_if_success (with_reducible show wpAny _ _ (exec (Stmt.For _ _ _ _ _) _) _ _ _)); first | walk1 | (dsimp only; walk1) | (leave1; walk_say "STEP leave1"; try dsimp only) | fail "no step")
        rename Fr g' _ _ _ => F12
        rename News g' _ _ _ => N12
        refine ⟨_, _, _, tl2 ++ (tl1 ++ nx), rfl, F12, fun p hp => N12 p ?_, ?_, (fun _ h => nomatch h), ⟨p2, _, fmH2 rfl rfl, hg.trans ⟨tl2 ++ tl1, (List.append_assoc ..).symm, ?_⟩, hd2⟩⟩
        · revert hp p; walk_at "sub"
        · intro p hp
          rcases List.mem_append.mp hp with hp | hp
          · exact Ne.symm (hne2 p hp (I, oI') (List.mem_append_right _ (.head _)))
          · rcases List.mem_append.mp hp with hp | hp
            · exact Ne.symm (hne1 p hp (I, oI') (.head _))
            · exact off p hp
        · intro p hp q hq
          rcases List.mem_append.mp hp with hp | hp
          · exact hne2 p hp q (List.mem_append_right _ (.tail _ hq))
          · exact hne1 p hp q (.tail _ hq)
      case done =>
        rintro m₁ nx h tk hJ14
        refine el2_3 hJ14 ?_
        clear hJ14
        rintro r u rfl hg hd hS F9 N9
        clear F8 N8
        have hrl := rowC_len_le (coinsOf P') (most - 1)
        have hcmx := hg.sub _ hcm6
        have hJ15 := datList hd
        refine el2_2 hJ15 ?_
        clear hJ15
        rintro vr nr hrm hrd
        have hrdl := hrd.length
        rw [List.length_map] at hrdl
        (try k_fold)
        repeat' (first | (k_unfold; (try dsimp only)) | (k_end; wrow_close) | (fail_if_success (with_reducible show wpAny _ _ (exec (Stmt.For _ _ _ _ _) _) _ _ _)); first | walk1 | (dsimp only; walk1) | (leave1; walk_say "STEP leave1"; try dsimp only) | fail "no step")
        refine my_forP g' rfl (by rfl) (by rfl) (by rfl) ?_
        (try k_fold)
        repeat' (first | (k_unfold; (try dsimp only)) | (k_end; wrow_close) | walk1 | (dsimp only; walk1) | (leave1; walk_say "STEP leave1"; try dsimp only) | fail "no step")
        k_dflt (refine' kms_slice_lit (its := vr.toArray) (zs := vr.take (2 * P'.length)) ?zF ?zN ?zl ?zp ?zq ?ze ?_ ?zs ?zt ?zz; (case zF => k_asm); (case zN => k_asm); (case zl => exact News.isList (by assumption) (.tail _ hrm)); (case zp => kmk_part); (case zq => kmk_part); (case zs => with_unfolding_all rfl); (case zt => kmk_pure); (case zz => (rw [sizeLine_eq, List.size_toArray]; (first | lia | omega))); (case ze => (show kms_pick vr none (some _) = _; exact pick_upto (by (first | lia | omega)) (by (first | lia | omega)))))
        intro D7 h7 F7 N7 l7
        k_unfold
        (try dsimp only)
        rename_i ds hx1 od Fx1 Nx1 lds lods hsx fsx hix fix hx2 Fx2 Nx2
        (try show wpAny _ _ _ _ _ { heap := _, gens := Shared.gens s, drawn := Shared.drawn s, toks := _, os := Shared.os s })
        (try k_fold)
        have hJ16 : ∃ b : Led, b = ((D7, listOf (vr.take (2 * P'.length)).toArray 0) :: nx) := ⟨_, rfl⟩
        refine el1_1 hJ16 ?_
        clear hJ16
        rintro rest hrest
        have hDd : @LT.lt Nat _ ds D7 := l7 _ (.head _)
        have N8 : News g' L' h7 ((ds, od) :: rest) := fun p hp => N7 p (by revert hp p; walk_at "sub")
        have hdr : ∀ p ∈ rest, p.1 ≠ ds := by rw [hrest]; simp only [List.forall_mem_cons]; exact ⟨Nat.ne_of_gt hDd, fun p hp => Nat.ne_of_lt (lds p hp)⟩
        have e7 : 2 * (coinsOf P').length - 2 = 2 * P'.length := by (first | lia | omega)
        have hrd7 : DatAll rest (vr.take (2 * P'.length)) ((rowE most P').map cD) := by
          rw [hrest, rowE, e7, List.map_take]
          exact datTake _ (hrd.mono fun p hp => .tail _ hp)
        have hrl7 := hrd7.length
        rw [List.length_map] at hrl7
        have hwide : ∀ c ∈ rowE most P', c.2.length ≤ 8 := fun c hc => Nat.le_trans (rowC_wide hcw _ c (List.mem_of_mem_take hc)) (Nat.pow_le_pow_right (n := 2) (by decide) (show most - 1 ≤ 3 by (first | lia | omega)))
        have hrel : (rowE most P').length ≤ 12 := by rw [rowE, List.length_take]; (first | lia | omega)
        clear Fx1 Nx1 Fx2 Nx2 N7
        refine ⟨D7, vr.take (2 * P'.length), 0, _, (ds, od) :: rest, fun i m nx => ∃ (o : Obj) (u : Str → Option Value), m = (fun y => if y = Str.ofString "sizes" then some (.ref ds) else u y) ∧ nx = (ds, o) :: rest ∧ DictI PySem.Challenge.rw_ok0135_01.row.prog w o (tallyC ((rowE most P').take i)), rfl, .tail _ (by rw [hrest]; exact .head _), F7, N8, ⟨od, _, fmH1 rfl, rfl, [], hix, .nil⟩, cD_refs hrd7, ?turn, ?done⟩
        case turn =>
          rintro i v m₁ nx2 hv hJ17
          refine el2_3 hJ17 ?_
          clear hJ17
          rintro o2 u2 rfl rfl hd2 hax
          have hi : i < (rowE most P').length := by rw [← hrl7]; exact (List.getElem?_eq_some_iff.mp hv).1
          obtain ⟨v', hv', hdv⟩ := hrd7.get (k := i) (by rw [List.length_map]; exact hi)
          rw [hv] at hv'
          obtain rfl := Option.some.inj hv'
          rw [List.getElem_map] at hdv
          have hJ18 := cD_inv hdv
          refine el4_3 hJ18 ?_
          clear hJ18
          rintro ta tt tb tn rfl hta htb
          refine ⟨ta, _, _, tn, rfl, .tail _ hta, ?_⟩
          intro h8 tk8 oI8 off8 F8 N8
          have hJ19 := datInts htb
          refine el2_2 hJ19 ?_
          clear hJ19
          rintro us8 n8 hm8 hi8
          have hJ20 : ∃ I, I = h7.objs.size := ⟨_, rfl⟩
          refine el1_1 hJ20 ?_
          clear hJ20
          rintro I8 hI8
          rw [← hI8] at off8 N8 ⊢
          have hI8d : @Ne Nat ds I8 := off8 _ (.head _)
          have N9 : News g' L' h8 ((ds, o2) :: (I8, oI8) :: rest) := fun p hp => N8 p (by
            revert hp p; walk_at "sub")
          have hJ21 : ∃ c, c = (rowE most P')[i]'hi := ⟨_, rfl⟩
          refine el1_1 hJ21 ?_
          clear hJ21
          rintro cs8 hcs8
          have hc8w : cs8.2.length ≤ 8 := by rw [hcs8]; exact hwide _ (List.getElem_mem _)
          rw [← hcs8] at hi8
          have htl8 : (tallyC ((rowE most P').take i)).length ≤ 96 := by
            refine Nat.le_trans (tally_len _) (Nat.le_trans (flat_len (k := 8) fun c hc => hwide c (List.mem_of_mem_take hc)) ?_)
            rw [List.length_take]; (first | lia | omega)
          clear F7 N8
          (try k_fold)
          repeat' (first | (k_unfold; (try dsimp only)) | (k_end; wrow_close) | (fail_if_success (with_reducible show wpAny _ _ (exec (Stmt.For _ _ _ _ _) _) _ _ _)); first | walk1 | (dsimp only; walk1) | (leave1; walk_say "STEP leave1"; try dsimp only) | fail "no step")
          refine my_forS g' (by rfl) (by rfl) ?_
          (try k_fold)
          repeat' (first | (k_unfold; (try dsimp only)) | (k_end; wrow_close) | walk1 | (dsimp only; walk1) | (leave1; walk_say "STEP leave1"; try dsimp only) | fail "no step")
          refine for_list rfl F8 N9 (.tail _ (.tail _ hm8)) (fun k m nx => ∃ (o : Obj) (u : Str → Option Value), m = (fun y => if y = Str.ofString "sizes" then some (.ref ds) else u y) ∧ nx = (ds, o) :: (I8, oI8) :: rest ∧ DictI PySem.Challenge.rw_ok0135_01.row.prog w o ((cs8.2.take k).foldl bump (tallyC ((rowE most P').take i)))) ⟨o2, _, fmH1 rfl, rfl, hd2⟩ ?turn2 ?done2
          case turn2 =>
            rintro k v m₂ nx3 h9 tk9 I9 oI9 hk hv9 hJ22
            refine el2_3 hJ22 ?_
            clear hJ22
            rintro o3 u3 rfl rfl hd3 hS9 off9 F9 N10
            have hJ23 := ints_at hi8 hv9
            refine el1_1 hJ23 ?_
            clear hJ23
            rintro t9 rfl
            have hI9d : @Ne Nat ds I9 := off9 _ (.head _)
            have htl9 := bumps_len (cs8.2.take k) (tallyC ((rowE most P').take i))
            rw [List.length_take] at htl9
            clear F8 N9
            (try k_fold)
            repeat' (first | (k_unfold; (try dsimp only)) | (k_end; wrow_close) | walk1 | (dsimp only; walk1) | (leave1; walk_say "STEP leave1"; try dsimp only) | fail "no step")
            rename Fr g' _ _ _ => F10
            rename News g' _ _ _ => N11
            refine tend_0 F10 N11 off9 (fun p hp => by rw [List.mem_singleton.mp hp]; exact .tail _ hm8) ⟨_, _, fmH1 rfl, rfl, ?_⟩
            have hk8 : k < cs8.2.length := by rw [← hi8.length]; exact hk
            have e9 : cs8.2.getD k 0 = cs8.2[k] := getD_get hk8
            rw [List.take_add_one, List.getElem?_eq_getElem hk8]
            simp only [Option.toList, List.foldl_append, List.foldl_cons, List.foldl_nil, bump, ← e9]
            assumption
          case done2 =>
            rintro m₂ nx3 h9 tk9 hJ24
            refine el2_3 hJ24 ?_
            clear hJ24
            rintro o3 u3 rfl rfl hd3 hS9 F9 N10
            have e8 : us8.length = cs8.2.length := hi8.length
            rw [e8, List.take_length] at hd3
            clear F8 N9
            (try k_fold)
            repeat' (first | (k_unfold; (try dsimp only)) | (k_end; wrow_close) | walk1 | (dsimp only; walk1) | (leave1; walk_say "STEP leave1"; try dsimp only) | fail "no step")
            refine ⟨_, _, _, (ds, o3) :: rest, rfl, F9, fun p hp => N10 p ?_, ?_, (fun p hp => by rw [List.mem_singleton.mp hp]; exact .tail _ (by rw [hrest]; exact .head _)), ⟨o3, _, fmH1 rfl, rfl, ?_⟩⟩
            · revert hp p; walk_at "sub"
            · intro p hp
              rcases List.mem_cons.mp hp with rfl | hp
              · exact hI8d
              · exact off8 p (.tail _ hp)
            · rw [List.take_add_one, List.getElem?_eq_getElem hi, ← hcs8]
              simp only [Option.toList, tallyC, List.foldl_append, List.foldl_cons, List.foldl_nil]
              exact hd3
        case done =>
          rintro m₂ nx3 h9 tk9 hJ25
          refine el2_3 hJ25 ?_
          clear hJ25
          rintro o3 u3 rfl rfl hd3 F9 N10
          rw [hrl7, List.take_length] at hd3
          have hPk : (P'.map (·.2)).Nodup := by
            have h1 : ((usedP D).map (·.2)).Nodup := by
              have hk := hD.nodup
              rw [usedP, List.map_map]
              rw [List.nodup_iff_pairwise_ne, List.pairwise_map] at *
              exact (hk.filter _).imp fun {a b} h e => h (by simp only [Function.comp] at e; (first | lia | omega))
            exact (hP.map _).nodup_iff.mpr h1
          have hPm : ∀ p ∈ P', p.2 ≠ 1 ∧ 0 < p.1 := by
            intro p hp
            have hJ26 := List.mem_map.mp (hP.mem_iff.mp hp)
            refine el1_2 hJ26 ?_
            clear hJ26
            rintro q hq rfl
            have hJ27 := List.mem_filter.mp hq
            refine el0_2 hJ27 ?_
            clear hJ27
            rintro hq1 hq2
            have := hD0 q hq1
            simp only [decide_eq_true_eq] at hq2
            exact ⟨by show -q.1 ≠ 1; (first | lia | omega), hq2⟩
          have hJ28 := best_pure (P := P') (most := most) hPk (fun p hp => (hPm p hp).1) hPs (fun p hp => (hPm p hp).2) hPe hm1 hfitP
          refine el1_2 hJ28 ?_
          clear hJ28
          rintro c hJ29
          refine el1_1 hJ29 ?_
          clear hJ29
          rintro v9 hv9 -
          have htl9 : (tallyC (rowE most P')).length ≤ 96 := by
            refine Nat.le_trans (tally_len _) (Nat.le_trans (flat_len (k := 8) hwide) ?_)
            (first | lia | omega)
          clear N8 F7
          (try k_fold)
          repeat' (first | (k_unfold; (try dsimp only)) | (k_end; wrow_close) | walk1 | (dsimp only; walk1) | (leave1; walk_say "STEP leave1"; try dsimp only) | fail "no step")
          rename Fr h₀ L _ m => kF9
          rename News h₀ L _ _ => kN9
          have hSz : sizesC most P' = ddel (tallyC (rowE most P')) (-1) := sizesC_ne hPe
          have hgn : Grown news nx := (hr0.grown.trans hg6).trans hg
          refine hret _ _ _ _ kF9 kN9 ⟨P', hP, hPs, ?_, ds, _, rfl, .head _, lods, by rw [hSz]; assumption, .inr hfitP⟩
          rw [hrest]
          exact (hgn.cons fun q hq => l7 q (.tail _ (hgn.sub q hq))).cons fun q hq => lds q (hgn.sub q hq)
end --T_Best

section --T_LawTold
open PySem PySem.W PyProof.Rows PySem.Spec PySem.Calls
/-- a def that catches, called by a frame with nothing beneath -/
noncomputable def TelT (w : World) (f : Addr) (k : Nat) (args : List Value) (news : Led) (Post : Value → Led → Prop) : Prop :=
  ∀ (mean : ExcName → Option Value) (mg mb : Str → Option Value) (dp un : Nat) (gd : Option (List Code)) (cn : Str) (cs : Scope) (a : Addr) (ccd : Value) (cl : List (Str × Addr)) (A₀ : Around) (base h₀ : Heap) (L : Addr) (m : Str → Option Value) (s : Shared)
    (Q E : Value → Shared → Prop),
    Below A₀ base [] h₀ → Fr h₀ L s.heap m → (hdK w.params).In h₀ → News h₀ L s.heap news → Top hdV (looseW hdV []) mean mg mb h₀ → (hdK w.params).In base → Top hdV (looseW hdV []) mean mg mb base → cs.kind = .function → dp + k < recursionLimit → un + 8 * k < cLine →
    (∀ r news' h' tk', Fr h₀ L h' m → News h₀ L h' news' → Post r news' → Q r { s with heap := h', toks := tk' }) →
    wpAny (model PySem.Challenge.rw_ok0135_01.row.prog w) (ktrTop dp un gd cn cs L a ccd cl []) (call (.ref f) args) Q E s
theorem telE_use {w : World} {f : Addr} {k : Nat} {args : List Value} {news : Led} {Post : Value → Led → Prop} {PE : Prop} (C : TelE w f k args news Post PE)
    {mean : ExcName → Option Value} {mg mb : Str → Option Value} {dp un : Nat} {gd : Option (List Code)} {cn : Str} {cs : Scope} {a : Addr} {ccd : Value} {cl : List (Str × Addr)} {outer : List Env} {A₀ : Around} {base h₀ : Heap} {L : Addr} {m : Str → Option Value} {s : Shared} {Q E : Value → Shared → Prop}
    (B : Below A₀ base outer h₀) (F : Fr h₀ L s.heap m) (X : (hdK w.params).In h₀) (N : News h₀ L s.heap news) (T : Top hdV (looseW hdV []) mean mg mb h₀) (hk : cs.kind = .function) (hd : dp + k < recursionLimit) (hu : un + 8 * k < cLine)
    (ret : ∀ r news' h' tk', Fr h₀ L h' m → News h₀ L h' news' → Post r news' → Q r { s with heap := h', toks := tk' })
    (exc : ∀ G e t vs h' tk', PE → Fr h₀ L G m → RaisedS base G (envX cn cs L a ccd cl :: outer) e (.ref 44) t vs news h' → G.UpToSlots h' → E (.ref e) { s with heap := h', toks := tk' }) :
    wpAny (model PySem.Challenge.rw_ok0135_01.row.prog w) (ktrTop dp un gd cn cs L a ccd cl outer) (call (.ref f) args) Q E s :=
  C mean mg mb dp un gd cn cs a ccd cl outer A₀ base h₀ L m s Q E B F X N T hk hd hu ret exc
section
variable {prog : Program} {w : World} {A₀ A : Around} {s : Shared} {base h₀ : Heap} {L : Addr} {m : Str → Option Value} {env : Env} {news : Led} {K : Frag} {p : Program} {loose : List Str} {mean : ExcName → Option Value} {mg mb : Str → Option Value}
    {R : Result → Shared → Prop} {name qual : Str} {params : Arguments} {body : List Stmt} {scope : Scope} {dV kV doc pm cdv ct oc : Value} {an od : Option Addr} {osl : Array (Option Value)} {f : Addr} {args : Args} {binds : List (Str × Value)}
theorem tried_def (B : Below A₀ base [] h₀) (F : Fr h₀ L s.heap m) (X₀ : K.In h₀) (N : News h₀ L s.heap news) (T : Top p loose mean mg mb h₀) (hA : A.frames = some [env]) (hf : env.frame = some L) (hke : env.scope.kind = .function)
    (ho : K.lookup f = some ⟨oc, od, .func (fnOf name qual params body scope dV kV doc pm an cdv ct), osl⟩) (hcd : codeIn K cdv qual = true) (hroom : A.depth < recursionLimit)
    (hbind : BindsTo s (fnOf name qual params body scope dV kV doc pm an cdv ct) args binds) (hloc : ∀ y ∈ binds, scope.names.lookup y.1 = some .local)
    (h : ∀ g L' h₁, Fr h₀ L g m → Fr g L' h₁ (fun y => binds.reverse.lookup y) → News g L' h₁ news → Below A base [env] g → K.In g → Top p loose mean mg mb g → KtsDicts ([env].filterMap (·.frame)) g →
      wpAny (model prog w) (A.deeper (envOf qual scope L' f cdv)) (execs body (envOf qual scope L' f cdv))
        (fun fl s' => LeaveS0 ([env].filterMap (·.frame)) h₀ L m g R (match fl with | .ret v => v | _ => .none) s')
        (fun e s' => wpAny (model prog w) (A.deeper (envOf qual scope L' f cdv)) (leaving (envOf qual scope L' f cdv) e) (fun _ s'' => R (.error e) s'') (fun e' s'' => R (.error e') s'') s')
        { s with heap := h₁, toks := s.toks + binds.length })
    (hco : scope.isCoroutine = false) (hgen : scope.isGenerator = false) (hk : scope.kind = .function) (hcell : ∀ x ∈ scope.names, x.2 ≠ .cell) : codeAny (model prog w) A (.call (.ref f) args) R s := by
  have X := X₀.keeps F.keep
  have hJ145 := groundX (R := R) B F N hA hf hke
  refine el0_4 hJ145 ?_
  clear hJ145
  rintro FG BG st _
  have hfs : ∀ b, b ∈ [env].filterMap (·.frame) → b = L := fun b hb => by
    have hJ146 := List.mem_filterMap.mp hb
    refine el1_2 hJ146 ?_
    clear hJ146
    rintro e' he hb
    rw [List.mem_singleton.mp he, hf] at hb
    exact (Option.some.inj hb).symm
  have hJ147 := FG.ns
  refine el3_4 hJ147 ?_
  clear hJ147
  rintro oL es ep hL hLd hLk hLf
  refine codeAny_call_def (fd := fnOf name qual params body scope dV kV doc pm an cdv ct) (body := body) (binds := binds) hroom (X _ _ ho) rfl (T.nolimit.keeps F.keep) (codeRec_of X hcd) rfl hbind hcell hloc (fun h₁ hns hk₁ => ?_) hco hgen hk
  refine wpAny_mono (h _ s.heap.objs.size h₁ FG ⟨hns, fun b o e => hk₁ b o (of_hideAll _ e), Nat.le_of_eq (hideAll_size _ _)⟩
    (fun p hp => ⟨hk₁ _ _ (N p hp).1, Nat.ne_of_lt (Heap.lt_size (N p hp).1), hideAll_none _ (List.mem_map_of_mem hp)⟩) BG (X₀.keeps st) (T.keeps st) (fun b hb => by rw [hfs b hb]; exact ⟨oL, es, ep, hL, hLd⟩)) (fun fl s' hl => ?_) fun _ _ y => y
  have hJ148 := hl
  refine el4_4 hJ148 ?_
  clear hJ148
  try clear hl
  rintro g' L' m' news' T' F' N' k
  have hJ149 := T'.up hL
  refine el1_1 hJ149 ?_
  clear hJ149
  rintro sl hs
  refine k ⟨⟨_, es, ep, F'.keep _ _ hs, hLd, hLk, hLf⟩, fun b o e => F'.keep b o (T'.other b o (st b o e) fun q => by rw [hfs b q, kts_self F] at e; cases e), F.above⟩ fun p hp => ⟨(N' p hp).1, fun q => ?_, ?_⟩
  · have := (N' p hp).2.2; rw [q, hs] at this; cases this
  · cases q : h₀.get? p.1 with
    | none => rfl
    | some o =>
      have hJ150 := T'.up (st _ _ q)
      refine el1_1 hJ150 ?_
      clear hJ150
      rintro sl' hs'
      have := (N' p hp).2.2
      rw [hs'] at this; cases this
end
set_option maxRecDepth 100000 in
set_option maxHeartbeats 1000000 in
theorem law_told_tel (w : World) {a1 : Addr} {D : List (Int × Int)} {news : Led} {o : Obj} {most : Nat} {t : Tok} (ha : (a1, o) ∈ news) (hD : DictI PySem.Challenge.rw_ok0135_01.row.prog w o D) (lo : (a1 == sysModules) = false) (ok1 : D.length ≤ 5) (hD0 : ∀ p ∈ D, 0 ≤ p.1) (hm1 : 1 ≤ most) (hm4 : most ≤ 4) :
    TelT w 174 14 [.ref a1, .int (most : Int) t] news (fun r news' => Grown news news' ∧ ((r = .none ∧ usedP D ≠ [] ∧ 2 ^ most < (usedP D).length + 1) ∨
      ∃ P' : List Pr, P'.Perm (usedP D) ∧ P'.Pairwise (fun a b => lt2 a b = true) ∧ (∃ A o', r = .ref A ∧ (A, o') ∈ news' ∧ (A == sysModules) = false ∧ DictI PySem.Challenge.rw_ok0135_01.row.prog w o' (sizesC most P')) ∧ (P' = [] ∨ P'.length + 1 ≤ 2 ^ most))) := by
  w_top off
  unfold TelT
  k_fill
  intro mean mg mb dp un gd cn cs a ccd cl A₀ base h₀ L m s Q E B F X N T XB TB hk hd hu hret
  refine wpAny_call ?_
  k_dflt (refine' tried_def ?k1 ?k2 ?k3 ?k4 ?k5 ?kA ?kF ?kK ?k6 ?k7 ?k8 ?k9 ?kB ?_ ?c2 ?c3 ?c4 ?c5; (case kA => exact rfl); (case kF => exact rfl); (case kK => assumption); (case k1 => k_asm); (case k2 => k_asm); (case k3 => k_asm); (case k4 => k_asm); (case k5 => k_asm); (case k6 => k_is); (case k7 => k_is); (case k8 => ktr_room); (case k9 => exact BindsTo.of_eq rfl); (case c5 => decide); (case kB => exact locs rfl); (case c2 => exact rfl); (case c3 => exact rfl); (case c4 => exact rfl); k_whole; intro g' L' h' FG' F' N' B' X' T' D'; (try dsimp only); (try k_fold))
  rename Fr _ _ _ _ => F1
  have F2 : Fr _ _ _ (fun y => List.lookup y [(Str.ofString "most", .int (most : Int) t), (Str.ofString "frequencies", Value.ref a1)]) := F1
  clear F1
  (try k_fold)
  repeat' (first | (k_unfold; (try dsimp only)) | (k_end; wrow_close) | (exact hret _ _ ⟨_, _, _, rfl, rfl, by assumption⟩) | walk1 | (dsimp only; walk1) | (leave1; walk_say "STEP leave1"; try dsimp only) | fail "no step")
  with_unfolding_all refine' telE_use (best_tel w ha hD lo ok1 hD0 hm1 hm4) B' F2 X' N' T' rfl ?hd ?hu ?ret ?exc
  case hd => first | exact room2 hd (by decide) | ktr_room
  case hu => first | exact room2 hu (by decide) | (show un + 3 + _ < _; exact room2 hu (by decide)) | (simp only [units_deeper]; (first | lia | omega))
  case ret =>
    rintro r0 news0 h4 tk4 F3 N3 hJ151
    refine el1_4 hJ151 ?_
    clear hJ151
    rintro P' hP hPs hg hJ152
    refine el2_5 hJ152 ?_
    clear hJ152
    rintro A o' rfl hA lA hS hf
    clear F2 N'
    (try k_fold)
    repeat' (first | (k_unfold; (try dsimp only)) | (k_end; wrow_close) | (exact hret _ _ ⟨_, _, _, rfl, rfl, by assumption⟩) | walk1 | (dsimp only; walk1) | (leave1; walk_say "STEP leave1"; try dsimp only) | fail "no step")
    rename Fr h₀ L _ m => kF9
    rename News h₀ L _ _ => kN9
    exact hret _ _ _ _ kF9 kN9 ⟨hg, .inr ⟨P', hP, hPs, ⟨A, o', rfl, hA, lA, hS⟩, hf⟩⟩
  case exc =>
    intro G e9 t9 vs9 h9 tk9 hPE F9 R9 U9
    (try k_unfold)
    (try dsimp only)
    with_unfolding_all refine' caught_SO0 R9 F9 B' U9 XB TB D' KtsTurn.refl ?ex ?q ?_
    case ex => k_is
    case q => kts_isx
    intro h2 g2 n2 T2 F3 N2 G2 N3 K2 X2 P2 D2
    clear F2 N' F9 R9 U9 N2 G2 X' T' D'
    (try k_fold)
    repeat' (first | (k_unfold; (try dsimp only)) | (k_end; wrow_close) | (exact hret _ _ ⟨_, _, _, rfl, rfl, by assumption⟩) | walk1 | (dsimp only; walk1) | (leave1; walk_say "STEP leave1"; try dsimp only) | fail "no step")
    rename Fr h₀ L _ m => kF9
    rename News h₀ L _ _ => kN9
    exact hret _ _ _ _ kF9 kN9 ⟨.refl _, .inl ⟨rfl, hPE⟩⟩
end --T_LawTold

section --T_Right
open PySem PySem.W PyProof.Rows PySem.Spec PySem.Calls
theorem datIn_cell {news news' : Led} (hs : ∀ p ∈ news, (∀ v, p.2.data ≠ .cell v) → p ∈ news') {v : Value} {d : Dat} (h : DatIn news v d) : DatIn news' v d :=
  datIn_ok (Ok := fun o => ∀ v, o.data ≠ .cell v) (fun _ _ _ e => nomatch e) (fun _ _ _ e => nomatch e) hs h
noncomputable def pT (c : Coin) : Bool := decide (c.2.getD 0 0 < 10)
theorem coinsC_mem {first : Int} {ws : List Int} {c : Coin} (h : c ∈ coinsC first ws) : ∃ k : Nat, k < ws.length ∧ c = (ws.getD k 0, [first + (k : Int)]) := by
  have hJ53 := List.mem_map.mp h
  refine el1_2 hJ53 ?_
  clear hJ53
  rintro k hk e
  exact ⟨k, List.mem_range.mp hk, e.symm⟩
theorem both_one {ws1 ws2 : List Int} {c : Coin} (h : c ∈ mergeC (coinsC 0 ws1) (coinsC 10 ws2)) : c.2.length = 1 := by
  rcases mem_merge.mp h with h | h <;> obtain ⟨k, _, rfl⟩ := coinsC_mem h <;> rfl
theorem one_pT {ws : List Int} (h : ws.length ≤ 4) : ∀ c ∈ coinsC 0 ws, pT c = true := by
  intro c hc
  have hJ54 := coinsC_mem hc
  refine el1_2 hJ54 ?_
  clear hJ54
  rintro k hk rfl
  simp [pT]; (first | lia | omega)
theorem two_pT {ws : List Int} : ∀ c ∈ coinsC 10 ws, pT c = false := by
  intro c hc
  have hJ55 := coinsC_mem hc
  refine el1_2 hJ55 ?_
  clear hJ55
  rintro k hk rfl
  simp [pT]; (first | lia | omega)
theorem filter_step {p : Coin → Bool} {l : List Coin} {i : Nat} (h : i < l.length) : (l.take (i + 1)).filter p = (l.take i).filter p ++ (if p (l[i]'h) = true then [l[i]'h] else []) := by
  rw [List.take_add_one, List.getElem?_eq_getElem h, Option.toList, List.filter_append]
  congr 1
  cases e : p (l[i]'h) <;> simp [e]
theorem coinsC_asc {first : Int} {ws : List Int} (h : ws.Pairwise (· ≤ ·)) : (coinsC first ws).Pairwise fun a b => a.1 ≤ b.1 := by
  rw [List.pairwise_iff_getElem] at *
  intro i j hi hj hij
  have hi' : i < ws.length := by simpa [coinsC] using hi
  have hj' : j < ws.length := by simpa [coinsC] using hj
  have := h i j hi' hj' hij
  simpa [coinsC, List.getD, hi', hj'] using this
theorem right_at {both : List Coin} (h : both.Pairwise (RightOf pT)) {i : Nat} (hi : i + 1 < both.length) :
    (both[i]'(by (first | lia | omega))).1 ≤ (both[i + 1]'hi).1 ∧ ((both[i]'(by (first | lia | omega))).1 = (both[i + 1]'hi).1 → ¬ (10 ≤ (both[i]'(by (first | lia | omega))).2.getD 0 0 ∧ (both[i + 1]'hi).2.getD 0 0 < 10)) := by
  have hJ56 := (List.pairwise_iff_getElem.mp h) i (i + 1) (by (first | lia | omega)) hi (Nat.lt_succ_self _)
  refine el0_2 hJ56 ?_
  clear hJ56
  rintro r1 r2
  refine ⟨r1, fun e ⟨k1, k2⟩ => r2 ⟨e, ?_, ?_⟩⟩
  · simp only [pT, decide_eq_false_iff_not]; (first | lia | omega)
  · simp only [pT, decide_eq_true_eq]; exact k2
local macro_rules | `(tactic| walk_at "subscriptTail") => `(tactic| (k_here; (with_reducible show wpAny _ _ (subscriptTail _ _ (Value.ref _) (Value.int _ _)) _ _ _); k_dflt (refine' lst_item ?k1 ?k2 ?k3 ?k4 ?k5 ?_ ?k7; (case k1 => k_asm); (case k2 => k_mem); (case k5 => assumption); (case k3 => (first | lia | omega)); (case k4 => (first | lia | omega)); (case k7 => with_unfolding_all rfl); k_whole)))
set_option maxRecDepth 100000 in
set_option maxHeartbeats 8000000 in
theorem right_tel (w : World) {src : Addr} {x y : Int} {t u : Tok} {n : Nat} {rest : Led} (h1 : 0 ≤ x) (h2 : 0 ≤ y) (h3 : y < 2147483647) (h6 : ∀ p ∈ rest, p.1 ≠ src) :
    Tel w 167 12 [.ref src] ((src, listOf #[.int x t, .int y u] n) :: rest) (fun r news' => r = .bool true ∧ ∀ p ∈ rest, p ∈ news') := by
  w_top off
  unfold Tel
  k_fill
  intro mean mg mb dp un gd cn cs a ccd cl outer A₀ base h₀ L m s Q E B F X N T hk hd hu hret
  refine wpAny_call ?_
  k_dflt (refine' code_defC ?k1 ?k2 ?k3 ?k4 ?k5 ?kA ?kF ?kK ?k6 ?k7 ?k8 ?k9 ?kB ?kD ?_ ?c2 ?c3 ?c4; (case kA => exact rfl); (case kF => exact rfl); (case kK => assumption); (case k1 => k_asm); (case k2 => k_asm); (case k3 => k_asm); (case k4 => k_asm); (case k5 => k_asm); (case k6 => k_is); (case k7 => k_is); (case k8 => ktr_room); (case k9 => exact BindsTo.of_eq rfl); (case kB => exact rfl); (case kD => decide +kernel); (case c2 => exact rfl); (case c3 => exact rfl); (case c4 => exact rfl); k_whole; intro g' L' h' tk' cells' FG' F' N' Y' B' X' T' l1; (try k_lt l1); k_cells Y'; (try simp only [List.cons_append, List.nil_append] at N'); (try dsimp only); (try k_fold))
  rename Fr _ _ _ _ => F1
  have F2 : Fr _ _ _ (fun y => if y = Str.ofString "source" then some (Value.ref src) else none) := F1
  clear F1
  rename News g' L' _ _ => N1
  rename_i ob db
  have hcb : ob.data = .cell none := db
  clear db
  have hsL : @LT.lt Nat _ src L' := l1.1
  have hrL : ∀ p ∈ rest, p.1 < L' := tb_ltOf l1.2
  have hsb : ∀ p ∈ ((L' + 1, ob) :: rest), p.1 ≠ src := List.forall_mem_cons.mpr ⟨(show @Ne Nat (L' + 1) src by (first | lia | omega)), h6⟩
  have N2 : News g' L' h' ((src, listOf #[.int x t, .int y u] n) :: (L' + 1, ob) :: rest) := fun p hp => N1 p (by
    revert hp p; walk_at "sub")
  clear N1
  (try k_fold)
  repeat' (first | (k_unfold; (try dsimp only)) | (k_end; wrow_close) | (fail_if_success (with_reducible show wpAny _ _ (exec (Stmt.For _ _ _ _ _) _) _ _ _)); first | walk1 | (dsimp only; walk1) | (leave1; walk_say "STEP leave1"; try dsimp only) | fail "no step")
  with_unfolding_all refine' tel_use (coins_tel w h1 h2 h3 hsb (by decide)) B' F2 X' N2 T' rfl ?hd ?hu ?_
  case hd => first | exact room2 hd (by decide) | ktr_room
  case hu => first | exact room2 hu (by decide) | (show un + 3 + _ < _; exact room2 hu (by decide)) | (simp only [units_deeper]; (first | lia | omega))
  rintro r1 news1 h4 tk4 F3 N3 hJ57
  refine el2_7 hJ57 ?_
  clear hJ57
  rintro ws1 rest1 hJ58
  refine el5_4 hJ58 ?_
  clear hJ58
  rintro x1 y1 t1 u1 n1 rfl j1 j2 j3 hg1 hs1 hd1 hw1 hb1 hl1
  clear F2 N2
  (try k_fold)
  repeat' (first | (k_unfold; (try dsimp only)) | (k_end; wrow_close) | (fail_if_success (with_reducible show wpAny _ _ (exec (Stmt.For _ _ _ _ _) _) _ _ _)); first | walk1 | (dsimp only; walk1) | (leave1; walk_say "STEP leave1"; try dsimp only) | fail "no step")
  with_unfolding_all refine' tel_use (coins_tel w j1 j2 j3 hs1 (by decide)) B' F3 X' N3 T' rfl ?hd ?hu ?_
  case hd => first | exact room2 hd (by decide) | ktr_room
  case hu => first | exact room2 hu (by decide) | (show un + 3 + _ < _; exact room2 hu (by decide)) | (simp only [units_deeper]; (first | lia | omega))
  rintro r2 news2 h5 tk5 F4 N4 hJ59
  refine el2_7 hJ59 ?_
  clear hJ59
  rintro ws2 rest2 hJ60
  refine el5_4 hJ60 ?_
  clear hJ60
  rintro x2 y2 t2 u2 n2 rfl k1 k2 k3 hg2 hs2 hd2 hw2 hb2 hl2
  clear F3 N3
  have hJ61 := datRef hd1
  refine el1_1 hJ61 ?_
  clear hJ61
  rintro p1 hp1
  have hJ62 := datRef hd2
  refine el1_1 hJ62 ?_
  clear hJ62
  rintro p2 hp2
  subst hp1 hp2
  (try k_fold)
  repeat' (first | (k_unfold; (try dsimp only)) | (k_end; wrow_close) | (fail_if_success (with_reducible show wpAny _ _ (exec (Stmt.For _ _ _ _ _) _) _ _ _)); first | walk1 | (dsimp only; walk1) | (leave1; walk_say "STEP leave1"; try dsimp only) | fail "no step")
  rename Fr g' L' _ _ => F5
  rename News g' L' _ _ => N5
  rename_i Dt hx1 lDt hx2 hx3 hx4
  (try show wpAny _ _ _ _ _ { heap := _, gens := Shared.gens s, drawn := Shared.drawn s, toks := _, os := Shared.os s })
  (try k_fold)
  have hJ63 := hg1.trans hg2
  refine el1_2 hJ63 ?_
  clear hJ63
  rintro tlA eA hnA
  have hcm : (L' + 1, ob) ∈ rest2 := by rw [eA]; exact List.mem_append_right _ (.head _)
  have hJ64 : ∃ l, l = tlA ++ rest := ⟨_, rfl⟩
  refine el1_1 hJ64 ?_
  clear hJ64
  rintro rs hrs
  have hsub2 : ∀ p ∈ rest2, (∀ v, p.2.data ≠ .cell v) → p ∈ rs := by
    intro p hp hc
    rw [eA] at hp
    rw [hrs]
    rcases List.mem_append.mp hp with hp | hp
    · exact List.mem_append_left _ hp
    · rcases List.mem_cons.mp hp with rfl | hp
      · exact absurd hcb (hc _)
      · exact List.mem_append_right _ hp
  have hrs2 : ∀ p ∈ rs, p ∈ rest2 := by
    intro p hp
    rw [hrs] at hp
    rw [eA]
    rcases List.mem_append.mp hp with hp | hp
    · exact List.mem_append_left _ hp
    · exact List.mem_append_right _ (.tail _ hp)
  have hrsc : ∀ p ∈ rs, p.1 ≠ L' + 1 := by
    intro p hp
    rw [hrs] at hp
    rcases List.mem_append.mp hp with hp | hp
    · exact Ne.symm (hnA p hp (L' + 1, ob) (.head _))
    · exact Nat.ne_of_lt (Nat.lt_trans (hrL p hp) (Nat.lt_succ_self _))
  have e1 : DatIn rs (.ref p1) (csD (coinsC 0 ws1)) := datIn_cell hsub2 (DatIn.mono hg2.sub hd1)
  have e2 : DatIn rs (.ref p2) (csD (coinsC 10 ws2)) := datIn_cell hsub2 hd2
  have hDc : @LT.lt Nat _ (L' + 1) Dt := tb_ltOf lDt.2 _ hcm
  have N6 : News g' L' _ ((L' + 1, ob) :: (Dt, tupL [.ref p1, .ref p2] 0) :: (src, listOf #[.int x2 t2, .int y2 u2] n2) :: rs) := fun p hp => N5 p (by
    simp only [List.mem_cons] at hp ⊢
    rcases hp with rfl | hp | hp | hp
    · simp [hcm]
    · simp [hp]
    · simp [hp]
    · simp [hrs2 p hp])
  clear N5
  have c1l : (coinsC 0 ws1).length ≤ 4 := by simpa [coinsC] using hl1
  have c2l : (coinsC 10 ws2).length ≤ 4 := by simpa [coinsC] using hl2
  with_unfolding_all refine' tel_use (merged_telS w (sub := rs) e1 e2 (fun p hp => .tail _ (.tail _ (.tail _ hp))) (by (first | lia | omega)) (by (first | lia | omega))) B' F5 X' N6 T' rfl ?hd ?hu ?_
  case hd => first | exact room2 hd (by decide) | ktr_room
  case hu => first | exact room2 hu (by decide) | (show un + 3 + _ < _; exact room2 hu (by decide)) | (simp only [units_deeper]; (first | lia | omega))
  rintro r3 news3 h6 tk6 F6 N7 hJ65
  refine el1_3 hJ65 ?_
  clear hJ65
  rintro tl3 rfl hne3 hd3
  clear F5 N6
  have hJ66 := datRef hd3
  refine el1_1 hJ66 ?_
  clear hJ66
  rintro p3 hp3
  subst hp3
  have hJ67 : ∃ b : Led, b = (Dt, tupL [.ref p1, .ref p2] 0) :: (src, listOf #[.int x2 t2, .int y2 u2] n2) :: (tl3 ++ rs) := ⟨_, rfl⟩
  refine el1_1 hJ67 ?_
  clear hJ67
  rintro base hbase
  have hbc : ∀ p ∈ base, p.1 ≠ L' + 1 := by
    rw [hbase]
    refine List.forall_mem_cons.mpr ⟨Nat.ne_of_gt hDc, List.forall_mem_cons.mpr ⟨(show @Ne Nat src (L' + 1) by (first | lia | omega)), fun p hp => ?_⟩⟩
    rcases List.mem_append.mp hp with hp | hp
    · exact Ne.symm (hne3 p hp (L' + 1, ob) (.head _))
    · exact hrsc p hp
  have N8 : News g' L' h6 ((L' + 1, ob) :: base) := fun p hp => N7 p (by
    revert hp p; walk_at "sub")
  have hb3 : ∀ p ∈ tl3 ++ rs, p ∈ base := fun p hp => by rw [hbase]; exact .tail _ (.tail _ hp)
  clear N7
  (try k_fold)
  repeat' (first | (k_unfold; (try dsimp only)) | (k_end; wrow_close) | (fail_if_success (with_reducible show wpAny _ _ (exec (Stmt.For _ _ _ _ _) _) _ _ _)); first | walk1 | (dsimp only; walk1) | (leave1; walk_say "STEP leave1"; try dsimp only) | fail "no step")
  rename Fr g' L' _ _ => F9
  rename News g' L' _ _ => N9
  rename_i hz ob2 db2
  (try show wpAny _ _ _ _ _ { heap := _, gens := Shared.gens s, drawn := Shared.drawn s, toks := _, os := Shared.os s })
  (try k_fold)
  have hJ68 : ∃ b, b = mergeC (coinsC 0 ws1) (coinsC 10 ws2) := ⟨_, rfl⟩
  refine el1_1 hJ68 ?_
  clear hJ68
  rintro both hboth
  rw [← hboth] at hd3
  have hb1' : ∀ c ∈ both, c.2.length = 1 := fun c hc => both_one (by rw [← hboth]; exact hc)
  have hbl : both.length ≤ 8 := by rw [hboth, mergeC_length]; (first | lia | omega)
  have hJ69 := datList hd3
  refine el2_2 hJ69 ?_
  clear hJ69
  rintro v3 n3 hm3 hd3l
  have hv3l := hd3l.length
  rw [List.length_map] at hv3l
  refine srcT_list rfl F9 N9 (.tail _ (hb3 _ hm3)) (by (first | lia | omega)) (fun i ys nw => nw = (L' + 1, ob2) :: base ∧ DatAll (tl3 ++ rs) ys (((both.take i).filter pT).map cD)) ⟨rfl, .nil⟩ ?turn ?fin
  case turn =>
    rintro i3 ys nw v I3 oI3 C3 oC3 D3 m3 h3 tk3 E3 hi3 hJ70
    refine el0_2 hJ70 ?_
    clear hJ70
    rintro rfl h8 hv3 hC3 hx3 F11 N11 off3 ne3 hS3
    have hi3' : i3 < both.length := by (first | lia | omega)
    obtain ⟨v', hv', hdv⟩ := hd3l.get (k := i3) (by rw [List.length_map]; exact hi3')
    rw [hv3] at hv'
    obtain rfl := Option.some.inj hv'
    rw [List.getElem_map] at hdv
    have hdv0 := hdv
    have hJ71 := cD_inv hdv
    refine el4_3 hJ71 ?_
    clear hJ71
    rintro ta tt tb tn rfl hta htb
    have hJ72 := datInts htb
    refine el2_2 hJ72 ?_
    clear hJ72
    rintro us8 n8 hm8 hi8
    have hta2 : _ ∈ (L' + 1, ob2) :: base := .tail _ (hb3 _ hta)
    have hm82 : _ ∈ (L' + 1, ob2) :: base := .tail _ (hb3 _ hm8)
    have hc1 := hb1' _ (List.getElem_mem hi3')
    clear F9 N9
    (try k_fold)
    repeat' (first | (k_unfold; (try dsimp only)) | (k_end; wrow_close) | walk1 | (dsimp only; walk1) | (leave1; walk_say "STEP leave1"; try dsimp only) | fail "no step")
    · rename Fr g' _ _ _ => F12
      rename News g' _ _ _ => N12
      have hq : pT (both[i3]'hi3') = true := by simp only [pT, decide_eq_true_eq]; assumption
      refine cend_0 F12 N12 off3 hS3 ⟨rfl, ?_⟩
      rw [filter_step hi3', if_pos hq, List.map_append]
      exact h8.append (.one hdv0)
    · rename Fr g' _ _ _ => F12
      rename News g' _ _ _ => N12
      have hq : ¬ pT (both[i3]'hi3') = true := by simp only [pT, decide_eq_true_eq]; assumption
      refine cend_0 F12 N12 off3 hS3 ⟨rfl, ?_⟩
      rw [filter_step hi3', if_neg hq, List.append_nil]
      exact h8
  case fin =>
    rintro g5 ys nw hJ73
    refine el0_2 hJ73 ?_
    clear hJ73
    rintro rfl h8 hS
    rw [List.take_of_length_le (by (first | lia | omega))] at h8
    have hf1 : both.filter pT = coinsC 0 ws1 := by rw [hboth]; exact mergeC_filter1 (one_pT hl1) two_pT
    rw [hf1] at h8
    have hJ74 := datList e1
    refine el2_2 hJ74 ?_
    clear hJ74
    rintro v1 n1' hm1 hd1l
    have hJ75 := datList e2
    refine el2_2 hJ75 ?_
    clear hJ75
    rintro v2 n2' hm2 hd2l
    unfold LCg.FinE
    intro D9 h9 tk9 F11 N11 o1
    clear F9 N9
    (try k_fold)
    repeat' (first | (k_unfold; (try dsimp only)) | (k_end; wrow_close) | (fail_if_success (with_reducible show wpAny _ _ (exec (Stmt.For _ _ _ _ _) _) _ _ _)); (fail_if_success (with_reducible show wpAny _ _ (compareOp _ (Value.ref _) (Value.ref _)) _ _ _)); (fail_if_success (with_reducible show wpAny _ _ (call (Value.ref _) _) _ _ _)); first | walk1 | (dsimp only; walk1) | (leave1; walk_say "STEP leave1"; try dsimp only) | fail "no step")
    rename News g' _ _ _ => N12
    have hb4 : ∀ p ∈ tl3 ++ rs, p ∈ (D9, LCg.lst ys) :: (L' + 1, ob2) :: base := fun p hp => .tail _ (.tail _ (hb3 p hp))
    have hb5 : ∀ p ∈ rs, p ∈ (D9, LCg.lst ys) :: (L' + 1, ob2) :: base := fun p hp => hb4 p (List.mem_append_right _ hp)
    with_unfolding_all refine' ne_dat (r := true) N12 (.head _) h8 hb4 (hb5 _ hm1) hd1l hb5 csD_ok csD_ok ?hu (by simp) ?_
    case hu => first | exact room2 hu (by decide) | (show un + 3 + _ < _; exact room2 hu (by decide)) | (simp only [units_deeper]; (first | lia | omega))
    (try k_unfold)
    (try dsimp only)
    (try k_fold)
    repeat' (first | (k_unfold; (try dsimp only)) | (k_end; wrow_close) | (fail_if_success (with_reducible show wpAny _ _ (exec (Stmt.For _ _ _ _ _) _) _ _ _)); (fail_if_success (with_reducible show wpAny _ _ (compareOp _ (Value.ref _) (Value.ref _)) _ _ _)); (fail_if_success (with_reducible show wpAny _ _ (call (Value.ref _) _) _ _ _)); first | walk1 | (dsimp only; walk1) | (leave1; walk_say "STEP leave1"; try dsimp only) | fail "no step")
    rename Fr g' L' _ _ => F13
    rename News g' L' _ _ => N13
    refine srcT_list rfl F13 N13 (hb4 _ hm3) (by (first | lia | omega)) (fun i ys2 nw => nw = (D9, LCg.lst ys) :: (L' + 1, ob2) :: base ∧ DatAll (tl3 ++ rs) ys2 (((both.take i).filter fun c => !pT c).map cD)) ⟨rfl, .nil⟩ ?turn2 ?fin2
    case turn2 =>
      rintro i3 ys2 nw v I3 oI3 C3 oC3 D3 m3 h3 tk3 E3 hi3 hJ76
      refine el0_2 hJ76 ?_
      clear hJ76
      rintro rfl h9 hv3 hC3 hx3 F14 N14 off3 ne3 hS3
      have hi3' : i3 < both.length := by (first | lia | omega)
      obtain ⟨v', hv', hdv⟩ := hd3l.get (k := i3) (by rw [List.length_map]; exact hi3')
      rw [hv3] at hv'
      obtain rfl := Option.some.inj hv'
      rw [List.getElem_map] at hdv
      have hdv0 := hdv
      have hJ77 := cD_inv hdv
      refine el4_3 hJ77 ?_
      clear hJ77
      rintro ta tt tb tn rfl hta htb
      have hJ78 := datInts htb
      refine el2_2 hJ78 ?_
      clear hJ78
      rintro us8 n8 hm8 hi8
      have hta2 := hb4 _ hta
      have hm82 := hb4 _ hm8
      have hc1 := hb1' _ (List.getElem_mem hi3')
      clear F13 N13
      (try k_fold)
      repeat' (first | (k_unfold; (try dsimp only)) | (k_end; wrow_close) | walk1 | (dsimp only; walk1) | (leave1; walk_say "STEP leave1"; try dsimp only) | fail "no step")
      · rename Fr g' _ _ _ => F15
        rename News g' _ _ _ => N15
        have hq : (!pT (both[i3]'hi3')) = true := by
          have h0 : 10 ≤ (both[i3]'hi3').2.getD 0 0 := by assumption
          simp only [pT, Bool.not_eq_true', decide_eq_false_iff_not]; (first | lia | omega)
        refine cend_0 F15 N15 off3 hS3 ⟨rfl, ?_⟩
        rw [filter_step hi3', if_pos hq, List.map_append]
        exact h9.append (.one hdv0)
      · rename Fr g' _ _ _ => F15
        rename News g' _ _ _ => N15
        have hq : ¬ (!pT (both[i3]'hi3')) = true := by
          have h0 : ¬ 10 ≤ (both[i3]'hi3').2.getD 0 0 := by assumption
          simp only [pT, Bool.not_eq_true', decide_eq_false_iff_not]; (first | lia | omega)
        refine cend_0 F15 N15 off3 hS3 ⟨rfl, ?_⟩
        rw [filter_step hi3', if_neg hq, List.append_nil]
        exact h9
    case fin2 =>
      rintro g6 ys2 nw hJ79
      refine el0_2 hJ79 ?_
      clear hJ79
      rintro rfl h9 hS2
      rw [List.take_of_length_le (by (first | lia | omega))] at h9
      have hf2 : both.filter (fun c => !pT c) = coinsC 10 ws2 := by
        rw [hboth]
        exact mergeC_filter2 (fun c hc => by rw [one_pT hl1 c hc]; rfl) (fun c hc => by rw [two_pT c hc]; rfl)
      rw [hf2] at h9
      unfold LCg.FinE
      intro D10 h10 tk10 F14 N14 o2
      clear F13 N13
      (try k_fold)
      repeat' (first | (k_unfold; (try dsimp only)) | (k_end; wrow_close) | (fail_if_success (with_reducible show wpAny _ _ (exec (Stmt.For _ _ _ _ _) _) _ _ _)); (fail_if_success (with_reducible show wpAny _ _ (compareOp _ (Value.ref _) (Value.ref _)) _ _ _)); (fail_if_success (with_reducible show wpAny _ _ (call (Value.ref _) _) _ _ _)); first | walk1 | (dsimp only; walk1) | (leave1; walk_say "STEP leave1"; try dsimp only) | fail "no step")
      rename News g' _ _ _ => N15
      have hb6 : ∀ p ∈ tl3 ++ rs, p ∈ (D10, LCg.lst ys2) :: (D9, LCg.lst ys) :: (L' + 1, ob2) :: base := fun p hp => .tail _ (hb4 p hp)
      have hb7 : ∀ p ∈ rs, p ∈ (D10, LCg.lst ys2) :: (D9, LCg.lst ys) :: (L' + 1, ob2) :: base := fun p hp => .tail _ (hb5 p hp)
      with_unfolding_all refine' ne_dat (r := true) N15 (.head _) h9 hb6 (hb7 _ hm2) hd2l hb7 csD_ok csD_ok ?hu (by simp) ?_
      case hu => first | exact room2 hu (by decide) | (show un + 3 + _ < _; exact room2 hu (by decide)) | (simp only [units_deeper]; (first | lia | omega))
      (try k_unfold)
      (try dsimp only)
      (try k_fold)
      repeat' (first | (k_unfold; (try dsimp only)) | (k_end; wrow_close) | (fail_if_success (with_reducible show wpAny _ _ (exec (Stmt.For _ _ _ _ _) _) _ _ _)); (fail_if_success (with_reducible show wpAny _ _ (compareOp _ (Value.ref _) (Value.ref _)) _ _ _)); (fail_if_success (with_reducible show wpAny _ _ (call (Value.ref _) _) _ _ _)); first | walk1 | (dsimp only; walk1) | (leave1; walk_say "STEP leave1"; try dsimp only) | fail "no step")
      have hm36 := hb6 _ hm3
      have hR : both.Pairwise (RightOf pT) := by rw [hboth]; exact mergeC_right (coinsC_asc hw1) (coinsC_asc hw2) (one_pT hl1) two_pT
      refine my_forS g' (by rfl) (by rfl) ?_
      (try k_fold)
      repeat' (first | (k_unfold; (try dsimp only)) | (k_end; wrow_close) | (fail_if_success (with_reducible show wpAny _ _ (exec (Stmt.For _ _ _ _ _) _) _ _ _)); (fail_if_success (with_reducible show wpAny _ _ (compareOp _ (Value.ref _) (Value.ref _)) _ _ _)); (fail_if_success (with_reducible show wpAny _ _ (call (Value.ref _) _) _ _ _)); first | walk1 | (dsimp only; walk1) | (leave1; walk_say "STEP leave1"; try dsimp only) | fail "no step")
      rename IsRange _ _ _ _ _ _ _ _ => rgX
      rename Fr g' _ _ _ => F16
      rename News g' _ _ _ => N16
      refine for_range (n := both.length - 1) rfl F16 N16 rgX (rgB (by (first | lia | omega))) rgB' (fun i m nx => nx = (D10, LCg.lst ys2) :: (D9, LCg.lst ys) :: (L' + 1, ob2) :: base) rfl ?turn3 ?done3
      case turn3 =>
        rintro i v m₁ nx h tk I oI' hi hJ80
        refine el1_1 hJ80 ?_
        clear hJ80
        rintro t9 rfl rfl hS3 off3 F17 N17
        have e3 : (0 : Int) + (i : Int) * 1 = (i : Int) := by (first | lia | omega)
        rw [e3] at F17
        have hJ81 := right_at hR (i := i) (by (first | lia | omega))
        refine el0_2 hJ81 ?_
        clear hJ81
        rintro q1 q2
        have hci := hb1' _ (List.getElem_mem (show i < both.length by (first | lia | omega)))
        have hcj := hb1' _ (List.getElem_mem (show i + 1 < both.length by (first | lia | omega)))
        obtain ⟨vi, hvi, hdi⟩ := hd3l.get (k := i) (by rw [List.length_map]; (first | lia | omega))
        obtain ⟨vj, hvj, hdj⟩ := hd3l.get (k := i + 1) (by rw [List.length_map]; (first | lia | omega))
        rw [List.getElem_map] at hdi hdj
        have hJ82 := cD_inv hdi
        refine el4_3 hJ82 ?_
        clear hJ82
        rintro tai tti tbi tni rfl htai htbi
        have hJ83 := cD_inv hdj
        refine el4_3 hJ83 ?_
        clear hJ83
        rintro taj ttj tbj tnj rfl htaj htbj
        have hJ84 := datInts htbi
        refine el2_2 hJ84 ?_
        clear hJ84
        rintro usi ni hmi hii
        have hJ85 := datInts htbj
        refine el2_2 hJ85 ?_
        clear hJ85
        rintro usj nj hmj hij
        have hvi' : v3[((i : Nat) : Int).toNat]? = some (.ref tai) := hvi
        have hvj' : v3[(((i : Nat) : Int) + 1).toNat]? = some (.ref taj) := hvj
        have z1 := hb6 _ htai
        have z2 := hb6 _ htaj
        have z3 := hb6 _ hmi
        have z4 := hb6 _ hmj
        clear F16 N16 hd3 hdi hdj htbi htbj hm3 hm1 hm2 hd1l hd2l h8 h9 e1 e2
        (try k_fold)
        repeat' (first | (k_unfold; (try dsimp only)) | (k_end; wrow_close) | (fail_if_success (with_reducible show wpAny _ _ (exec (Stmt.For _ _ _ _ _) _) _ _ _)); (fail_if_success (with_reducible show wpAny _ _ (compareOp _ (Value.ref _) (Value.ref _)) _ _ _)); (fail_if_success (with_reducible show wpAny _ _ (call (Value.ref _) _) _ _ _)); first | walk1 | (dsimp only; walk1) | (leave1; walk_say "STEP leave1"; try dsimp only) | fail "no step")
        all_goals first
          | exact absurd ⟨by assumption, by assumption⟩ (q2 (by assumption))
          | (rename Fr g' _ _ _ => F18
             rename News g' _ _ _ => N18
             exact ⟨_, _, _, (D10, LCg.lst ys2) :: (D9, LCg.lst ys) :: (L' + 1, ob2) :: base, rfl, F18, fun p hp => N18 p (.tail _ hp), off3, hS3, rfl⟩)
      case done3 =>
        rintro m₁ nx h tk rfl hS3 F19 N19
        clear F16 N16
        (try k_fold)
        repeat' (first | (k_unfold; (try dsimp only)) | (k_end; wrow_close) | (fail_if_success (with_reducible show wpAny _ _ (exec (Stmt.For _ _ _ _ _) _) _ _ _)); (fail_if_success (with_reducible show wpAny _ _ (compareOp _ (Value.ref _) (Value.ref _)) _ _ _)); (fail_if_success (with_reducible show wpAny _ _ (call (Value.ref _) _) _ _ _)); first | walk1 | (dsimp only; walk1) | (leave1; walk_say "STEP leave1"; try dsimp only) | fail "no step")
        rename IsRange _ _ _ _ _ _ _ _ => rgY
        have hfd : Int.fdiv ((both.length : Nat) : Int) 2 = ((both.length / 2 : Nat) : Int) := by rw [Int.fdiv_eq_ediv_of_nonneg _ (by decide)]; (first | lia | omega)
        rw [hfd] at rgY
        rename Fr g' L' _ _ => F20
        rename News g' L' _ _ => N20
        have hJ86 : ∃ b : Led, b = (D10, LCg.lst ys2) :: (D9, LCg.lst ys) :: (L' + 1, ob2) :: base := ⟨_, rfl⟩
        refine el1_1 hJ86 ?_
        clear hJ86
        rintro base6 hbase6
        rw [← hbase6] at N20
        have hb8 : ∀ p ∈ tl3 ++ rs, p ∈ base6 := fun p hp => by rw [hbase6]; exact hb6 p hp
        have hcell : (L' + 1, ob2) ∈ base6 := by walk_at "mem"
        refine srcU_range (n := both.length / 2) rfl F20 N20 rgY (rgA (by (first | lia | omega))) rgA' (by (first | lia | omega)) (fun i ys5 nw => ∃ tl : Led, nw = tl ++ base6 ∧ (∀ p ∈ tl, ∀ q ∈ base6, q.1 ≠ p.1) ∧ DatAll (tl ++ (tl3 ++ rs)) ys5 (((packC both).take i).map cD)) ⟨[], rfl, (fun _ h => nomatch h), .nil⟩ ?turn5 ?fin5
        case turn5 =>
          rintro i ys5 nw v I oI C oC D3 m3 h3 tk3 E3 hi5 hJ87
          refine el1_3 hJ87 ?_
          clear hJ87
          rintro tl hnw htl h10 hJ88
          refine el1_1 hJ88 ?_
          clear hJ88
          rintro t9 rfl hC5 hx5 F21 N21 off5 ne5 hS5
          have e3 : (0 : Int) + (i : Int) * 1 = (i : Int) := by (first | lia | omega)
          rw [e3] at hx5
          have hg5 : Grown base6 nw := ⟨tl, hnw, htl⟩
          obtain ⟨vi, hvi, hdi⟩ := hd3l.get (k := 2 * i) (by rw [List.length_map]; (first | lia | omega))
          obtain ⟨vj, hvj, hdj⟩ := hd3l.get (k := 2 * i + 1) (by rw [List.length_map]; (first | lia | omega))
          rw [List.getElem_map] at hdi hdj
          have hJ89 := cD_inv hdi
          refine el4_3 hJ89 ?_
          clear hJ89
          rintro tai tti tbi tni rfl htai htbi
          have hJ90 := cD_inv hdj
          refine el4_3 hJ90 ?_
          clear hJ90
          rintro taj ttj tbj tnj rfl htaj htbj
          have hvi' : v3[(2 * ((i : Nat) : Int)).toNat]? = some (.ref tai) := by rw [show (2 * ((i : Nat) : Int)).toNat = 2 * i by (first | lia | omega)]; exact hvi
          have hvj' : v3[(2 * ((i : Nat) : Int) + 1).toNat]? = some (.ref taj) := by rw [show (2 * ((i : Nat) : Int) + 1).toNat = 2 * i + 1 by (first | lia | omega)]; exact hvj
          have hbn : ∀ p ∈ tl3 ++ rs, p ∈ nw := fun p hp => hg5.sub _ (hb8 p hp)
          have z1 := hbn _ htai
          have z2 := hbn _ htaj
          have z5 := hbn _ hm3
          have z6 := hg5.sub _ hcell
          have z3 := DatIn.mono hbn htbi
          have z4 := DatIn.mono hbn htbj
          have hci := hb1' _ (List.getElem_mem (show 2 * i < both.length by (first | lia | omega)))
          have hcj := hb1' _ (List.getElem_mem (show 2 * i + 1 < both.length by (first | lia | omega)))
          clear F20 N20
          (try k_fold)
          repeat' (first | (k_unfold; (try dsimp only)) | (k_end; wrow_close) | (fail_if_success (with_reducible show wpAny _ _ (exec (Stmt.For _ _ _ _ _) _) _ _ _)); (fail_if_success (with_reducible show wpAny _ _ (compareOp _ (Value.ref _) (Value.ref _)) _ _ _)); (fail_if_success (with_reducible show wpAny _ _ (call (Value.ref _) _) _ _ _)); first | walk1 | (dsimp only; walk1) | (leave1; walk_say "STEP leave1"; try dsimp only) | fail "no step")
          rename Fr g' _ _ _ => F22
          rename News g' _ _ _ => N22
          rename IntsAre _ (_ ++ _) => hI9
          (repeat (rename _ ∧ _ => hc9; have hc8 := And.left hc9; have hc7 := And.right hc9; clear hc9))
          refine cend_2 F22 N22 off5 hS5 (by assumption) (by assumption) (by assumption) (by assumption) (by assumption) (by assumption) ⟨_ :: _ :: tl, by rw [hnw]; rfl, ?_, ?_⟩
          · exact List.forall_mem_cons.mpr ⟨fun q hq => Nat.ne_of_lt (hg5.lt (by assumption) q hq), List.forall_mem_cons.mpr ⟨fun q hq => Nat.ne_of_lt (hg5.lt (by assumption) q hq), htl⟩⟩
          · rw [List.take_add_one, packC_get both i (by (first | lia | omega)), Option.toList, List.map_append]
            exact (h10.mono fun p hp => .tail _ (.tail _ hp)).append (.one (.tuple (.head _) (.cons (.int _ _) (.cons (.list (.tail _ (.head _)) (dat_ints hI9)) .nil))))
        case fin5 =>
          rintro g6 ys5 nw hJ91
          refine el1_3 hJ91 ?_
          clear hJ91
          rintro tl hnw htl h10 hS5
          rw [List.take_of_length_le (by rw [packC_length]; (first | lia | omega))] at h10
          have hg5 : Grown base6 nw := ⟨tl, hnw, htl⟩
          have hcell2 := hg5.sub _ hcell
          unfold LCg.FinA
          intro D11 h11 tk11 F23 N23 o3
          clear F20 N20
          (try k_fold)
          repeat' (first | (k_unfold; (try dsimp only)) | (k_end; wrow_close) | (fail_if_success (with_reducible show wpAny _ _ (exec (Stmt.For _ _ _ _ _) _) _ _ _)); (fail_if_success (with_reducible show wpAny _ _ (compareOp _ (Value.ref _) (Value.ref _)) _ _ _)); (fail_if_success (with_reducible show wpAny _ _ (call (Value.ref _) _) _ _ _)); first | walk1 | (dsimp only; walk1) | (leave1; walk_say "STEP leave1"; try dsimp only) | fail "no step")
          rename Fr g' _ _ _ => F24
          rename News g' _ _ _ => N24
          have hs9 : ∀ p ∈ tl3 ++ rs, p ∈ (D11, LCg.lst ys5) :: nw := fun p hp => .tail _ (hg5.sub _ (hb8 p hp))
          with_unfolding_all refine' tel_use (packed_telS w (sub := tl3 ++ rs) hd3 hs9 (by (first | lia | omega)) (fun c hc => by rw [hb1' c hc]; decide)) B' F24 X' N24 T' rfl ?hd ?hu ?_
          case hd => first | exact room2 hd (by decide) | ktr_room
          case hu => first | exact room2 hu (by decide) | (show un + 3 + _ < _; exact room2 hu (by decide)) | (simp only [units_deeper]; (first | lia | omega))
          rintro r9 news9 h12 tk12 F25 N25 hJ92
          refine el1_3 hJ92 ?_
          clear hJ92
          rintro tl9 rfl hne9 hd9
          clear F24 N24
          have hJ93 := datRef hd9
          refine el1_1 hJ93 ?_
          clear hJ93
          rintro p9 hp9
          subst hp9
          have hJ94 := datList hd9
          refine el2_2 hJ94 ?_
          clear hJ94
          rintro v9 n9 hm9 hd9l
          have hJ95 : ∃ b : Led, b = tl9 ++ ((D11, LCg.lst ys5) :: nw) := ⟨_, rfl⟩
          refine el1_1 hJ95 ?_
          clear hJ95
          rintro base9 hbase9
          rw [← hbase9] at N25
          have hsub9 : ∀ p ∈ tl9 ++ (tl3 ++ rs), p ∈ base9 := fun p hp => by
            rw [hbase9]
            rcases List.mem_append.mp hp with hp | hp
            · exact List.mem_append_left _ hp
            · exact List.mem_append_right _ (hs9 p hp)
          have hsubD : ∀ p ∈ tl ++ (tl3 ++ rs), p ∈ base9 := fun p hp => by
            rw [hbase9]
            rcases List.mem_append.mp hp with hp | hp
            · exact List.mem_append_right _ (.tail _ (by rw [hnw]; exact List.mem_append_left _ hp))
            · exact List.mem_append_right _ (hs9 p hp)
          have hm11 : (D11, LCg.lst ys5) ∈ base9 := by walk_at "mem"
          have hrest9 : ∀ p ∈ rest, p ∈ base9 := fun p hp => hsub9 p (List.mem_append_right _ (List.mem_append_right _ (by rw [hrs]; exact List.mem_append_right _ hp)))
          (try k_fold)
          repeat' (first | (k_unfold; (try dsimp only)) | (k_end; wrow_close) | (fail_if_success (with_reducible show wpAny _ _ (exec (Stmt.For _ _ _ _ _) _) _ _ _)); (fail_if_success (with_reducible show wpAny _ _ (compareOp _ (Value.ref _) (Value.ref _)) _ _ _)); (fail_if_success (with_reducible show wpAny _ _ (call (Value.ref _) _) _ _ _)); first | walk1 | (dsimp only; walk1) | (leave1; walk_say "STEP leave1"; try dsimp only) | fail "no step")
          rename Fr g' _ _ _ => F26
          rename News g' _ _ _ => N26
          with_unfolding_all refine' eq_dat (r := true) N26 (hsub9 _ hm9) hd9l hsub9 hm11 h10 hsubD csD_ok csD_ok ?hu (by simp) ?_
          case hu => first | exact room2 hu (by decide) | (show un + 3 + _ < _; exact room2 hu (by decide)) | (simp only [units_deeper]; (first | lia | omega))
          (try k_unfold)
          (try dsimp only)
          (try k_fold)
          repeat' (first | (k_unfold; (try dsimp only)) | (k_end; wrow_close) | (fail_if_success (with_reducible show wpAny _ _ (exec (Stmt.For _ _ _ _ _) _) _ _ _)); (fail_if_success (with_reducible show wpAny _ _ (compareOp _ (Value.ref _) (Value.ref _)) _ _ _)); (fail_if_success (with_reducible show wpAny _ _ (call (Value.ref _) _) _ _ _)); first | walk1 | (dsimp only; walk1) | (leave1; walk_say "STEP leave1"; try dsimp only) | fail "no step")
          rename Fr h₀ L _ m => kF
          rename News h₀ L _ _ => kN
          exact hret _ _ _ _ kF kN ⟨rfl, hrest9⟩
end --T_Right

section --T_Pr3

noncomputable def usedK (D : List (Int × Int)) : List Int := (D.filter fun p => decide (p.2 > 0)).map (·.1)
theorem usedK_take {D : List Pr} {i : Nat} {k v : Int} (h : D[i]? = some (k, v)) : usedK (D.take (i + 1)) = usedK (D.take i) ++ (if 0 < v then [k] else []) := by
  rw [List.take_add_one, h]
  simp only [Option.toList, usedK, List.filter_append, List.map_append]
  congr 1
  by_cases h0 : 0 < v <;> simp [h0]
theorem usedK_len (D : List Pr) : (usedK D).length ≤ D.length := by
  rw [usedK, List.length_map]; exact List.length_filter_le _ _
theorem usedK_nodup {D : List Pr} (h : (D.map (·.1)).Nodup) : (usedK D).Nodup := by
  rw [usedK]
  rw [List.nodup_iff_pairwise_ne, List.pairwise_map] at *
  exact h.filter _
theorem syms_perm {D P : List Pr} (hP : P.Perm (usedP D)) : (symsOf P).Perm (usedK D) := by
  have h := hP.map fun p : Pr => -p.2
  have e : (usedP D).map (fun p : Pr => -p.2) = usedK D := by
    rw [usedP, usedK, List.map_map]
    apply List.map_congr_left
    intro p _
    simp
  rw [e] at h
  exact h
theorem sum_perm {l r : List Int} (h : l.Perm r) : l.sum = r.sum := by
  induction h with
  | nil => rfl
  | cons x _ ih => simp only [List.sum_cons, ih]
  | swap x y l => simp only [List.sum_cons]; (first | lia | omega)
  | trans _ _ a b => exact a.trans b
/-- what the law asks of the sizes told, plainly -/
structure Told (D : List Pr) (mo : Nat) (S : List Pr) (c : Int → Nat) : Prop where
  at_ : ∀ x, look S x = if x ∈ usedK D then some ((c x : Nat) : Int) else none
  one : ∀ x ∈ usedK D, 1 ≤ c x ∧ c x ≤ mo
  room : ((usedK D).map fun x => 2 ^ (mo - c x)).sum < 2 ^ mo
  best : ∀ l : Int → Nat, (∀ x ∈ usedK D, l x ≤ mo) → ((usedK D).map fun x => 2 ^ (mo - l x)).sum < 2 ^ mo → ((usedK D).map fun x => (look D x).getD 0 * (c x : Nat)).sum ≤ ((usedK D).map fun x => (look D x).getD 0 * (l x : Nat)).sum
theorem wOf_at {D P : List Pr} (hk : (D.map (·.1)).Nodup) (h0 : ∀ p ∈ D, 0 ≤ p.1) (hP : P.Perm (usedP D)) (hPk : (P.map (·.2)).Nodup) {x : Int} (hx : x ∈ usedK D) : wOf P x = (look D x).getD 0 := by
  obtain ⟨q, hq, rfl⟩ := List.mem_map.mp hx
  obtain ⟨hq1, hq2⟩ := List.mem_filter.mp hq
  have hn : ¬ q.1 = -1 := by have := h0 q hq1; (first | lia | omega)
  have hm : (q.2, -q.1) ∈ P := hP.mem_iff.mpr (List.mem_map.mpr ⟨q, hq, rfl⟩)
  have hl : look (P.map fun p => (-p.2, p.1)) q.1 = some q.2 := look_of_mem (by
    rw [List.map_map]
    rw [List.nodup_iff_pairwise_ne, List.pairwise_map] at *
    exact hPk.imp fun {a b} h e => h (by simp only [Function.comp] at e; (first | lia | omega))) (List.mem_map.mpr ⟨(q.2, -q.1), hm, by simp⟩)
  rw [wOf, if_neg hn, hl, look_of_mem hk hq1]
theorem usedP_snd_nodup {D : List Pr} (hk : (D.map (·.1)).Nodup) : ((usedP D).map (·.2)).Nodup := by
  rw [usedP, List.map_map]
  rw [List.nodup_iff_pairwise_ne, List.pairwise_map] at *
  exact (hk.filter _).imp fun {a b} h e => h (by simp only [Function.comp] at e; (first | lia | omega))
theorem told_of {D P : List Pr} {mo : Nat} (hk : (D.map (·.1)).Nodup) (h0 : ∀ p ∈ D, 0 ≤ p.1) (hP : P.Perm (usedP D)) (hPs : P.Pairwise fun a b => lt2 a b = true) (hm : 1 ≤ mo) (hf : P = [] ∨ P.length + 1 ≤ 2 ^ mo) : ∃ c, Told D mo (sizesC mo P) c := by
  have hsp := syms_perm hP
  by_cases he : P = []
  · subst he
    have hu : usedK D = [] := hsp.symm.eq_nil
    have e : sizesC mo [] = [] := rfl
    refine ⟨fun _ => 0, ⟨fun x => ?_, fun x hx => ?_, ?_, fun l _ _ => ?_⟩⟩
    · rw [e, hu]; simp [look]
    · rw [hu] at hx; cases hx
    · rw [hu]; exact Nat.pow_pos (by decide)
    · rw [hu]; exact Int.le_refl _
  · have hPk : (P.map (·.2)).Nodup := (hP.map _).nodup_iff.mpr (usedP_snd_nodup hk)
    have hPm : ∀ p ∈ P, p.2 ≠ 1 ∧ 0 < p.1 := by
      intro p hp
      obtain ⟨q, hq, rfl⟩ := List.mem_map.mp (hP.mem_iff.mp hp)
      obtain ⟨hq1, hq2⟩ := List.mem_filter.mp hq
      have := h0 q hq1
      simp only [decide_eq_true_eq] at hq2
      exact ⟨by show -q.1 ≠ 1; (first | lia | omega), hq2⟩
    obtain ⟨c, _, b1, b2, b3, b4⟩ := best_pure hPk (fun p hp => (hPm p hp).1) hPs (fun p hp => (hPm p hp).2) he hm (by rcases hf with h | h; exact absurd h he; exact h)
    have hw : ∀ x ∈ symsOf P, wOf P x = (look D x).getD 0 := fun x hx => wOf_at hk h0 hP hPk (hsp.mem_iff.mp hx)
    refine ⟨c, ⟨fun x => ?_, fun x hx => b2 x (hsp.mem_iff.mpr hx), ?_, fun l hl hs => ?_⟩⟩
    · rw [b1 x]
      by_cases hx : x ∈ symsOf P
      · rw [if_pos hx, if_pos (hsp.mem_iff.mp hx)]
      · rw [if_neg hx, if_neg fun h => hx (hsp.mem_iff.mpr h)]
    · have := (hsp.map fun x => 2 ^ (mo - c x)).sum_nat
      rw [← this]; exact b3
    · have e1 := (hsp.map fun x => 2 ^ (mo - l x)).sum_nat
      have h := b4 l (fun x hx => hl x (hsp.mem_iff.mp hx)) (by rw [e1]; exact hs)
      have e2 : ∀ f : Int → Nat, ((symsOf P).map fun x => wOf P x * (f x : Nat)).sum = ((usedK D).map fun x => (look D x).getD 0 * (f x : Nat)).sum := fun f => by
        have e3 : ((symsOf P).map fun x => wOf P x * (f x : Nat)) = (symsOf P).map fun x => (look D x).getD 0 * (f x : Nat) := by
          apply List.map_congr_left; intro x hx; rw [hw x hx]
        rw [e3]
        exact sum_perm (hsp.map _)
      rw [e2, e2] at h
      exact h
theorem Told.keys {D S : List Pr} {mo : Nat} {c : Int → Nat} (t : Told D mo S c) (hS : (S.map (·.1)).Nodup) (hk : (D.map (·.1)).Nodup) : (S.map (·.1)).Perm (usedK D) := by
  refine (List.perm_ext_iff_of_nodup hS (usedK_nodup hk)).mpr fun x => ?_
  constructor
  · intro hx
    obtain ⟨p, hp, rfl⟩ := List.mem_map.mp hx
    have h := t.at_ p.1
    rw [look_of_mem hS hp] at h
    by_cases hm : p.1 ∈ usedK D
    · exact hm
    · rw [if_neg hm] at h; cases h
  · intro hx
    have h := t.at_ x
    rw [if_pos hx] at h
    exact List.mem_map.mpr ⟨_, look_mem h, rfl⟩
theorem sorted_one {l r : List Int} (h : l.Perm r) (hl : l.Pairwise (· ≤ ·)) (hr : r.Pairwise (· ≤ ·)) : l = r := by
  induction l generalizing r with
  | nil => exact h.symm.eq_nil.symm
  | cons x l ih =>
    cases r with
    | nil => exact absurd h.eq_nil (by simp)
    | cons y r =>
      have hl' := List.pairwise_cons.mp hl
      have hr' := List.pairwise_cons.mp hr
      have hxy : x = y := by
        have h1 : x ∈ y :: r := h.mem_iff.mp (.head _)
        have h2 : y ∈ x :: l := h.mem_iff.mpr (.head _)
        rcases List.mem_cons.mp h1 with e | h1
        · exact e
        · rcases List.mem_cons.mp h2 with e | h2
          · exact e.symm
          · have := hr'.1 x h1; have := hl'.1 y h2; (first | lia | omega)
      subst hxy
      rw [ih ((List.perm_cons _).mp h) hl'.2 hr'.2]
theorem news_name {h₀ h : PySem.Heap} {L : PySem.Addr} {l : Led} (N : PyProof.Rows.News h₀ L h l) : ∃ b, b = l ∧ PyProof.Rows.News h₀ L h b := ⟨l, rfl, N⟩
end --T_Pr3

section --T_Pr4

theorem long_mem {most : Nat} {c : Int} {p q : Pr} : q ∈ longC most c p ↔ ∃ l : Nat, 1 ≤ l ∧ l ≤ most ∧ q = (p.1 + c * (l : Nat), p.2 + ((2 ^ (most - l) : Nat) : Int)) := by
  unfold longC
  constructor
  · intro h
    obtain ⟨j, hj, rfl⟩ := List.mem_map.mp h
    have := List.mem_range.mp hj
    refine ⟨j + 1, by (first | lia | omega), by (first | lia | omega), ?_⟩
    simp
  · rintro ⟨l, h1, h2, rfl⟩
    refine List.mem_map.mpr ⟨l - 1, List.mem_range.mpr (by (first | lia | omega)), ?_⟩
    have e : ((l - 1 : Nat) : Int) + 1 = (l : Int) := by (first | lia | omega)
    have e2 : l - 1 + 1 = l := by (first | lia | omega)
    simp [e, e2]
theorem least_to {most : Nat} {f : Int → Int} : ∀ (U : List Int) (P : List Pr) (q : Pr), U.Nodup → q ∈ leastC most (U.map f) P → ∃ p ∈ P, ∃ l : Int → Nat, (∀ x ∈ U, 1 ≤ l x ∧ l x ≤ most) ∧ q.1 = p.1 + (U.map fun x => f x * (l x : Nat)).sum ∧ q.2 = p.2 + (((U.map fun x => 2 ^ (most - l x)).sum : Nat) : Int) ∧ (U ≠ [] → q.2 < 2 ^ most)
  | [], P, q, _, h => ⟨q, h, fun _ => 0, (fun _ h => nomatch h), by simp, by simp, fun h => absurd rfl h⟩
  | x :: U, P, q, hn, h => by
    have hn' := List.nodup_cons.mp hn
    rw [List.map_cons, leastC] at h
    obtain ⟨p1, hp1, l, hl, e1, e2, e3⟩ := least_to U _ q hn'.2 h
    obtain ⟨hp2, hp3⟩ := List.mem_filter.mp hp1
    obtain ⟨p, hp, hp4⟩ := List.mem_flatMap.mp hp2
    obtain ⟨j, hj1, hj2, rfl⟩ := long_mem.mp hp4
    have hne : ∀ y ∈ U, y ≠ x := fun y hy e => hn'.1 (e ▸ hy)
    refine ⟨p, hp, fun y => if y = x then j else l y, fun y hy => ?_, ?_, ?_, fun _ => ?_⟩
    · by_cases e : y = x
      · simp [e, hj1, hj2]
      · simp only [e, if_false]
        rcases List.mem_cons.mp hy with h | h
        · exact absurd h e
        · exact hl y h
    · have e : (U.map fun y => f y * ((if y = x then j else l y : Nat) : Int)) = U.map fun y => f y * (l y : Nat) := by
        apply List.map_congr_left; intro y hy; rw [if_neg (hne y hy)]
      simp only [List.map_cons, List.sum_cons, if_true]
      rw [e, e1]; simp only []; (first | lia | omega)
    · have e : (U.map fun y => 2 ^ (most - (if y = x then j else l y))) = U.map fun y => 2 ^ (most - l y) := by
        apply List.map_congr_left; intro y hy; rw [if_neg (hne y hy)]
      simp only [List.map_cons, List.sum_cons, if_true]
      rw [e, e2]; simp only []; push_cast; (first | lia | omega)
    · by_cases hU : U = []
      · subst hU
        simp only [List.map_nil, List.sum_nil] at e2
        rw [e2]
        simpa using hp3
      · exact e3 hU
theorem least_from {most : Nat} {f : Int → Int} {c : Int → Nat} : ∀ (U : List Int) (P : List Pr) (p : Pr), p ∈ P → (∀ x ∈ U, 1 ≤ c x ∧ c x ≤ most) → p.2 + (((U.map fun x => 2 ^ (most - c x)).sum : Nat) : Int) < 2 ^ most →
      (p.1 + (U.map fun x => f x * (c x : Nat)).sum, p.2 + (((U.map fun x => 2 ^ (most - c x)).sum : Nat) : Int)) ∈ leastC most (U.map f) P
  | [], P, p, hp, _, _ => by simpa [leastC] using hp
  | x :: U, P, p, hp, hc, hr => by
    rw [List.map_cons, leastC]
    have hx := hc x (.head _)
    simp only [List.map_cons, List.sum_cons] at hr ⊢
    have h1 : (p.1 + f x * (c x : Nat), p.2 + ((2 ^ (most - c x) : Nat) : Int)) ∈ (P.flatMap (longC most (f x))).filter fun p => decide (p.2 < 2 ^ most) := by
      refine List.mem_filter.mpr ⟨List.mem_flatMap.mpr ⟨p, hp, long_mem.mpr ⟨c x, hx.1, hx.2, rfl⟩⟩, ?_⟩
      simp only [decide_eq_true_eq]
      push_cast at hr ⊢
      (first | lia | omega)
    have ih := least_from (f := f) U _ _ h1 (fun y hy => hc y (.tail _ hy)) (by push_cast at hr ⊢; (first | lia | omega))
    have e1 : p.1 + f x * (c x : Nat) + (U.map fun x => f x * (c x : Nat)).sum = p.1 + (f x * (c x : Nat) + (U.map fun x => f x * (c x : Nat)).sum) := by (first | lia | omega)
    have e2 : p.2 + ((2 ^ (most - c x) : Nat) : Int) + (((U.map fun x => 2 ^ (most - c x)).sum : Nat) : Int) = p.2 + ((2 ^ (most - c x) + (U.map fun x => 2 ^ (most - c x)).sum : Nat) : Int) := by push_cast; (first | lia | omega)
    simp only [] at ih
    rw [e1, e2] at ih
    exact ih
theorem Told.mem {D S : List Pr} {mo : Nat} {c : Int → Nat} (t : Told D mo S c) : ((usedK D).map fun x => (look D x).getD 0 * (c x : Nat)).sum ∈ (leastC mo ((usedK D).map fun x => (look D x).getD 0) [(0, 0)]).map (·.1) := by
  have h := least_from (most := mo) (f := fun x => (look D x).getD 0) (c := c) (usedK D) [(0, 0)] (0, 0) (.head _) t.one (by
    have := t.room
    simp only [Int.zero_add]
    exact_mod_cast this)
  refine List.mem_map.mpr ⟨_, h, ?_⟩
  simp
theorem Told.least {D S : List Pr} {mo : Nat} {c : Int → Nat} (t : Told D mo S c) (hk : (D.map (·.1)).Nodup) (hU : usedK D ≠ []) {M : Int} (h1 : M ∈ (leastC mo ((usedK D).map fun x => (look D x).getD 0) [(0, 0)]).map (·.1)) (h2 : ∀ p ∈ leastC mo ((usedK D).map fun x => (look D x).getD 0) [(0, 0)], M ≤ p.1) :
    ((usedK D).map fun x => (look D x).getD 0 * (c x : Nat)).sum = M := by
  obtain ⟨q, hq, rfl⟩ := List.mem_map.mp h1
  obtain ⟨q2, hq2, e2⟩ := List.mem_map.mp t.mem
  have ha := h2 q2 hq2
  rw [e2] at ha
  obtain ⟨p, hp, l, hl, e3, e4, e5⟩ := least_to (usedK D) _ q (usedK_nodup hk) hq
  obtain rfl : p = (0, 0) := by simpa using hp
  have hb := t.best l (fun x hx => (hl x hx).2) (by
    have := e5 hU
    rw [e4] at this
    simp only [Int.zero_add] at this
    exact_mod_cast this)
  simp only [Int.zero_add] at e3
  (first | lia | omega)
theorem cast_sum (f : Int → Nat) : ∀ l : List Int, (((l.map f).sum : Nat) : Int) = (l.map fun x => ((f x : Nat) : Int)).sum
  | [] => rfl
  | x :: r => by simp only [List.map_cons, List.sum_cons, Int.natCast_add, cast_sum f r]
theorem Told.roomI {D S : List Pr} {mo : Nat} {c : Int → Nat} (t : Told D mo S c) : ((usedK D).map fun x => (2 : Int) ^ (mo - c x)).sum < 2 ^ mo := by
  have h := t.room
  have e := cast_sum (fun x => 2 ^ (mo - c x)) (usedK D)
  have e2 : ((usedK D).map fun x => ((2 ^ (mo - c x) : Nat) : Int)) = (usedK D).map fun x => (2 : Int) ^ (mo - c x) := by
    apply List.map_congr_left; intro x _; push_cast; rfl
  rw [e2] at e
  rw [← e]
  exact_mod_cast h
theorem used_at {D : List Pr} (hk : (D.map (·.1)).Nodup) (hv : ∀ p ∈ D, 0 ≤ p.2 ∧ p.2 ≤ 30) {x : Int} (hx : x ∈ usedK D) : ∃ v, look D x = some v ∧ (look D x).getD 0 = v ∧ 0 ≤ v ∧ v ≤ 30 := by
  obtain ⟨q, hq, rfl⟩ := List.mem_map.mp hx
  obtain ⟨hq1, _⟩ := List.mem_filter.mp hq
  have hl := look_of_mem hk hq1
  exact ⟨q.2, hl, by rw [hl]; rfl, hv q hq1⟩
theorem take_getD {l : List Int} {i : Nat} (h : i < l.length) : l.take (i + 1) = l.take i ++ [l.getD i 0] := by
  rw [List.take_add_one, List.getElem?_eq_getElem h, Option.toList, getD_get h]
end --T_Pr4

section --T_Pr5
open PySem PySem.W PyProof.Rows PySem.Spec PySem.Calls
theorem sorted_ext {R : Pr → Pr → Bool} (hirr : ∀ a, R a a = false) (hasy : ∀ a b, R a b = true → R b a = false) : ∀ {l r : List Pr}, l.Pairwise (fun a b => R a b = true) → r.Pairwise (fun a b => R a b = true) → (∀ x, x ∈ l ↔ x ∈ r) → l = r
  | [], [], _, _, _ => rfl
  | [], y :: r, _, _, h => nomatch (h y).mpr (.head _)
  | x :: l, [], _, _, h => nomatch (h x).mp (.head _)
  | x :: l, y :: r, hl, hr, h => by
    rw [List.pairwise_cons] at hl hr
    have hxy : x = y := by
      rcases List.mem_cons.mp ((h x).mp (.head _)) with e | e
      · exact e
      · rcases List.mem_cons.mp ((h y).mpr (.head _)) with f | f
        · exact f.symm
        · have a := hl.1 y f
          have b := hr.1 x e
          rw [hasy _ _ a] at b; cases b
    subst hxy
    have hx1 : x ∉ l := fun hm => by have := hl.1 x hm; rw [hirr] at this; cases this
    have hx2 : x ∉ r := fun hm => by have := hr.1 x hm; rw [hirr] at this; cases this
    rw [sorted_ext hirr hasy hl.2 hr.2 fun z => ⟨fun hz => by
      rcases List.mem_cons.mp ((h z).mp (.tail _ hz)) with rfl | e
      · exact absurd hz hx1
      · exact e, fun hz => by
      rcases List.mem_cons.mp ((h z).mpr (.tail _ hz)) with rfl | e
      · exact absurd hz hx2
      · exact e⟩]
noncomputable def syms : List Int := (List.range 6).map fun k : Nat => 7 * (k : Int)
noncomputable def dueAt (S : List Pr) (k : Int) : List Int := syms.filter fun x => decide (look S x = some k)
noncomputable def dueC (S : List Pr) : Nat → List Int
  | 0 => []
  | k + 1 => dueC S k ++ dueAt S ((k : Int) + 1)
theorem dueC_len (S : List Pr) : ∀ k, (dueC S k).length ≤ 6 * k
  | 0 => by simp [dueC]
  | k + 1 => by
    have h1 := dueC_len S k
    have h2 : (dueAt S ((k : Int) + 1)).length ≤ 6 := Nat.le_trans (List.length_filter_le _ _) (by decide)
    rw [dueC, List.length_append]; (first | lia | omega)
theorem syms_take : ∀ j, j < 6 → syms.take (j + 1) = syms.take j ++ [7 * (j : Int)] := by decide

noncomputable def dueP (S : List Pr) : Nat → List Pr
  | 0 => []
  | k + 1 => dueP S k ++ (dueAt S ((k : Int) + 1)).map fun x => ((k : Int) + 1, x)
theorem dueP_snd (S : List Pr) : ∀ k, (dueP S k).map (·.2) = dueC S k
  | 0 => rfl
  | k + 1 => by
    rw [dueP, dueC, List.map_append, dueP_snd S k, List.map_map]
    congr 1
    exact (List.map_congr_left fun x _ => rfl).trans (List.map_id _)
theorem dueP_mem {S : List Pr} {p : Pr} : ∀ {k : Nat}, p ∈ dueP S k ↔ 1 ≤ p.1 ∧ p.1 ≤ (k : Int) ∧ p.2 ∈ syms ∧ look S p.2 = some p.1
  | 0 => by simp [dueP]; (first | lia | omega)
  | k + 1 => by
    rw [dueP, List.mem_append, dueP_mem]
    constructor
    · rintro (⟨h1, h2, h3, h4⟩ | h)
      · exact ⟨h1, by (first | lia | omega), h3, h4⟩
      · obtain ⟨x, hx, rfl⟩ := List.mem_map.mp h
        obtain ⟨hx1, hx2⟩ := List.mem_filter.mp hx
        exact ⟨by show (1 : Int) ≤ (k : Int) + 1; (first | lia | omega), by show (k : Int) + 1 ≤ ((k + 1 : Nat) : Int); (first | lia | omega), hx1, by simpa using hx2⟩
    · rintro ⟨h1, h2, h3, h4⟩
      by_cases h5 : p.1 ≤ (k : Int)
      · exact .inl ⟨h1, h5, h3, h4⟩
      · right
        have e : p.1 = (k : Int) + 1 := by (first | lia | omega)
        refine List.mem_map.mpr ⟨p.2, List.mem_filter.mpr ⟨h3, ?_⟩, ?_⟩
        · rw [h4, e]; simp
        · rw [← e]
theorem dueP_sorted (S : List Pr) : ∀ k, (dueP S k).Pairwise fun a b => lt2 a b = true
  | 0 => .nil
  | k + 1 => by
    rw [dueP, List.pairwise_append]
    refine ⟨dueP_sorted S k, ?_, ?_⟩
    · rw [List.pairwise_map]
      have h : syms.Pairwise (· < ·) := by decide
      refine (h.filter _).imp fun {a b} hab => ?_
      simp [lt2, hab]
    · intro a ha b hb
      obtain ⟨x, _, rfl⟩ := List.mem_map.mp hb
      have := (dueP_mem.mp ha).2.1
      have h2 : a.1 < (k : Int) + 1 := by (first | lia | omega)
      simp [lt2, h2]
theorem due_eq {S Q : List Pr} (hS : (S.map (·.1)).Nodup) (hQ : Q.Perm (S.map fun p => (p.2, p.1))) (hQs : Q.Pairwise fun a b => lt2 a b = true) (hv : ∀ p ∈ S, 1 ≤ p.2 ∧ p.2 ≤ 16) (hk : ∀ p ∈ S, p.1 ∈ syms) : Q.map (·.2) = dueC S 16 := by
  have e : Q = dueP S 16 := sorted_ext lt2_irrefl (fun a b h => lt2_asymm h) hQs (dueP_sorted S 16) fun x => by
    rw [hQ.mem_iff, dueP_mem]
    constructor
    · intro h
      obtain ⟨p, hp, rfl⟩ := List.mem_map.mp h
      exact ⟨(hv p hp).1, (hv p hp).2, hk p hp, look_of_mem hS hp⟩
    · rintro ⟨h1, h2, h3, h4⟩
      exact List.mem_map.mpr ⟨_, look_mem h4, rfl⟩
  rw [e, dueP_snd]
theorem cts_used {S : List Pr} {U : List Int} {c : Int → Nat} (hp : (S.map (·.1)).Perm U) (hc : ∀ p ∈ S, p.2 = ((c p.1 : Nat) : Int)) : cts S = (List.range 16).map fun j : Nat => ((U.filter fun x => decide (((c x : Nat) : Int) = ((j + 1 : Nat) : Int))).length : Int) := by
  rw [cts]
  refine List.map_congr_left fun j _ => ?_
  rw [← List.countP_eq_length_filter, ← hp.countP_eq, List.countP_map]
  congr 1
  refine List.countP_congr fun p hp => ?_
  have e := hc p hp
  simp only [Function.comp, e, decide_eq_true_eq]
  (first | lia | omega)
end --T_Pr5

section --T_Pr6
open PySem PySem.W PyProof.Rows PySem.Spec PySem.Calls
/-- how many of U have each size -/
noncomputable def cU (U : List Int) (c : Int → Nat) : List Int := (List.range 16).map fun j : Nat => ((U.filter fun x => decide (((c x : Nat) : Int) = ((j + 1 : Nat) : Int))).length : Int)
noncomputable def kr (U : List Int) (c : Int → Nat) (n : Nat) : Nat := (U.map fun x => if c x ≤ n then 2 ^ (n - c x) else 0).sum
theorem cU_get {U : List Int} {c : Int → Nat} {j : Nat} (h : j < 16) : (cU U c).getD j 0 = ((U.filter fun x => decide (((c x : Nat) : Int) = ((j + 1 : Nat) : Int))).length : Int) := by
  rw [getD_get (show j < (cU U c).length by simp [cU, h])]
  simp [cU]
theorem cU_len (U : List Int) (c : Int → Nat) : (cU U c).length = 16 := by simp [cU]
theorem cU_nonneg {U : List Int} {c : Int → Nat} : ∀ x ∈ cU U c, 0 ≤ x := by
  intro x hx
  obtain ⟨j, _, rfl⟩ := List.mem_map.mp hx
  (first | lia | omega)
theorem kr_succ (c : Int → Nat) (n : Nat) : ∀ U : List Int, kr U c (n + 1) = 2 * kr U c n + (U.filter fun x => decide (((c x : Nat) : Int) = ((n + 1 : Nat) : Int))).length
  | [] => rfl
  | x :: U => by
    have ih := kr_succ c n U
    unfold kr at ih ⊢
    rw [List.map_cons, List.map_cons, List.sum_cons, List.sum_cons, List.filter_cons]
    by_cases h : c x ≤ n
    · have e : n + 1 - c x = (n - c x) + 1 := by (first | lia | omega)
      have d : decide (((c x : Nat) : Int) = ((n + 1 : Nat) : Int)) = false := decide_eq_false (by (first | lia | omega))
      rw [if_pos h, if_pos (show c x ≤ n + 1 by (first | lia | omega)), d, e, Nat.pow_succ]
      simp only [Bool.false_eq_true, if_false]; (first | lia | omega)
    · by_cases h2 : c x = n + 1
      · have e : n + 1 - c x = 0 := by (first | lia | omega)
        have d : decide (((c x : Nat) : Int) = ((n + 1 : Nat) : Int)) = true := decide_eq_true (by (first | lia | omega))
        rw [if_neg h, if_pos (show c x ≤ n + 1 by (first | lia | omega)), d, e]
        simp only [if_true, List.length_cons, Nat.pow_zero]; (first | lia | omega)
      · have d : decide (((c x : Nat) : Int) = ((n + 1 : Nat) : Int)) = false := decide_eq_false (by (first | lia | omega))
        rw [if_neg h, if_neg (show ¬ c x ≤ n + 1 by (first | lia | omega)), d]
        simp only [Bool.false_eq_true, if_false]; (first | lia | omega)
theorem kr_zero {c : Int → Nat} : ∀ {U : List Int}, (∀ x ∈ U, 1 ≤ c x) → kr U c 0 = 0
  | [], _ => rfl
  | x :: U, h => by
    have ih := kr_zero (U := U) fun y hy => h y (.tail _ hy)
    have h1 := h x (.head _)
    unfold kr at ih ⊢
    rw [List.map_cons, List.sum_cons, ih, if_neg (by (first | lia | omega))]
theorem code_kr {U : List Int} {c : Int → Nat} (h : ∀ x ∈ U, 1 ≤ c x) : ∀ i, i ≤ 16 → codeAt (cU U c) i = ((2 * kr U c i : Nat) : Int)
  | 0, _ => by rw [kr_zero h]; rfl
  | i + 1, hi => by
    have ih := code_kr h i (by (first | lia | omega))
    rw [codeAt, ih, cU_get (by (first | lia | omega)), kr_succ]
    (first | lia | omega)
theorem kr_le {c : Int → Nat} {n mo : Nat} (hn : n ≤ mo) : ∀ U : List Int, kr U c n * 2 ^ (mo - n) ≤ (U.map fun x => 2 ^ (mo - c x)).sum
  | [] => by simp [kr]
  | x :: U => by
    have ih := kr_le hn (c := c) U
    unfold kr at ih ⊢
    rw [List.map_cons, List.map_cons, List.sum_cons, List.sum_cons, Nat.add_mul]
    by_cases h : c x ≤ n
    · have e : mo - c x = (n - c x) + (mo - n) := by (first | lia | omega)
      rw [if_pos h, e, Nat.pow_add]; (first | lia | omega)
    · rw [if_neg h, Nat.zero_mul, Nat.zero_add]
      exact Nat.le_trans ih (Nat.le_add_left _ _)
theorem code_room {U : List Int} {c : Int → Nat} {mo : Nat} (h1 : ∀ x ∈ U, 1 ≤ c x ∧ c x ≤ mo) (hr : (U.map fun x => 2 ^ (mo - c x)).sum < 2 ^ mo) : ∀ i, i < 16 → 0 < (cU U c).getD i 0 → codeAt (cU U c) i + (cU U c).getD i 0 < 2 ^ (i + 1) := by
  intro i hi h0
  rw [code_kr (fun x hx => (h1 x hx).1) i (by (first | lia | omega)), cU_get hi]
  rw [cU_get hi] at h0
  have hne : ∃ x ∈ U, c x = i + 1 := by
    obtain ⟨x, hx⟩ := List.exists_mem_of_length_pos (show 0 < (U.filter fun x => decide (((c x : Nat) : Int) = ((i + 1 : Nat) : Int))).length by (first | lia | omega))
    obtain ⟨hx1, hx2⟩ := List.mem_filter.mp hx
    exact ⟨x, hx1, by have := of_decide_eq_true hx2; (first | lia | omega)⟩
  obtain ⟨x, hx, e⟩ := hne
  have hm := (h1 x hx).2
  have hk := kr_le (c := c) (show i + 1 ≤ mo by (first | lia | omega)) U
  have hs := kr_succ c i U
  have hlt : kr U c (i + 1) * 2 ^ (mo - (i + 1)) < 2 ^ (i + 1) * 2 ^ (mo - (i + 1)) := by
    rw [← Nat.pow_add, show i + 1 + (mo - (i + 1)) = mo by (first | lia | omega)]; (first | lia | omega)
  have hk2 : kr U c (i + 1) < 2 ^ (i + 1) := Nat.lt_of_mul_lt_mul_right hlt
  have hk3 : ((kr U c (i + 1) : Nat) : Int) < ((2 ^ (i + 1) : Nat) : Int) := by exact_mod_cast hk2
  rw [hs] at hk3
  push_cast at hk3 ⊢
  exact hk3
theorem cnt_succ (c : Int → Nat) (n : Nat) : ∀ U : List Int, (U.filter fun x => decide (c x ≤ n + 1)).length = (U.filter fun x => decide (c x ≤ n)).length + (U.filter fun x => decide (((c x : Nat) : Int) = ((n + 1 : Nat) : Int))).length
  | [] => rfl
  | x :: U => by
    have ih := cnt_succ c n U
    rw [List.filter_cons, List.filter_cons, List.filter_cons]
    by_cases h : c x ≤ n
    · rw [decide_eq_true (show c x ≤ n + 1 by (first | lia | omega)), decide_eq_true h, decide_eq_false (show ¬ ((c x : Nat) : Int) = ((n + 1 : Nat) : Int) by (first | lia | omega))]
      simp only [Bool.false_eq_true, if_false, if_true, List.length_cons]; (first | lia | omega)
    · by_cases h2 : c x = n + 1
      · rw [decide_eq_true (show c x ≤ n + 1 by (first | lia | omega)), decide_eq_false h, decide_eq_true (show ((c x : Nat) : Int) = ((n + 1 : Nat) : Int) by (first | lia | omega))]
        simp only [Bool.false_eq_true, if_false, if_true, List.length_cons]; (first | lia | omega)
      · rw [decide_eq_false (show ¬ c x ≤ n + 1 by (first | lia | omega)), decide_eq_false h, decide_eq_false (show ¬ ((c x : Nat) : Int) = ((n + 1 : Nat) : Int) by (first | lia | omega))]
        simp only [Bool.false_eq_true, if_false]; (first | lia | omega)
theorem place_cnt {U : List Int} {c : Int → Nat} (h : ∀ x ∈ U, 1 ≤ c x) : ∀ i, i ≤ 16 → placeAt (cU U c) i = ((U.filter fun x => decide (c x ≤ i)).length : Int)
  | 0, _ => by
    have e : (U.filter fun x => decide (c x ≤ 0)) = [] := List.filter_eq_nil_iff.mpr fun x hx => by have := h x hx; simp; (first | lia | omega)
    rw [e]; rfl
  | i + 1, hi => by
    rw [placeAt, place_cnt h i (by (first | lia | omega)), cU_get (by (first | lia | omega)), cnt_succ]
    (first | lia | omega)
theorem cU_sum {U : List Int} {c : Int → Nat} (h : ∀ x ∈ U, 1 ≤ c x ∧ c x ≤ 16) : (cU U c).sum = (U.length : Int) := by
  have h1 := place_cnt (fun x hx => (h x hx).1) 16 (Nat.le_refl _)
  rw [placeAt_eq, List.take_of_length_le (by rw [cU_len]; exact Nat.le_refl _)] at h1
  rw [h1, List.filter_eq_self.mpr fun x hx => by have := (h x hx).2; simpa using this]
theorem least_in (c : Int → Nat) : ∀ {U : List Int}, U ≠ [] → ∃ x ∈ U, ∀ y ∈ U, c x ≤ c y
  | [], h => absurd rfl h
  | [x], _ => ⟨x, .head _, fun y hy => by rw [List.mem_singleton.mp hy]; exact Nat.le_refl _⟩
  | x :: z :: U, _ => by
    obtain ⟨m, hm, hl⟩ := least_in c (U := z :: U) (by simp)
    by_cases h : c x ≤ c m
    · refine ⟨x, .head _, fun y hy => ?_⟩
      rcases List.mem_cons.mp hy with rfl | hy
      · exact Nat.le_refl _
      · exact Nat.le_trans h (hl y hy)
    · refine ⟨m, .tail _ hm, fun y hy => ?_⟩
      rcases List.mem_cons.mp hy with rfl | hy
      · (first | lia | omega)
      · exact hl y hy
theorem cU_low {U : List Int} {c : Int → Nat} {s0 : Int} (h16 : s0 ≤ 16) (hl : ∀ y ∈ U, s0 ≤ ((c y : Nat) : Int)) : ∀ j : Nat, (j : Int) < s0 - 1 → (cU U c).getD j 0 = 0 := by
  intro j hj
  rw [cU_get (by (first | lia | omega))]
  have e : (U.filter fun x => decide (((c x : Nat) : Int) = ((j + 1 : Nat) : Int))) = [] := List.filter_eq_nil_iff.mpr fun x hx => by have := hl x hx; simp; (first | lia | omega)
  rw [e]; rfl
theorem cU_at {U : List Int} {c : Int → Nat} {x : Int} (hx : x ∈ U) (h : 1 ≤ c x ∧ c x ≤ 16) : 0 < (cU U c).getD (((c x : Nat) : Int) - 1).toNat 0 := by
  rw [cU_get (by (first | lia | omega))]
  have hm : x ∈ U.filter fun y => decide (((c y : Nat) : Int) = (((((c x : Nat) : Int) - 1).toNat + 1 : Nat) : Int)) := List.mem_filter.mpr ⟨hx, decide_eq_true (by (first | lia | omega))⟩
  have := List.length_pos_of_mem hm
  (first | lia | omega)
end --T_Pr6

section --T_Law
open PySem PySem.W PyProof.Rows PySem.Spec PySem.Calls
theorem telL_use {w : World} {f : Addr} {k : Nat} {args : List Value} {news : Led} {a1 : Addr} {us : List Value} {Post : Value → Led → Prop} (C : TelL w f k args news a1 us Post)
    {mean : ExcName → Option Value} {mg mb : Str → Option Value} {dp un : Nat} {gd : Option (List Code)} {cn : Str} {cs : Scope} {a : Addr} {ccd : Value} {cl : List (Str × Addr)} {outer : List Env} {A₀ : Around} {base h₀ : Heap} {L : Addr} {m : Str → Option Value} {s : Shared} {Q E : Value → Shared → Prop}
    (B : Below A₀ base outer h₀) (F : Fr h₀ L s.heap m) (X : (hdK w.params).In h₀) (N : News h₀ L s.heap news) (T : Top hdV (looseW hdV []) mean mg mb h₀) (hL : h₀.IsList a1 us.toArray) (hk : cs.kind = .function) (hd : dp + k < recursionLimit) (hu : un + 8 * k < cLine)
    (ret : ∀ r news' h' tk', Fr h₀ L h' m → News h₀ L h' news' → Post r news' → Q r { s with heap := h', toks := tk' }) :
    wpAny (model PySem.Challenge.rw_ok0135_01.row.prog w) (ktrTop dp un gd cn cs L a ccd cl outer) (call (.ref f) args) Q E s :=
  C mean mg mb dp un gd cn cs a ccd cl outer A₀ base h₀ L m s Q E B F X N T hL hk hd hu ret
theorem telT_use {w : World} {f : Addr} {k : Nat} {args : List Value} {news : Led} {Post : Value → Led → Prop} (C : TelT w f k args news Post)
    {mean : ExcName → Option Value} {mg mb : Str → Option Value} {dp un : Nat} {gd : Option (List Code)} {cn : Str} {cs : Scope} {a : Addr} {ccd : Value} {cl : List (Str × Addr)} {A₀ : Around} {base h₀ : Heap} {L : Addr} {m : Str → Option Value} {s : Shared} {Q E : Value → Shared → Prop}
    (B : Below A₀ base [] h₀) (F : Fr h₀ L s.heap m) (X : (hdK w.params).In h₀) (N : News h₀ L s.heap news) (T : Top hdV (looseW hdV []) mean mg mb h₀) (XB : (hdK w.params).In base) (TB : Top hdV (looseW hdV []) mean mg mb base) (hk : cs.kind = .function) (hd : dp + k < recursionLimit) (hu : un + 8 * k < cLine)
    (ret : ∀ r news' h' tk', Fr h₀ L h' m → News h₀ L h' news' → Post r news' → Q r { s with heap := h', toks := tk' }) :
    wpAny (model PySem.Challenge.rw_ok0135_01.row.prog w) (ktrTop dp un gd cn cs L a ccd cl []) (call (.ref f) args) Q E s :=
  C mean mg mb dp un gd cn cs a ccd cl A₀ base h₀ L m s Q E B F X N T XB TB hk hd hu ret
theorem wp_abs {M : Model} {A : Around} {c : Sem Flow} {Q : Flow → Shared → Prop} {E : Value → Shared → Prop} {s : Shared} (R : Flow → Shared → Prop) (h1 : ∀ v s', R v s' → Q v s')
    (h2 : ∀ (Q' : Flow → Shared → Prop), (∀ v s', R v s' → Q' v s') → wpAny M A c Q' (fun _ _ => False) s) : wpAny M A c Q E s := wpAny_mono (h2 Q h1) (fun _ _ x => x) fun _ _ x => x.elim
local macro_rules | `(tactic| k_qdec) => `(tactic| decide +kernel)
theorem top_units : callerA.units + 8 * 20 < cLine := by decide +kernel
theorem top_depth : callerA.depth + 1 + 30 < recursionLimit := by decide +kernel

theorem dat_rep {L : Led} (t : Tok) : ∀ n : Nat, DatAll L (List.replicate n (Value.int 0 t)) (List.replicate n (Dat.int 0))
  | 0 => .nil
  | n + 1 => by rw [List.replicate_succ, List.replicate_succ]; exact .cons (.int _ _) (dat_rep t n)
theorem cts_nil : (cts []).map Dat.int = List.replicate 16 (Dat.int 0) := rfl

theorem forA_range {prog : Program} {w : World} {A : Around} {E : Value → Shared → Prop} {h₀ : Heap} {env : Env} {target : PySem.Expr} {Q : Flow → Shared → Prop} {body : List Stmt} {s₁ : Shared} {m₀ : Str → Option Value} {news : Led} {r : Addr} {a b c : Int} {t u v : Tok} {n : Nat} (hh : A.handled = none) (F : Fr h₀ env.locals s₁.heap m₀) (N : News h₀ env.locals s₁.heap news) (hr : IsRange s₁.heap r a b c t u v) (hsm : Builtin.Range.small a b c = true) (hn : Builtin.Range.rangeSize a b c = (n : Int))
    (hgo : ∀ it v, letOwnedTupleGo target it v = pure ())
    (J : Nat → (Str → Option Value) → Led → Prop) (h0 : J 0 m₀ news)
    (turn : ∀ i v m₁ nx h tk (I : Addr) oI', i < n → (∃ t, v = .int (a + (i : Int) * c) t) → J i m₁ nx → (∀ p ∈ nx, p.1 ≠ I) → Fr h₀ env.locals h m₁ → News h₀ env.locals h ((I, oI') :: nx) →
        wpAny (model prog w) A (assign target env v) (fun _ s₂ => wpAny (model prog w) A (execs body env) (TurnEnd h₀ env.locals I oI' [] (J (i + 1)) Q { s₁ with heap := h, toks := tk }) E s₂) E { s₁ with heap := h, toks := tk })
    (done : ∀ m₁ nx h tk, J n m₁ nx → Fr h₀ env.locals h m₁ → News h₀ env.locals h nx → Q .next { s₁ with heap := h, toks := tk }) : ForSrcA prog w A h₀ env target body Q E (.ref r) s₁ := by
  have I := (ItSrc.range (prog := prog) (w := w) (A := A) (h₀ := h₀) (L := env.locals) hh hr hsm hn).mono (P' := fun i v => ∃ t, v = .int (a + (i : Int) * c) t) fun i v h => h.2
  exact ⟨_, _, [], _, _, _, m₀, news, J, F, N, (fun _ h => nomatch h), I, h0, (fun i v s' Q' E' _ _ _ hq => by rw [hgo]; exact wpAny_pure hq), (fun i v m₁ nx h tk oI' hi hP hJ _ off F' N' => turn i v m₁ nx h tk _ oI' hi hP hJ off F' N'), done⟩
theorem tab_inv {L : Led} {r : Value} {l1 l2 : List Int} (h : DatIn L r (.tuple [.tuple (l1.map .int), .tuple (l2.map .int)])) :
    ∃ (pT : Addr) (n : Nat) (pc : Addr) (vc : List Value) (nc : Nat) (ps : Addr) (vs : List Value) (ns : Nat), r = .ref pT ∧ (pT, tupO [.ref pc, .ref ps] n) ∈ L ∧ (pc, tupL vc nc) ∈ L ∧ IntsAre vc l1 ∧ (ps, tupL vs ns) ∈ L ∧ IntsAre vs l2 := by
  have hJ83 := datTup h
  refine el3_3 hJ83 ?_
  clear hJ83
  rintro a _ n rfl h1 h2
  have hJ84 := datCons h2
  refine el2_3 hJ84 ?_
  clear hJ84
  rintro _ _ rfl h3 h2
  have hJ85 := datCons h2
  refine el2_3 hJ85 ?_
  clear hJ85
  rintro _ _ rfl h4 h2
  obtain rfl := datNil h2
  have hJ86 := datTup h3
  refine el3_3 hJ86 ?_
  clear hJ86
  rintro pc vc nc rfl h5 h6
  have hJ87 := datTup h4
  refine el3_3 hJ87 ?_
  clear hJ87
  rintro ps vs ns rfl h7 h8
  exact ⟨a, n, pc, vc, nc, ps, vs, ns, rfl, h1, h5, ints_of h6, h7, ints_of h8⟩
theorem dI_getN {prog : Program} {w : World} {A : Around} {E : Value → Shared → Prop} {h₀ : Heap} {L : Addr} {s : Shared} {news : Led} {d : Addr} {o : Obj} {D : List (Int × Int)} {k : Int} {t : Tok} {Q : Value → Shared → Prop} (N : News h₀ L s.heap news) (hp : (d, o) ∈ news) (hd : DictI prog w o D) (lo : (d == sysModules) = false) (hl : look D k = none) (h : Q .none { s with toks := s.toks + 1 }) :
    wpAny (model prog w) A (call (.builtin "dict.get") [.ref d, .int k t]) Q E s :=
  dI_get1 N hp hd lo (fun _ => h) (fun v t' e => by rw [hl] at e; cases e)
theorem dI_getS {prog : Program} {w : World} {A : Around} {E : Value → Shared → Prop} {h₀ : Heap} {L : Addr} {s : Shared} {news : Led} {d : Addr} {o : Obj} {D : List (Int × Int)} {k v : Int} {t : Tok} {Q : Value → Shared → Prop} (N : News h₀ L s.heap news) (hp : (d, o) ∈ news) (hd : DictI prog w o D) (lo : (d == sysModules) = false) (hl : look D k = some v) (h : ∀ t', Q (.int v t') { s with toks := s.toks + 1 }) :
    wpAny (model prog w) A (call (.builtin "dict.get") [.ref d, .int k t]) Q E s :=
  dI_get1 N hp hd lo (fun e => by rw [hl] at e; cases e) (fun v' t' e => by rw [hl] at e; injection e with e; subst e; exact h t')
local macro_rules | `(tactic| walk_at "call builtin:dict.get") => `(tactic| (k_here; (first
  | ((with_reducible show wpAny _ _ (call (Value.builtin _) [Value.ref _, Value.int _ _]) _ _ _); k_dflt (refine' dI_getN ?k1 ?k2 ?k3 ?k4 ?k5 ?_; (case k1 => k_asm); (case k2 => k_mem); (case k3 => assumption); (case k4 => assumption); (case k5 => assumption); k_whole))
  | ((with_reducible show wpAny _ _ (call (Value.builtin _) [Value.ref _, Value.int _ _]) _ _ _); k_dflt (refine' dI_getS ?k1 ?k2 ?k3 ?k4 ?k5 ?_; (case k1 => k_asm); (case k2 => k_mem); (case k3 => assumption); (case k4 => assumption); (case k5 => assumption); k_whole); intro t'))))

set_option maxRecDepth 100000 in
set_option maxHeartbeats 8000000 in
theorem law_whole : PySem.Challenge.rw_ok0135_01.Holds := by
  refine holds_law said_ok fun said => ?_
  refine PySem.W.holds_open (q := hdV) (loose := []) (Xt := fun s => xlAt hdV [] s && recOk PySem.Challenge.rw_ok0135_01.row.records s) (XP := XL hdV []) (Yf := (kHook hdK hdA hdE).obs) (Ya := (kHook hdK hdA hdE).val) (YP := (kHook hdK hdA hdE).says) (N := 3024) left_ok (kHook hdK hdA hdE).of (kHook hdK hdA hdE).keeps (fun s e => xl_of s (Bool.and_eq_true_iff.mp e).1) XL.keeps (by rfl) (by rfl) (by rfl) (fun s e => recFacts_of (Bool.and_eq_true_iff.mp e).2) (by rfl) said ok_ok bare_ok prom_ok ?_
  clear said
  k_go0
  rename_i w s0 s1 mg mb G Y fa ol pm doc ho hg KX XM V GL T B TE TW wA wO M wB wC hcd ns hs hlay0 hL0 hr0 hl2 wa wb sc us wc hL ra w1 r0 hI hr1 hlen hct K0 hD h1 tk1 F1 oz ot ou of om dz dt du df dm N1 X0
  dsimp only
  generalize hLe : s1.heap.objs.size = L' at F1 N1 X0 dz dt du df dm ⊢
  have hcz : oz.data = .cell none := dz
  have hct : ot.data = .cell none := dt
  have hcu : ou.data = .cell none := du
  have hcf : of.data = .cell none := df
  have hcm : om.data = .cell none := dm
  have F2 : Fr s1.heap L' h1 (fun y => if y = Str.ofString "script" then some (Value.ref sc) else none) := F1
  have hns : ns.length ≤ 63 := by (first | lia | omega)
  clear F1 dz dt du df dm X0 hD hcd hs hlay0 hL0 hr0 hl2 ra w1 r0 hr1 ho M TE TW B V XM G Y GL hlen
  refine wp_abs (fun v s' => ∃ h tk m, v = Flow.ret (.bool true) ∧ s' = { s1 with heap := h, toks := tk } ∧ Fr s1.heap L' h m) ?_ ?_
  · rintro v s' ⟨h, tk, m, rfl, rfl, F⟩
    (k_end; wrow_close)
  intro Qz hret
  (try k_fold)
  repeat' (first | (k_unfold; (try dsimp only)) | (k_end; wrow_close) | (exact hret _ _ ⟨_, _, _, rfl, rfl, by assumption⟩) | (fail_if_success (with_reducible show wpAny _ _ (exec (Stmt.For _ _ _ _ _) _) _ _ _)); (fail_if_success (with_reducible show wpAny _ _ (compareOp _ (Value.ref _) (Value.ref _)) _ _ _)); (fail_if_success (with_reducible show wpAny _ _ (call (Value.ref _) _) _ _ _)); first | walk1 | (dsimp only; walk1) | (leave1; walk_say "STEP leave1"; try dsimp only) | fail "no step")
  have K1 : Below callerA s1.heap [] s1.heap := K0
  have hun := top_units
  have hdp := top_depth
  with_unfolding_all refine' telL_use (pool_tel w hI hns) K1 F2 KX N1 T hL rfl ?hd ?hu ?_
  case hd => first | exact room1 hdp (by decide) | exact Nat.lt_of_le_of_lt (by (first | lia | omega)) hdp
  case hu => first | exact room2 hun (by decide) | exact Nat.lt_of_le_of_lt (by (first | lia | omega)) hun
  rintro r1 news1 h2 tk2 F3 N3 hJ2
  refine el1_3 hJ2 ?_
  clear hJ2
  rintro src rfl hJ3
  refine el5_4 hJ3 ?_
  clear hJ3
  rintro x0 y0 t0 u0 n0 rfl p1 p2 p3 hsrc
  clear F2 N1
  have sn5 : @Ne Nat (L' + 1 + 1 + 1 + 1 + 1) src := hsrc _ (.head _)
  have sn4 : @Ne Nat (L' + 1 + 1 + 1 + 1) src := hsrc _ (.tail _ (.head _))
  have sn3 : @Ne Nat (L' + 1 + 1 + 1) src := hsrc _ (.tail _ (.tail _ (.head _)))
  have sn2 : @Ne Nat (L' + 1 + 1) src := hsrc _ (.tail _ (.tail _ (.tail _ (.head _))))
  have sn1 : @Ne Nat (L' + 1) src := hsrc _ (.tail _ (.tail _ (.tail _ (.tail _ (.head _)))))
  (try k_fold)
  repeat' (first | (k_unfold; (try dsimp only)) | (k_end; wrow_close) | (exact hret _ _ ⟨_, _, _, rfl, rfl, by assumption⟩) | (fail_if_success (with_reducible show wpAny _ _ (exec (Stmt.For _ _ _ _ _) _) _ _ _)); (fail_if_success (with_reducible show wpAny _ _ (compareOp _ (Value.ref _) (Value.ref _)) _ _ _)); (fail_if_success (with_reducible show wpAny _ _ (call (Value.ref _) _) _ _ _)); first | walk1 | (dsimp only; walk1) | (leave1; walk_say "STEP leave1"; try dsimp only) | fail "no step")
  rename Fr s1.heap _ _ _ => F4
  rename News s1.heap _ _ _ => N4
  with_unfolding_all refine' tel_use (take_tel w p1 p2 p3 (by decide) (by decide) hsrc) K1 F4 KX N4 T rfl ?hd ?hu ?_
  case hd => first | exact room1 hdp (by decide) | exact Nat.lt_of_le_of_lt (by (first | lia | omega)) hdp
  case hu => first | exact room2 hun (by decide) | exact Nat.lt_of_le_of_lt (by (first | lia | omega)) hun
  rintro r2 news2 h3 tk3 F5 N5 hJ4
  refine el2_4 hJ4 ?_
  clear hJ4
  rintro d4 td4 rfl hd40 hd44 hJ5
  refine el5_4 hJ5 ?_
  clear hJ5
  rintro x1 y1 t1 u1 n1 rfl q1 q2 q3
  clear F4 N4
  (try k_fold)
  repeat' (first | (k_unfold; (try dsimp only)) | (k_end; wrow_close) | (exact hret _ _ ⟨_, _, _, rfl, rfl, by assumption⟩) | (fail_if_success (with_reducible show wpAny _ _ (exec (Stmt.For _ _ _ _ _) _) _ _ _)); (fail_if_success (with_reducible show wpAny _ _ (compareOp _ (Value.ref _) (Value.ref _)) _ _ _)); (fail_if_success (with_reducible show wpAny _ _ (call (Value.ref _) _) _ _ _)); first | walk1 | (dsimp only; walk1) | (leave1; walk_say "STEP leave1"; try dsimp only) | fail "no step")
  rename Fr s1.heap _ _ _ => F6
  rename News s1.heap _ _ _ => N6
  rename_i ha tka fd hb fo lof hsf fsf hif fif lf Dt hc lD hd1 he om2 dm2 hf of2 df2
  have hJ6 : ∃ l : Led, l = (Dt, tupL [.int (1 + d4) tk3, .ref fd] 0) :: (L' + 1 + 1 + 1 + 1 + 1, oz) :: (L' + 1 + 1 + 1 + 1, ot) :: (L' + 1 + 1 + 1, ou) :: (L' + 1 + 1, of2) :: [(L' + 1, om2)] := ⟨_, rfl⟩
  refine el1_1 hJ6 ?_
  clear hJ6
  rintro restC hrestC
  have lf1 : @LT.lt Nat _ src fd := lf.1
  have lD1 : @LT.lt Nat _ src Dt := lD.2.1
  have lD0 : @LT.lt Nat _ fd Dt := lD.1
  have hrs : ∀ p ∈ restC, p.1 ≠ src := by
    rw [hrestC]
    simp only [List.forall_mem_cons]
    exact ⟨Nat.ne_of_gt lD1, sn5, sn4, sn3, sn2, sn1, fun _ h => nomatch h⟩
  have hrf : ∀ p ∈ restC, p.1 ≠ fd := by
    rw [hrestC]
    simp only [List.forall_mem_cons]
    exact ⟨Nat.ne_of_gt lD0, Nat.ne_of_lt lf.2.1, Nat.ne_of_lt lf.2.2.1, Nat.ne_of_lt lf.2.2.2.1, Nat.ne_of_lt lf.2.2.2.2.1, Nat.ne_of_lt lf.2.2.2.2.2, fun _ h => nomatch h⟩
  have hsr2 : ∀ p ∈ ((fd, fo) :: restC), p.1 ≠ src := List.forall_mem_cons.mpr ⟨Nat.ne_of_gt lf1, hrs⟩
  have N7 : News s1.heap L' hf ((src, listOf #[.int x1 t1, .int y1 u1] n1) :: (fd, fo) :: restC) := fun p hp => N6 p (by
    revert hp p; walk_at "sub")
  clear N6
  with_unfolding_all refine' tel_use (take_tel w q1 q2 q3 (by decide) (by decide) hsr2) K1 F6 KX N7 T rfl ?hd ?hu ?_
  case hd => first | exact room1 hdp (by decide) | exact Nat.lt_of_le_of_lt (by (first | lia | omega)) hdp
  case hu => first | exact room2 hun (by decide) | exact Nat.lt_of_le_of_lt (by (first | lia | omega)) hun
  rintro r3 news3 h4 tk4 F8 N8 hJ7
  refine el2_4 hJ7 ?_
  clear hJ7
  rintro lk tl4 rfl hlk0 hlk12 hJ8
  refine el5_4 hJ8 ?_
  clear hJ8
  rintro x2 y2 t2 u2 n2 rfl q4 q5 q6
  clear F6 N7
  (try k_fold)
  repeat' (first | (k_unfold; (try dsimp only)) | (k_end; wrow_close) | (exact hret _ _ ⟨_, _, _, rfl, rfl, by assumption⟩) | (fail_if_success (with_reducible show wpAny _ _ (exec (Stmt.For _ _ _ _ _) _) _ _ _)); (fail_if_success (with_reducible show wpAny _ _ (compareOp _ (Value.ref _) (Value.ref _)) _ _ _)); (fail_if_success (with_reducible show wpAny _ _ (call (Value.ref _) _) _ _ _)); first | walk1 | (dsimp only; walk1) | (leave1; walk_say "STEP leave1"; try dsimp only) | fail "no step")
  as_aux_lemma =>
    w_top off
    refine my_forS s1.heap (by rfl) (by rfl) ?_
    (try k_fold)
    repeat' (first | (k_unfold; (try dsimp only)) | (k_end; wrow_close) | (exact hret _ _ ⟨_, _, _, rfl, rfl, by assumption⟩) | (fail_if_success (with_reducible show wpAny _ _ (exec (Stmt.For _ _ _ _ _) _) _ _ _)); (fail_if_success (with_reducible show wpAny _ _ (compareOp _ (Value.ref _) (Value.ref _)) _ _ _)); (fail_if_success (with_reducible show wpAny _ _ (call (Value.ref _) _) _ _ _)); first | walk1 | (dsimp only; walk1) | (leave1; walk_say "STEP leave1"; try dsimp only) | fail "no step")
    rename Fr s1.heap _ _ _ => F9
    rename News s1.heap _ _ _ => N9
    with_unfolding_all refine' tel_use (take_tel w q4 q5 q6 (by decide) (by decide) hsr2) K1 F9 KX N9 T rfl ?hd ?hu ?_
    case hd => first | exact room1 hdp (by decide) | exact Nat.lt_of_le_of_lt (by (first | lia | omega)) hdp
    case hu => first | exact room2 hun (by decide) | exact Nat.lt_of_le_of_lt (by (first | lia | omega)) hun
    rintro r4 news4 h5 tk5 F10 N10 hJ9
    refine el2_4 hJ9 ?_
    clear hJ9
    rintro d5 td5 rfl hd50 hd55 hJ10
    refine el5_4 hJ10 ?_
    clear hJ10
    rintro x3 y3 t3 u3 n3 rfl q7 q8 q9
    clear F9 N9
    (try k_fold)
    repeat' (first | (k_unfold; (try dsimp only)) | (k_end; wrow_close) | (exact hret _ _ ⟨_, _, _, rfl, rfl, by assumption⟩) | (fail_if_success (with_reducible show wpAny _ _ (exec (Stmt.For _ _ _ _ _) _) _ _ _)); (fail_if_success (with_reducible show wpAny _ _ (compareOp _ (Value.ref _) (Value.ref _)) _ _ _)); (fail_if_success (with_reducible show wpAny _ _ (call (Value.ref _) _) _ _ _)); first | walk1 | (dsimp only; walk1) | (leave1; walk_say "STEP leave1"; try dsimp only) | fail "no step")
    rename IsRange _ _ _ _ _ _ _ _ => rgX
    rename Fr s1.heap _ _ _ => F11
    rename News s1.heap _ _ _ => N11
    have hD0 : DictI PySem.Challenge.rw_ok0135_01.row.prog w fo [] := ⟨[], hif, .nil⟩
    have hmc : (L' + 1 + 1, of2) ∈ restC := by walk_at "mem"
    refine for_range (n := (1 + d5).toNat) rfl F11 N11 rgX (rgD (by (first | lia | omega)) (by (first | lia | omega))) rgD' (fun i m nx => ∃ (o : Obj) (D : List (Int × Int)) (x y : Int) (t u : Tok) (n : Nat) (rest : Led) (v : Str → Option Value), m = (fun z => if z = Str.ofString "like" then some (.int lk tl4) else if z = Str.ofString "source" then some (.ref src) else v z) ∧
        nx = (src, listOf #[.int x t, .int y u] n) :: (fd, o) :: rest ∧ Grown restC rest ∧ (∀ p ∈ rest, p.1 ≠ src) ∧ (∀ p ∈ rest, p.1 ≠ fd) ∧ DictI PySem.Challenge.rw_ok0135_01.row.prog w o D ∧ D.map (·.1) = (List.range i).map (fun k : Nat => 7 * (k : Int)) ∧ (∀ p ∈ D, 0 ≤ p.2 ∧ p.2 ≤ 30) ∧ 0 ≤ x ∧ 0 ≤ y ∧ y < 2147483647)
      ⟨fo, [], x3, y3, t3, u3, n3, restC, _, fmH2 rfl rfl, rfl, .refl _, hrs, hrf, hD0, rfl, (fun _ h => nomatch h), q7, q8, q9⟩ ?turn ?done
    case turn =>
      rintro i v m₁ nx h tk I oI' hi hJ11
      refine el1_1 hJ11 ?_
      clear hJ11
      rintro t9 rfl hJ12
      refine el9_11 hJ12 ?_
      clear hJ12
      rintro o D x4 y4 t4 u4 n4 rest v4 rfl rfl hg hs4 hf4 hD hDk hDv j1 j2 j3 hS off F12 N12
      have hsI : ∀ p ∈ ((I, oI') :: (fd, o) :: rest), p.1 ≠ src := List.forall_mem_cons.mpr ⟨Ne.symm (off _ (.head _)), List.forall_mem_cons.mpr ⟨Nat.ne_of_gt lf1, hs4⟩⟩
      have N13 : News s1.heap L' h ((src, listOf #[.int x4 t4, .int y4 u4] n4) :: (I, oI') :: (fd, o) :: rest) := fun p hp => N12 p (by
        revert hp p; walk_at "sub")
      have hmcr : (L' + 1 + 1, of2) ∈ rest := hg.sub _ hmc
      have e3 : (0 : Int) + (i : Int) * 1 = (i : Int) := by (first | lia | omega)
      rw [e3] at F12
      have hDl : D.length = i := by have := congrArg List.length hDk; simpa using this
      have hfI : @Ne Nat fd I := off _ (.tail _ (.head _))
      clear F11 N11 N12
      (try k_fold)
      repeat' (first | (k_unfold; (try dsimp only)) | (k_end; wrow_close) | (exact hret _ _ ⟨_, _, _, rfl, rfl, by assumption⟩) | (fail_if_success (with_reducible show wpAny _ _ (exec (Stmt.For _ _ _ _ _) _) _ _ _)); (fail_if_success (with_reducible show wpAny _ _ (compareOp _ (Value.ref _) (Value.ref _)) _ _ _)); (fail_if_success (with_reducible show wpAny _ _ (call (Value.ref _) _) _ _ _)); first | walk1 | (dsimp only; walk1) | (leave1; walk_say "STEP leave1"; try dsimp only) | fail "no step")
      with_unfolding_all refine' tel_use (take_tel w j1 j2 j3 (by decide) (by decide) hsI) K1 F12 KX N13 T rfl ?hd ?hu ?_
      case hd => first | exact room1 hdp (by decide) | exact Nat.lt_of_le_of_lt (by (first | lia | omega)) hdp
      case hu => first | exact room2 hun (by decide) | exact Nat.lt_of_le_of_lt (by (first | lia | omega)) hun
      rintro r6 news6 h6 tk6 F14 N14 hJ13
      refine el2_4 hJ13 ?_
      clear hJ13
      rintro d30 td30 rfl hd300 hd3030 hJ14
      refine el5_4 hJ14 ?_
      clear hJ14
      rintro x5 y5 t5 u5 n5 rfl q10 q11 q12
      clear F12 N13
      (try k_fold)
      repeat' (first | (k_unfold; (try dsimp only)) | (k_end; wrow_close) | (exact hret _ _ ⟨_, _, _, rfl, rfl, by assumption⟩) | (fail_if_success (with_reducible show wpAny _ _ (exec (Stmt.For _ _ _ _ _) _) _ _ _)); (fail_if_success (with_reducible show wpAny _ _ (compareOp _ (Value.ref _) (Value.ref _)) _ _ _)); (fail_if_success (with_reducible show wpAny _ _ (call (Value.ref _) _) _ _ _)); first | walk1 | (dsimp only; walk1) | (leave1; walk_say "STEP leave1"; try dsimp only) | fail "no step")
      rename Fr s1.heap _ _ _ => F15
      rename News s1.heap _ _ _ => N15
      rename_i li hxa ll1
      have hlsrc : @LT.lt Nat _ src li := ll1.1
      have hlfd : @LT.lt Nat _ fd li := ll1.2.2.1
      have hJ15 : ∃ l : List Int, l = [0, lk, 1 + d30, 1 + lk] := ⟨_, rfl⟩
      refine el1_1 hJ15 ?_
      clear hJ15
      rintro ls hls
      have hlsl : ls.length = 4 := by rw [hls]; rfl
      have hlsv : ∀ k : Nat, k < 4 → 0 ≤ ls.getD k 0 ∧ ls.getD k 0 ≤ 30 := by
        intro k hk
        rw [hls]
        match k, hk with
        | 0, _ => exact ⟨Int.le_refl 0, (by decide : (0 : Int) ≤ 30)⟩
        | 1, _ => exact ⟨hlk0, by show lk ≤ 30; (first | lia | omega)⟩
        | 2, _ => exact ⟨by show 0 ≤ 1 + d30; (first | lia | omega), by show 1 + d30 ≤ 30; (first | lia | omega)⟩
        | 3, _ => exact ⟨by show 0 ≤ 1 + lk; (first | lia | omega), by show 1 + lk ≤ 30; (first | lia | omega)⟩
      have hJ16 := news_head N15
      refine el1_2 hJ16 ?_
      clear hJ16
      rintro y4l hy4l N15b
      obtain ⟨vs4, hvs4, hint⟩ : ∃ vs, y4l = (li, listOf vs.toArray 0) ∧ IntsAre vs ls := ⟨_, hy4l, by rw [hls]; exact .cons _ _ (.cons _ _ (.cons _ _ (.cons _ _ .nil)))⟩
      rw [hvs4] at N15b
      clear N15 hy4l hvs4
      have hsl : ∀ p ∈ ((li, listOf vs4.toArray 0) :: (I, oI') :: (fd, o) :: rest), p.1 ≠ src := List.forall_mem_cons.mpr ⟨Nat.ne_of_gt hlsrc, hsI⟩
      have N16 : News s1.heap L' hxa ((src, listOf #[.int x5 t5, .int y5 u5] n5) :: (li, listOf vs4.toArray 0) :: (I, oI') :: (fd, o) :: rest) := fun p hp => N15b p (by
        revert hp p; walk_at "sub")
      clear N15b
      with_unfolding_all refine' tel_use (take_tel w q10 q11 q12 (by decide) (by decide) hsl) K1 F15 KX N16 T rfl ?hd ?hu ?_
      case hd => first | exact room1 hdp (by decide) | exact Nat.lt_of_le_of_lt (by (first | lia | omega)) hdp
      case hu => first | exact room2 hun (by decide) | exact Nat.lt_of_le_of_lt (by (first | lia | omega)) hun
      rintro r7 news7 h7 tk7 F16 N17 hJ17
      refine el2_4 hJ17 ?_
      clear hJ17
      rintro d3 td3 rfl hd30' hd34 hJ18
      refine el5_4 hJ18 ?_
      clear hJ18
      rintro x6 y6 t6 u6 n6 rfl q13 q14 q15
      clear F15 N16
      (try k_fold)
      repeat' (first | (k_unfold; (try dsimp only)) | (k_end; wrow_close) | (exact hret _ _ ⟨_, _, _, rfl, rfl, by assumption⟩) | (fail_if_success (with_reducible show wpAny _ _ (exec (Stmt.For _ _ _ _ _) _) _ _ _)); (fail_if_success (with_reducible show wpAny _ _ (compareOp _ (Value.ref _) (Value.ref _)) _ _ _)); (fail_if_success (with_reducible show wpAny _ _ (call (Value.ref _) _) _ _ _)); first | walk1 | (dsimp only; walk1) | (leave1; walk_say "STEP leave1"; try dsimp only) | fail "no step")
      rename Fr s1.heap _ _ _ => F17
      rename News s1.heap _ _ _ => N18
      have hkeys : ∀ p ∈ D, ∃ k : Nat, k < i ∧ p.1 = 7 * (k : Int) := by
        intro p hp
        have := List.mem_map_of_mem (f := (·.1)) hp
        rw [hDk] at this
        have hJ19 := List.mem_map.mp this
        refine el1_2 hJ19 ?_
        clear hJ19
        rintro k hk e
        exact ⟨k, List.mem_range.mp hk, e.symm⟩
      have hnew : (D.any fun p => p.1 = 7 * (i : Int)) = false := by
        rw [List.any_eq_false]
        intro p hp
        have hJ20 := hkeys p hp
        refine el1_2 hJ20 ?_
        clear hJ20
        rintro k hk e
        simp only [decide_eq_true_eq]; (first | lia | omega)
      have hdpn : dput D (7 * (i : Int)) (ls.getD d3.toNat 0) = D ++ [(7 * (i : Int), ls.getD d3.toNat 0)] := dput_new _ _ _ hnew
      have hvv := hlsv d3.toNat (by (first | lia | omega))
      refine ⟨_, _, _, (src, listOf #[.int x6 t6, .int y6 u6] n6) :: (fd, _) :: (li, listOf vs4.toArray 0) :: rest, rfl, F17, fun p hp => N18 p ?_, ?_, (fun _ h => nomatch h), ⟨_, D ++ [(7 * (i : Int), ls.getD d3.toNat 0)], x6, y6, t6, u6, n6, (li, listOf vs4.toArray 0) :: rest, _, fmH2 rfl rfl, rfl, hg.cons (fun q hq => tb_ltOf ll1.2.2.2 q (hg.sub _ hq)), List.forall_mem_cons.mpr ⟨Nat.ne_of_gt hlsrc, hs4⟩, List.forall_mem_cons.mpr ⟨Nat.ne_of_gt hlfd, hf4⟩, by rw [← hdpn]; assumption, ?_, ?_, q13, q14, q15⟩⟩
      · revert hp p; walk_at "sub"
      · have hsIn : @Ne Nat src I := off _ (.head _)
        refine List.forall_mem_cons.mpr ⟨hsIn, List.forall_mem_cons.mpr ⟨hfI, List.forall_mem_cons.mpr ⟨Nat.ne_of_gt ll1.2.1, fun p hp => off p (.tail _ (.tail _ hp))⟩⟩⟩
      · rw [List.map_append, hDk, List.range_succ, List.map_append]; rfl
      · intro p hp
        rcases List.mem_append.mp hp with hp | hp
        · exact hDv p hp
        · rw [List.mem_singleton.mp hp]; exact hvv
    case done =>
      rintro m₁ nx h tk hJ21
      refine el9_11 hJ21 ?_
      clear hJ21
      rintro fo2 D x4 y4 t4 u4 n4 rest v4 rfl rfl hg hs4 hf4 hD hDk hDv j1 j2 j3 hS F12 N12
      clear F11 N11 hS
      have hDl : D.length = (1 + d5).toNat := by have := congrArg List.length hDk; simpa using this
      have hD5 : 1 ≤ D.length ∧ D.length ≤ 5 := by (first | lia | omega)
      have hkeys : ∀ p ∈ D, ∃ k : Nat, k < 5 ∧ p.1 = 7 * (k : Int) := by
        intro p hp
        have := List.mem_map_of_mem (f := (·.1)) hp
        rw [hDk] at this
        have hJ22 := List.mem_map.mp this
        refine el1_2 hJ22 ?_
        clear hJ22
        rintro k hk e
        exact ⟨k, by have := List.mem_range.mp hk; (first | lia | omega), e.symm⟩
      have hJ23 := hg
      refine el1_2 hJ23 ?_
      clear hJ23
      try clear hg
      rintro tlG eG nG
      have hcL : ∀ (d : Addr) (oo : Obj), (d, oo) ∈ restC → d ≠ Dt → ∀ p ∈ ((fd, fo2) :: (Dt, tupL [.int (1 + d4) tk3, .ref fd] 0) :: tlG), p.1 ≠ d := by
        intro d oo hd' hdD
        refine List.forall_mem_cons.mpr ⟨Ne.symm (hrf _ hd'), List.forall_mem_cons.mpr ⟨Ne.symm hdD, fun p hp => Ne.symm (nG p hp _ hd')⟩⟩
      have hJ24 : ∃ b : Led, b = (fd, fo2) :: (Dt, tupL [.int (1 + d4) tk3, .ref fd] 0) :: tlG := ⟨_, rfl⟩
      refine el1_1 hJ24 ?_
      clear hJ24
      rintro base hbase
      rw [← hbase] at hcL
      have nb5 : ∀ p ∈ base, p.1 ≠ L' + 1 + 1 + 1 + 1 + 1 := hcL _ oz (by walk_at "mem") (Nat.ne_of_lt lD.2.2.1)
      have nb4 : ∀ p ∈ base, p.1 ≠ L' + 1 + 1 + 1 + 1 := hcL _ ot (by walk_at "mem") (Nat.ne_of_lt lD.2.2.2.1)
      have nb3 : ∀ p ∈ base, p.1 ≠ L' + 1 + 1 + 1 := hcL _ ou (by walk_at "mem") (Nat.ne_of_lt lD.2.2.2.2.1)
      have nb2 : ∀ p ∈ base, p.1 ≠ L' + 1 + 1 := hcL _ of2 (by walk_at "mem") (Nat.ne_of_lt lD.2.2.2.2.2.1)
      have nb1 : ∀ p ∈ base, p.1 ≠ L' + 1 := hcL _ om2 (by walk_at "mem") (Nat.ne_of_lt lD.2.2.2.2.2.2)
      have nbs : ∀ p ∈ base, p.1 ≠ src := by
        rw [hbase]
        refine List.forall_mem_cons.mpr ⟨Nat.ne_of_gt lf1, List.forall_mem_cons.mpr ⟨Nat.ne_of_gt lD1, fun p hp => hs4 p (by rw [eG]; exact List.mem_append_left _ hp)⟩⟩
      have hfm : (fd, fo2) ∈ base := by rw [hbase]; exact .head _
      have N13 : News s1.heap L' h ((src, listOf #[.int x4 t4, .int y4 u4] n4) :: (L' + 1 + 1 + 1 + 1 + 1, oz) :: (L' + 1 + 1 + 1 + 1, ot) :: (L' + 1 + 1 + 1, ou) :: (L' + 1 + 1, of2) :: (L' + 1, om2) :: base) := fun p hp => N12 p (by
        rw [hbase] at hp
        revert hp p; walk_at "sub")
      clear N12 hcL nG eG hs4 hf4 hrestC hrs hrf hsr2 hmc hsrc
      as_aux_lemma =>
        w_top off
        have hJ25 : ∃ n : Nat, (n : Int) = 1 + d4 := ⟨(1 + d4).toNat, by (first | lia | omega)⟩
        refine el1_1 hJ25 ?_
        clear hJ25
        rintro mo hmo
        have hmo1 : 1 ≤ mo := by (first | lia | omega)
        have hmo4 : mo ≤ 4 := by (first | lia | omega)
        rw [← hmo] at dm2
        have hkpos : ∀ p ∈ D, 0 ≤ p.1 := fun p hp => by obtain ⟨k, _, e⟩ := hkeys p hp; (first | lia | omega)
        (try k_fold)
        repeat' (first | (k_unfold; (try dsimp only)) | (k_end; wrow_close) | (exact hret _ _ ⟨_, _, _, rfl, rfl, by assumption⟩) | (fail_if_success (with_reducible show wpAny _ _ (exec (Stmt.For _ _ _ _ _) _) _ _ _)); (fail_if_success (with_reducible show wpAny _ _ (compareOp _ (Value.ref _) (Value.ref _)) _ _ _)); (fail_if_success (with_reducible show wpAny _ _ (call (Value.ref _) _) _ _ _)); first | walk1 | (dsimp only; walk1) | (leave1; walk_say "STEP leave1"; try dsimp only) | fail "no step")
        have hJ26 : ∃ b : Led, b = (src, listOf #[.int x4 t4, .int y4 u4] n4) :: (L' + 1 + 1 + 1 + 1 + 1, oz) :: (L' + 1 + 1 + 1 + 1, ot) :: (L' + 1 + 1 + 1, ou) :: (L' + 1 + 1, of2) :: (L' + 1, om2) :: base := ⟨_, rfl⟩
        refine el1_1 hJ26 ?_
        clear hJ26
        rintro all hall
        rw [← hall] at N13
        have am2 : (L' + 1 + 1, of2) ∈ all := by walk_at "mem"
        have afd : (fd, fo2) ∈ all := by walk_at "mem"
        refine srcT_dict (o := fo2) (Ds := D) rfl F12 N13 afd lof hD (by (first | lia | omega)) (fun i ys nw => nw = all ∧ IntsAre ys (usedK (D.take i))) ⟨rfl, .nil⟩ ?turn ?fin
        case turn =>
          rintro i ys nw v I oI C oC D' m₂ h tk E' hi hJ27
          refine el0_2 hJ27 ?_
          clear hJ27
          rintro rfl h7 hJ28
          refine el3_2 hJ28 ?_
          clear hJ28
          rintro k v t rfl hDi hC hx F5 N5 off ne hS
          have hlk : look D k = some v := look_of_mem hD.nodup (List.mem_of_getElem? hDi)
          clear N13
          (try k_fold)
          repeat' (first | (k_unfold; (try dsimp only)) | (k_end; wrow_close) | (exact hret _ _ ⟨_, _, _, rfl, rfl, by assumption⟩) | (fail_if_success (with_reducible show wpAny _ _ (exec (Stmt.For _ _ _ _ _) _) _ _ _)); (fail_if_success (with_reducible show wpAny _ _ (compareOp _ (Value.ref _) (Value.ref _)) _ _ _)); (fail_if_success (with_reducible show wpAny _ _ (call (Value.ref _) _) _ _ _)); first | walk1 | (dsimp only; walk1) | (leave1; walk_say "STEP leave1"; try dsimp only) | fail "no step")
          · rename Fr s1.heap _ _ _ => F9
            rename News s1.heap _ _ _ => N9
            refine cend_0 F9 N9 off hS ⟨rfl, ?_⟩
            rw [usedK_take hDi, if_pos (by assumption)]
            exact h7.append (.cons _ _ .nil)
          · rename Fr s1.heap _ _ _ => F9
            rename News s1.heap _ _ _ => N9
            refine cend_0 F9 N9 off hS ⟨rfl, ?_⟩
            rw [usedK_take hDi, if_neg (by assumption), List.append_nil]
            exact h7
        case fin =>
          rintro g ys nw hJ29
          refine el0_2 hJ29 ?_
          clear hJ29
          rintro rfl h7 hS
          rw [List.take_length] at h7
          unfold LCg.FinE
          intro D1 h tk F5 N5 o1
          clear F12 N13
          have hD1 := off1_mem o1
          rw [hall] at hD1 N5
          simp only [List.forall_mem_cons] at hD1
          have hJ30 := hD1
          refine el0_7 hJ30 ?_
          clear hJ30
          try clear hD1
          rintro z0 z5 z4 z3 z2 z1 zb
          have hJ31 : ∃ b : Led, b = (D1, LCg.lst ys) :: base := ⟨_, rfl⟩
          refine el1_1 hJ31 ?_
          clear hJ31
          rintro base1 hbase1
          have nc5 : ∀ p ∈ base1, p.1 ≠ L' + 1 + 1 + 1 + 1 + 1 := by rw [hbase1]; exact List.forall_mem_cons.mpr ⟨Ne.symm z5, nb5⟩
          have nc4 : ∀ p ∈ base1, p.1 ≠ L' + 1 + 1 + 1 + 1 := by rw [hbase1]; exact List.forall_mem_cons.mpr ⟨Ne.symm z4, nb4⟩
          have nc3 : ∀ p ∈ base1, p.1 ≠ L' + 1 + 1 + 1 := by rw [hbase1]; exact List.forall_mem_cons.mpr ⟨Ne.symm z3, nb3⟩
          have nc2 : ∀ p ∈ base1, p.1 ≠ L' + 1 + 1 := by rw [hbase1]; exact List.forall_mem_cons.mpr ⟨Ne.symm z2, nb2⟩
          have nc1 : ∀ p ∈ base1, p.1 ≠ L' + 1 := by rw [hbase1]; exact List.forall_mem_cons.mpr ⟨Ne.symm z1, nb1⟩
          have ncs : ∀ p ∈ base1, p.1 ≠ src := by rw [hbase1]; exact List.forall_mem_cons.mpr ⟨Ne.symm z0, nbs⟩
          have hfm1 : (fd, fo2) ∈ base1 := by rw [hbase1]; exact .tail _ hfm
          have hum1 : (D1, LCg.lst ys) ∈ base1 := by rw [hbase1]; exact .head _
          have N6 : News s1.heap L' h ((src, listOf #[.int x4 t4, .int y4 u4] n4) :: (L' + 1 + 1 + 1 + 1 + 1, oz) :: (L' + 1 + 1 + 1 + 1, ot) :: (L' + 1 + 1 + 1, ou) :: (L' + 1 + 1, of2) :: (L' + 1, om2) :: base1) := fun p hp => N5 p (by
            revert hp p; walk_at "sub")
          clear N5 hall am2 afd o1 hS
          (try k_fold)
          repeat' (first | (k_unfold; (try dsimp only)) | (k_end; wrow_close) | (exact hret _ _ ⟨_, _, _, rfl, rfl, by assumption⟩) | (fail_if_success (with_reducible show wpAny _ _ (exec (Stmt.For _ _ _ _ _) _) _ _ _)); (fail_if_success (with_reducible show wpAny _ _ (compareOp _ (Value.ref _) (Value.ref _)) _ _ _)); (fail_if_success (with_reducible show wpAny _ _ (call (Value.ref _) _) _ _ _)); first | walk1 | (dsimp only; walk1) | (leave1; walk_say "STEP leave1"; try dsimp only) | fail "no step")
          rename Fr s1.heap _ _ _ => F7
          rename News s1.heap _ _ _ => N7
          rename_i hz7 ou2 du2
          with_unfolding_all refine' telT_use (law_told_tel w (List.mem_cons_of_mem _ (List.mem_cons_of_mem _ (List.mem_cons_of_mem _ (List.mem_cons_of_mem _ (List.mem_cons_of_mem _ (List.mem_cons_of_mem _ hfm1)))))) hD lof (by (first | lia | omega)) hkpos hmo1 hmo4) K1 F7 KX N7 T KX T rfl ?hd ?hu ?_
          case hd => first | exact room1 hdp (by decide) | exact Nat.lt_of_le_of_lt (by (first | lia | omega)) hdp
          case hu => first | exact room2 hun (by decide) | exact Nat.lt_of_le_of_lt (by (first | lia | omega)) hun
          rintro r9 news9 h9 tk9 F8 N8 hJ32
          refine el0_2 hJ32 ?_
          clear hJ32
          rintro hJ33
          refine el1_2 hJ33 ?_
          clear hJ33
          rintro tlT rfl nT hT
          clear F7 N7
          have hJ34 : ∃ b : Led, b = tlT ++ base1 := ⟨_, rfl⟩
          refine el1_1 hJ34 ?_
          clear hJ34
          rintro base2 hbase2
          have nbT : ∀ (d : Addr) (oo : Obj), (d, oo) ∈ ((src, listOf #[.int x4 t4, .int y4 u4] n4) :: (L' + 1 + 1 + 1 + 1 + 1, oz) :: (L' + 1 + 1 + 1 + 1, ot) :: (L' + 1 + 1 + 1, ou2) :: (L' + 1 + 1, of2) :: (L' + 1, om2) :: base1) → (∀ p ∈ base1, p.1 ≠ d) → ∀ p ∈ base2, p.1 ≠ d := by
            intro d oo hd' hb p hp
            rw [hbase2] at hp
            rcases List.mem_append.mp hp with hp | hp
            · exact Ne.symm (nT p hp _ hd')
            · exact hb p hp
          have nd5 := nbT _ oz (.tail _ (.head _)) nc5
          have nd4 := nbT _ ot (.tail _ (.tail _ (.head _))) nc4
          have nd3 := nbT _ ou2 (.tail _ (.tail _ (.tail _ (.head _)))) nc3
          have nd2 := nbT _ of2 (.tail _ (.tail _ (.tail _ (.tail _ (.head _))))) nc2
          have nd1 := nbT _ om2 (.tail _ (.tail _ (.tail _ (.tail _ (.tail _ (.head _)))))) nc1
          have nds := nbT _ _ (.head _) ncs
          have hfm2 : (fd, fo2) ∈ base2 := by rw [hbase2]; exact List.mem_append_right _ hfm1
          have hum2 : (D1, LCg.lst ys) ∈ base2 := by rw [hbase2]; exact List.mem_append_right _ hum1
          have hTb : ∀ p ∈ tlT, p ∈ base2 := fun p hp => by rw [hbase2]; exact List.mem_append_left _ hp
          have N9 : News s1.heap L' h9 ((src, listOf #[.int x4 t4, .int y4 u4] n4) :: (L' + 1 + 1 + 1 + 1 + 1, oz) :: (L' + 1 + 1 + 1 + 1, ot) :: (L' + 1 + 1 + 1, ou2) :: (L' + 1 + 1, of2) :: (L' + 1, om2) :: base2) := fun p hp => N8 p (by
            revert hp p; walk_at "sub")
          clear N8
          have hyl : ys.length = (usedK D).length := h7.length
          have hul : (usedK D).length ≤ 5 := Nat.le_trans (usedK_len D) hD5.2
          have huP : (usedP D).length = (usedK D).length := by simp [usedP, usedK]
          have hrest2 : ∀ (o4 : Obj), ∀ p ∈ ((L' + 1 + 1 + 1 + 1 + 1, oz) :: (L' + 1 + 1 + 1 + 1, o4) :: (L' + 1 + 1 + 1, ou2) :: (L' + 1 + 1, of2) :: (L' + 1, om2) :: base2), p.1 ≠ src := fun o4 => by
            simp only [List.forall_mem_cons]
            exact ⟨sn5, sn4, sn3, sn2, sn1, nds⟩
          rcases hT with ⟨rfl, hPE1, hPE2⟩ | ⟨P', hP, hPs, ⟨Ad, od, rfl, hAd, lAd, hSd⟩, hfit⟩
          · skip
            (try k_fold)
            repeat' (first | (k_unfold; (try dsimp only)) | (k_end; wrow_close) | (exact hret _ _ ⟨_, _, _, rfl, rfl, by assumption⟩) | (fail_if_success (with_reducible show wpAny _ _ (exec (Stmt.For _ _ _ _ _) _) _ _ _)); (fail_if_success (with_reducible show wpAny _ _ (compareOp _ (Value.ref _) (Value.ref _)) _ _ _)); (fail_if_success (with_reducible show wpAny _ _ (call (Value.ref _) _) _ _ _)); first | walk1 | (dsimp only; walk1) | (leave1; walk_say "STEP leave1"; try dsimp only) | fail "no step")
            rename Fr s1.heap _ _ _ => F10
            rename News s1.heap _ _ _ => N10
            rename_i hz10 ot2 dt2
            with_unfolding_all refine' tel_use (right_tel w j1 j2 j3 (hrest2 ot2)) K1 F10 KX N10 T rfl ?hd ?hu ?_
            case hd => first | exact room1 hdp (by decide) | exact Nat.lt_of_le_of_lt (by (first | lia | omega)) hdp
            case hu => first | exact room2 hun (by decide) | exact Nat.lt_of_le_of_lt (by (first | lia | omega)) hun
            rintro r10 news10 h11 tk11 F11 N11 hJ35
            refine el0_2 hJ35 ?_
            clear hJ35
            rintro rfl hkeep
            have N12 : News s1.heap L' h11 ((L' + 1 + 1 + 1 + 1 + 1, oz) :: (L' + 1 + 1 + 1 + 1, ot2) :: (L' + 1 + 1 + 1, ou2) :: (L' + 1 + 1, of2) :: (L' + 1, om2) :: base2) := fun p hp => N11 p (hkeep p hp)
            clear N11 F10 N10
            have huK : usedK D ≠ [] := by
              intro e
              have : (usedP D).length = 0 := by rw [huP, e]; rfl
              exact hPE1 (List.length_eq_zero_iff.mp this)
            (try k_fold)
            repeat' (first | (k_unfold; (try dsimp only)) | (k_end; wrow_close) | (exact hret _ _ ⟨_, _, _, rfl, rfl, by assumption⟩) | (fail_if_success (with_reducible show wpAny _ _ (exec (Stmt.For _ _ _ _ _) _) _ _ _)); (fail_if_success (with_reducible show wpAny _ _ (compareOp _ (Value.ref _) (Value.ref _)) _ _ _)); (fail_if_success (with_reducible show wpAny _ _ (call (Value.ref _) _) _ _ _)); first | walk1 | (dsimp only; walk1) | (leave1; walk_say "STEP leave1"; try dsimp only) | fail "no step")
            rename News s1.heap _ _ _ => N13
            with_unfolding_all refine' ne_dat (r := false) N13 (List.mem_cons_of_mem _ (List.mem_cons_of_mem _ (List.mem_cons_of_mem _ (List.mem_cons_of_mem _ (List.mem_cons_of_mem _ (List.mem_cons_of_mem _ hum2)))))) (dat_ints (L := []) h7) (fun _ h => nomatch h) (.head _) (show DatAll [] [] [] from .nil) (fun _ h => nomatch h) intsD_ok (fun _ h => nomatch h) ?hu (by simp [huK]) ?_
            case hu => first | exact room2 hun (by decide) | (show callerA.units + 3 + _ < _; exact room2 hun (by decide)) | (simp only [units_deeper]; (first | lia | omega))
            (try k_unfold)
            (try dsimp only)
            have hbig : (2 : Int) ^ ((mo : Nat) : Int).toNat < (((usedK D).length : Nat) : Int) + 1 := by
              rw [Int.toNat_natCast]
              have h9 : 2 ^ mo < (usedK D).length + 1 := by rw [← huP]; exact hPE2
              have h10 : ((2 ^ mo : Nat) : Int) < (((usedK D).length + 1 : Nat) : Int) := by exact_mod_cast h9
              push_cast at h10; exact h10
            (try k_fold)
            repeat' (first | (k_unfold; (try dsimp only)) | (k_end; wrow_close) | (exact hret _ _ ⟨_, _, _, rfl, rfl, by assumption⟩) | (fail_if_success (with_reducible show wpAny _ _ (exec (Stmt.For _ _ _ _ _) _) _ _ _)); (fail_if_success (with_reducible show wpAny _ _ (compareOp _ (Value.ref _) (Value.ref _)) _ _ _)); (fail_if_success (with_reducible show wpAny _ _ (call (Value.ref _) _) _ _ _)); first | walk1 | (dsimp only; walk1) | (leave1; walk_say "STEP leave1"; try dsimp only) | fail "no step")
            all_goals exact absurd hbig (by assumption)
          · obtain ⟨kvd, hkd, hKd⟩ := hSd
            have hAd2 : (Ad, od) ∈ base2 := by
              have hnc : ∀ v, od.data ≠ .cell v := fun v e => by
                have hJ37 := hkd
                refine el2_3 hJ37 ?_
                clear hJ37
                try clear hkd
                rintro es n _ e2 _
                rw [e] at e2; cases e2
              rcases List.mem_append.mp hAd with hp | hp
              · exact hTb _ hp
              · simp only [List.mem_cons] at hp
                rcases hp with hp | hp | hp | hp | hp | hp | hp
                · cases hp
                  have hJ38 := hkd
                  refine el2_3 hJ38 ?_
                  clear hJ38
                  try clear hkd
                  rintro es n _ e2 _
                  cases e2
                · cases hp; exact absurd hcz (hnc _)
                · cases hp; exact absurd hct (hnc _)
                · cases hp; exact absurd du2 (hnc _)
                · cases hp; exact absurd df2 (hnc _)
                · cases hp; exact absurd dm2 (hnc _)
                · rw [hbase2]; exact List.mem_append_right _ hp
            replace hSd : DictI PySem.Challenge.rw_ok0135_01.row.prog w od (sizesC mo P') := ⟨kvd, hkd, hKd⟩
            clear hkd hKd
            (try k_fold)
            repeat' (first | (k_unfold; (try dsimp only)) | (k_end; wrow_close) | (exact hret _ _ ⟨_, _, _, rfl, rfl, by assumption⟩) | (fail_if_success (with_reducible show wpAny _ _ (exec (Stmt.For _ _ _ _ _) _) _ _ _)); (fail_if_success (with_reducible show wpAny _ _ (compareOp _ (Value.ref _) (Value.ref _)) _ _ _)); (fail_if_success (with_reducible show wpAny _ _ (call (Value.ref _) _) _ _ _)); first | walk1 | (dsimp only; walk1) | (leave1; walk_say "STEP leave1"; try dsimp only) | fail "no step")
            rename Fr s1.heap _ _ _ => F10
            rename News s1.heap _ _ _ => N10
            rename_i hz10 ot2 dt2
            with_unfolding_all refine' tel_use (right_tel w j1 j2 j3 (hrest2 ot2)) K1 F10 KX N10 T rfl ?hd ?hu ?_
            case hd => first | exact room1 hdp (by decide) | exact Nat.lt_of_le_of_lt (by (first | lia | omega)) hdp
            case hu => first | exact room2 hun (by decide) | exact Nat.lt_of_le_of_lt (by (first | lia | omega)) hun
            rintro r10 news10 h11 tk11 F11 N11 hJ39
            refine el0_2 hJ39 ?_
            clear hJ39
            rintro rfl hkeep
            have N12 : News s1.heap L' h11 ((L' + 1 + 1 + 1 + 1 + 1, oz) :: (L' + 1 + 1 + 1 + 1, ot2) :: (L' + 1 + 1 + 1, ou2) :: (L' + 1 + 1, of2) :: (L' + 1, om2) :: base2) := fun p hp => N11 p (hkeep p hp)
            clear N11 F10 N10 hkeep
            (try k_fold)
            repeat' (first | (k_unfold; (try dsimp only)) | (k_end; wrow_close) | (exact hret _ _ ⟨_, _, _, rfl, rfl, by assumption⟩) | (fail_if_success (with_reducible show wpAny _ _ (exec (Stmt.For _ _ _ _ _) _) _ _ _)); (fail_if_success (with_reducible show wpAny _ _ (compareOp _ (Value.ref _) (Value.ref _)) _ _ _)); (fail_if_success (with_reducible show wpAny _ _ (call (Value.ref _) _) _ _ _)); first | walk1 | (dsimp only; walk1) | (leave1; walk_say "STEP leave1"; try dsimp only) | fail "no step")
            as_aux_lemma =>
              w_top off
              rename Fr s1.heap _ _ _ => F13
              rename News s1.heap _ _ _ => N13
              rename_i En hEn lEn
              have hJ40 := told_of hD.nodup hkpos hP hPs hmo1 hfit
              refine el1_1 hJ40 ?_
              clear hJ40
              rintro cz hTold
              have hJ41 : ∃ S, S = sizesC mo P' := ⟨_, rfl⟩
              refine el1_1 hJ41 ?_
              clear hJ41
              rintro S hS
              rw [← hS] at hSd hTold
              have hkp := hTold.keys hSd.nodup hD.nodup
              have hSl : S.length = (usedK D).length := by simpa using hkp.length_eq
              have hP5 : P'.length = (usedK D).length := by rw [hP.length_eq, huP]
              by_cases hU : usedK D = []
              · with_unfolding_all refine' ne_dat (r := true) N13 (List.mem_cons_of_mem _ (List.mem_cons_of_mem _ (List.mem_cons_of_mem _ (List.mem_cons_of_mem _ (List.mem_cons_of_mem _ (List.mem_cons_of_mem _ hum2)))))) (dat_ints (L := []) h7) (fun _ h => nomatch h) (.head _) (show DatAll [] [] [] from .nil) (fun _ h => nomatch h) intsD_ok (fun _ h => nomatch h) ?hu (by simp [hU]) ?_
                case hu => first | exact room2 hun (by decide) | (show callerA.units + 3 + _ < _; exact room2 hun (by decide)) | (simp only [units_deeper]; (first | lia | omega))
                (try k_unfold)
                (try dsimp only)
                (try k_fold)
                repeat' (first | (k_unfold; (try dsimp only)) | (k_end; wrow_close) | (exact hret _ _ ⟨_, _, _, rfl, rfl, by assumption⟩) | (fail_if_success (with_reducible show wpAny _ _ (exec (Stmt.For _ _ _ _ _) _) _ _ _)); (fail_if_success (with_reducible show wpAny _ _ (compareOp _ (Value.ref _) (Value.ref _)) _ _ _)); (fail_if_success (with_reducible show wpAny _ _ (call (Value.ref _) _) _ _ _)); first | walk1 | (dsimp only; walk1) | (leave1; walk_say "STEP leave1"; try dsimp only) | fail "no step")
                as_aux_lemma =>
                  w_top off
                  rename Fr s1.heap _ _ _ => F14
                  rename News s1.heap _ _ _ => N14
                  have hJ42 := news_name N14
                  refine el1_2 hJ42 ?_
                  clear hJ42
                  rintro all hall N15
                  clear N14
                  have aAd : (Ad, od) ∈ all := by walk_at "mem"
                  have aU : (D1, LCg.lst ys) ∈ all := by walk_at "mem"
                  have a4 : (L' + 1 + 1 + 1 + 1, ot2) ∈ all := by walk_at "mem"
                  have a3 : (L' + 1 + 1 + 1, ou2) ∈ all := by walk_at "mem"
                  refine srcU_dict (o := od) (Ds := S) rfl F14 N15 aAd lAd hSd (by (first | lia | omega)) (fun i ys nw => nw = all ∧ IntsAre ys ((S.take i).map (·.1))) ⟨rfl, .nil⟩ ?turn ?fin
                  case turn =>
                    rintro i ys2 nw v I oI C oC D' m₂ h tk E' hi hJ43
                    refine el0_2 hJ43 ?_
                    clear hJ43
                    rintro rfl h8 hJ44
                    refine el3_2 hJ44 ?_
                    clear hJ44
                    rintro k v t rfl hDi hC hx F5 N5 off ne hS
                    clear N15
                    (try k_fold)
                    repeat' (first | (k_unfold; (try dsimp only)) | (k_end; wrow_close) | (exact hret _ _ ⟨_, _, _, rfl, rfl, by assumption⟩) | (fail_if_success (with_reducible show wpAny _ _ (exec (Stmt.For _ _ _ _ _) _) _ _ _)); (fail_if_success (with_reducible show wpAny _ _ (compareOp _ (Value.ref _) (Value.ref _)) _ _ _)); (fail_if_success (with_reducible show wpAny _ _ (call (Value.ref _) _) _ _ _)); first | walk1 | (dsimp only; walk1) | (leave1; walk_say "STEP leave1"; try dsimp only) | fail "no step")
                    rename Fr s1.heap _ _ _ => F9
                    rename News s1.heap _ _ _ => N9
                    refine cend_0 F9 N9 off hS ⟨rfl, ?_⟩
                    rw [List.take_add_one, hDi, Option.toList, List.map_append]
                    exact h8.append (.cons _ _ .nil)
                  case fin =>
                    rintro g ys2 nw hJ45
                    refine el0_2 hJ45 ?_
                    clear hJ45
                    rintro rfl h8 hS
                    rw [List.take_length] at h8
                    unfold LCg.FinE
                    intro D2 h tk F5 N5 o1
                    clear F14 N15 hS
                    have hkl : (S.map (·.1)).length = (usedK D).length := by rw [List.length_map, hSl]
                    (try k_fold)
                    repeat' (first | (k_unfold; (try dsimp only)) | (k_end; wrow_close) | (exact hret _ _ ⟨_, _, _, rfl, rfl, by assumption⟩) | (fail_if_success (with_reducible show wpAny _ _ (exec (Stmt.For _ _ _ _ _) _) _ _ _)); (fail_if_success (with_reducible show wpAny _ _ (compareOp _ (Value.ref _) (Value.ref _)) _ _ _)); (fail_if_success (with_reducible show wpAny _ _ (call (Value.ref _) _) _ _ _)); first | walk1 | (dsimp only; walk1) | (leave1; walk_say "STEP leave1"; try dsimp only) | fail "no step")
                    rename Fr s1.heap _ _ _ => F15
                    rename News s1.heap _ _ _ => N16
                    rename_i Dk vk wk ck hk1 hik hlk hpk hok hbk hpk2 llk
                    have hJ46 := news_name N16
                    refine el1_2 hJ46 ?_
                    clear hJ46
                    rintro all2 hall2 N17
                    clear N16 hpk2 hbk
                    have bU : (D1, LCg.lst ys) ∈ all2 := by rw [hall2]; exact .tail _ (.tail _ aU)
                    have b3 : (L' + 1 + 1 + 1, ou2) ∈ all2 := by rw [hall2]; exact .tail _ (.tail _ a3)
                    have b4 : (L' + 1 + 1 + 1 + 1, ot2) ∈ all2 := by rw [hall2]; exact .tail _ (.tail _ a4)
                    have bK : (Dk, listOf vk.toArray ck) ∈ all2 := by rw [hall2]; exact .head _
                    refine srcU_list rfl F15 N17 bU (by (first | lia | omega)) (fun i ys3 nw => nw = all2 ∧ IntsAre ys3 ((usedK D).take i)) ⟨rfl, .nil⟩ ?turn2 ?fin2
                    case turn2 =>
                      rintro i ys3 nw v I oI C oC D' m₂ h tk E' hi hJ47
                      refine el0_2 hJ47 ?_
                      clear hJ47
                      rintro rfl h9 hv hC hx F5 N5 off ne hS
                      have hJ48 := ints_at h7 hv
                      refine el1_1 hJ48 ?_
                      clear hJ48
                      rintro tv rfl
                      clear N17
                      (try k_fold)
                      repeat' (first | (k_unfold; (try dsimp only)) | (k_end; wrow_close) | (exact hret _ _ ⟨_, _, _, rfl, rfl, by assumption⟩) | (fail_if_success (with_reducible show wpAny _ _ (exec (Stmt.For _ _ _ _ _) _) _ _ _)); (fail_if_success (with_reducible show wpAny _ _ (compareOp _ (Value.ref _) (Value.ref _)) _ _ _)); (fail_if_success (with_reducible show wpAny _ _ (call (Value.ref _) _) _ _ _)); first | walk1 | (dsimp only; walk1) | (leave1; walk_say "STEP leave1"; try dsimp only) | fail "no step")
                      rename Fr s1.heap _ _ _ => F9
                      rename News s1.heap _ _ _ => N9
                      refine cend_0 F9 N9 off hS ⟨rfl, ?_⟩
                      have hiu : i < (usedK D).length := by rw [← hyl]; exact hi
                      rw [List.take_add_one, List.getElem?_eq_getElem hiu, Option.toList, getD_get hiu]
                      exact h9.append (.cons _ _ .nil)
                    case fin2 =>
                      rintro g2 ys3 nw hJ49
                      refine el0_2 hJ49 ?_
                      clear hJ49
                      rintro rfl h9 hS2
                      rw [List.take_of_length_le (by (first | lia | omega))] at h9
                      unfold LCg.FinE
                      intro D3 h tk F5 N5 o2
                      clear F15 N17 hS2
                      (try k_fold)
                      repeat' (first | (k_unfold; (try dsimp only)) | (k_end; wrow_close) | (exact hret _ _ ⟨_, _, _, rfl, rfl, by assumption⟩) | (fail_if_success (with_reducible show wpAny _ _ (exec (Stmt.For _ _ _ _ _) _) _ _ _)); (fail_if_success (with_reducible show wpAny _ _ (compareOp _ (Value.ref _) (Value.ref _)) _ _ _)); (fail_if_success (with_reducible show wpAny _ _ (call (Value.ref _) _) _ _ _)); first | walk1 | (dsimp only; walk1) | (leave1; walk_say "STEP leave1"; try dsimp only) | fail "no step")
                      rename Fr s1.heap _ _ _ => F16
                      rename News s1.heap _ _ _ => N18
                      rename_i Dm vm wm cm hm1 him hlm hpm hom hbm hpm2 llm
                      clear hpm2 hbm
                      have hww : wk = wm := sorted_one (hpk.trans (hkp.trans hpm.symm)) hok hom
                      with_unfolding_all refine' ne_dat (r := true) N18 (List.mem_cons_of_mem _ (List.mem_cons_of_mem _ bK)) (dat_ints (L := []) hik) (fun _ h => nomatch h) (.head _) (dat_ints (L := []) him) (fun _ h => nomatch h) intsD_ok intsD_ok ?hu (by rw [hww]; simp) ?_
                      case hu => first | exact room2 hun (by decide) | (show callerA.units + 3 + _ < _; exact room2 hun (by decide)) | (simp only [units_deeper]; (first | lia | omega))
                      (try k_unfold)
                      (try dsimp only)
                      (try k_fold)
                      repeat' (first | (k_unfold; (try dsimp only)) | (k_end; wrow_close) | (exact hret _ _ ⟨_, _, _, rfl, rfl, by assumption⟩) | (fail_if_success (with_reducible show wpAny _ _ (exec (Stmt.For _ _ _ _ _) _) _ _ _)); (fail_if_success (with_reducible show wpAny _ _ (compareOp _ (Value.ref _) (Value.ref _)) _ _ _)); (fail_if_success (with_reducible show wpAny _ _ (call (Value.ref _) _) _ _ _)); first | walk1 | (dsimp only; walk1) | (leave1; walk_say "STEP leave1"; try dsimp only) | fail "no step")
                      rename Fr s1.heap _ _ _ => F17
                      rename News s1.heap _ _ _ => N19
                      rename_i En2 hEn2 lEn2
                      with_unfolding_all refine' eq_dat (r := true) N19 (List.mem_cons_of_mem _ (List.mem_cons_of_mem _ (List.mem_cons_of_mem _ bU))) (dat_ints (L := []) h7) (fun _ h => nomatch h) (.head _) (show DatAll [] [] [] from .nil) (fun _ h => nomatch h) intsD_ok (fun _ h => nomatch h) ?hu (by simp [hU]) ?_
                      case hu => first | exact room2 hun (by decide) | (show callerA.units + 3 + _ < _; exact room2 hun (by decide)) | (simp only [units_deeper]; (first | lia | omega))
                      (try k_unfold)
                      (try dsimp only)
                      have hS0 : S = [] := List.length_eq_zero_iff.mp (by rw [hSl, hU]; rfl)
                      have bAd : (Ad, od) ∈ nw := by rw [hall2]; exact .tail _ (.tail _ aAd)
                      (try k_fold)
                      repeat' (first | (k_unfold; (try dsimp only)) | (k_end; wrow_close) | (exact hret _ _ ⟨_, _, _, rfl, rfl, by assumption⟩) | (fail_if_success (with_reducible show wpAny _ _ (exec (Stmt.For _ _ _ _ _) _) _ _ _)); (fail_if_success (with_reducible show wpAny _ _ (compareOp _ (Value.ref _) (Value.ref _)) _ _ _)); (fail_if_success (with_reducible show wpAny _ _ (call (Value.ref _) _) _ _ _)); first | walk1 | (dsimp only; walk1) | (leave1; walk_say "STEP leave1"; try dsimp only) | fail "no step")
                      rename Fr s1.heap _ _ _ => F18
                      rename News s1.heap _ _ _ => N20
                      with_unfolding_all refine' tel_use (table_tel w (List.mem_cons_of_mem _ (List.mem_cons_of_mem _ (List.mem_cons_of_mem _ bAd))) hSd lAd (by (first | lia | omega)) (fun p hp => by rw [hS0] at hp; cases hp)) K1 F18 KX N20 T rfl ?hd ?hu ?_
                      case hd => first | exact room1 hdp (by decide) | exact Nat.lt_of_le_of_lt (by (first | lia | omega)) hdp
                      case hu => first | exact room2 hun (by decide) | exact Nat.lt_of_le_of_lt (by (first | lia | omega)) hun
                      rintro rT newsT hT1 tkT F19 N21 hJ50
                      refine el1_3 hJ50 ?_
                      clear hJ50
                      rintro Q' hQ hQs hQd
                      clear F18 N20
                      (try k_fold)
                      repeat' (first | (k_unfold; (try dsimp only)) | (k_end; wrow_close) | (exact hret _ _ ⟨_, _, _, rfl, rfl, by assumption⟩) | (fail_if_success (with_reducible show wpAny _ _ (exec (Stmt.For _ _ _ _ _) _) _ _ _)); (fail_if_success (with_reducible show wpAny _ _ (compareOp _ (Value.ref _) (Value.ref _)) _ _ _)); (fail_if_success (with_reducible show wpAny _ _ (call (Value.ref _) _) _ _ _)); first | walk1 | (dsimp only; walk1) | (leave1; walk_say "STEP leave1"; try dsimp only) | fail "no step")
                      rename Fr s1.heap _ _ _ => F20
                      rename News s1.heap _ _ _ => N22
                      with_unfolding_all refine' tup16 F20 N22 (.head _) rfl ?_
                      intro D16 h16 F21 N23 l16
                      clear F20 N22
                      (try k_fold)
                      repeat' (first | (k_unfold; (try dsimp only)) | (k_end; wrow_close) | (exact hret _ _ ⟨_, _, _, rfl, rfl, by assumption⟩) | (fail_if_success (with_reducible show wpAny _ _ (exec (Stmt.For _ _ _ _ _) _) _ _ _)); (fail_if_success (with_reducible show wpAny _ _ (compareOp _ (Value.ref _) (Value.ref _)) _ _ _)); (fail_if_success (with_reducible show wpAny _ _ (call (Value.ref _) _) _ _ _)); first | walk1 | (dsimp only; walk1) | (leave1; walk_say "STEP leave1"; try dsimp only) | fail "no step")
                      (try k_unfold)
                      (try dsimp only)
                      rename Fr s1.heap _ _ _ => F22
                      rename News s1.heap _ _ _ => N24
                      rw [hS0] at hQ hQd
                      have hQ0 : Q' = [] := hQ.eq_nil
                      rw [hQ0] at hQd
                      have hd1 := hQd.dat
                      rw [cts_nil] at hd1
                      with_unfolding_all refine' eq_any (r := true) (d := .tuple [.tuple (List.replicate 16 (.int 0)), .tuple []]) (e := .tuple [.tuple (List.replicate 16 (.int 0)), .tuple []]) N24 hd1 (fun p hp => .tail _ (.tail _ (.tail _ (.tail _ hp)))) (.tuple (.head _) (.cons (.tuple (.tail _ (.tail _ (.head _))) (dat_rep _ 16)) (.cons (.tuple (.tail _ (.head _)) .nil) .nil))) (fun _ h => h) (by decide) (by decide) ?hu (by simp) ?_
                      case hu => first | exact room2 hun (by decide) | (show callerA.units + 3 + _ < _; exact room2 hun (by decide)) | (simp only [units_deeper]; (first | lia | omega))
                      (try k_unfold)
                      (try dsimp only)
                      (try k_fold)
                      repeat' (first | (k_unfold; (try dsimp only)) | (k_end; wrow_close) | (exact hret _ _ ⟨_, _, _, rfl, rfl, by assumption⟩) | (fail_if_success (with_reducible show wpAny _ _ (exec (Stmt.For _ _ _ _ _) _) _ _ _)); (fail_if_success (with_reducible show wpAny _ _ (compareOp _ (Value.ref _) (Value.ref _)) _ _ _)); (fail_if_success (with_reducible show wpAny _ _ (call (Value.ref _) _) _ _ _)); first | walk1 | (dsimp only; walk1) | (leave1; walk_say "STEP leave1"; try dsimp only) | fail "no step")
              · with_unfolding_all refine' ne_dat (r := false) N13 (List.mem_cons_of_mem _ (List.mem_cons_of_mem _ (List.mem_cons_of_mem _ (List.mem_cons_of_mem _ (List.mem_cons_of_mem _ (List.mem_cons_of_mem _ hum2)))))) (dat_ints (L := []) h7) (fun _ h => nomatch h) (.head _) (show DatAll [] [] [] from .nil) (fun _ h => nomatch h) intsD_ok (fun _ h => nomatch h) ?hu (by simp [hU]) ?_
                case hu => first | exact room2 hun (by decide) | (show callerA.units + 3 + _ < _; exact room2 hun (by decide)) | (simp only [units_deeper]; (first | lia | omega))
                (try k_unfold)
                (try dsimp only)
                have hPne : P' ≠ [] := by intro e; rw [e] at hP5; exact hU (List.length_eq_zero_iff.mp hP5.symm)
                have hfit2 : (usedK D).length + 1 ≤ 2 ^ mo := by
                  rcases hfit with h | h
                  · exact absurd h hPne
                  · (first | lia | omega)
                have hfitI : ¬ ((2 : Int) ^ ((mo : Nat) : Int).toNat < (((usedK D).length : Nat) : Int) + 1) := by
                  rw [Int.toNat_natCast]
                  have h10 : (((usedK D).length + 1 : Nat) : Int) ≤ ((2 ^ mo : Nat) : Int) := by exact_mod_cast hfit2
                  push_cast at h10; exact Int.not_lt.mpr h10
                (try k_fold)
                repeat' (first | (k_unfold; (try dsimp only)) | (k_end; wrow_close) | (exact hret _ _ ⟨_, _, _, rfl, rfl, by assumption⟩) | (fail_if_success (with_reducible show wpAny _ _ (exec (Stmt.For _ _ _ _ _) _) _ _ _)); (fail_if_success (with_reducible show wpAny _ _ (compareOp _ (Value.ref _) (Value.ref _)) _ _ _)); (fail_if_success (with_reducible show wpAny _ _ (call (Value.ref _) _) _ _ _)); first | walk1 | (dsimp only; walk1) | (leave1; walk_say "STEP leave1"; try dsimp only) | fail "no step")
                any_goals (try exact (hfitI (by with_reducible assumption)).elim)
                as_aux_lemma =>
                  w_top off
                  rename Fr s1.heap _ _ _ => F14
                  rename News s1.heap _ _ _ => N14
                  have hJ51 := news_name N14
                  refine el1_2 hJ51 ?_
                  clear hJ51
                  rintro all hall N15
                  clear N14
                  have aAd : (Ad, od) ∈ all := by walk_at "mem"
                  have aU : (D1, LCg.lst ys) ∈ all := by walk_at "mem"
                  have a4 : (L' + 1 + 1 + 1 + 1, ot2) ∈ all := by walk_at "mem"
                  have a3 : (L' + 1 + 1 + 1, ou2) ∈ all := by walk_at "mem"
                  refine srcU_dict (o := od) (Ds := S) rfl F14 N15 aAd lAd hSd (by (first | lia | omega)) (fun i ys nw => nw = all ∧ IntsAre ys ((S.take i).map (·.1))) ⟨rfl, .nil⟩ ?turn ?fin
                  case turn =>
                    rintro i ys2 nw v I oI C oC D' m₂ h tk E' hi hJ52
                    refine el0_2 hJ52 ?_
                    clear hJ52
                    rintro rfl h8 hJ53
                    refine el3_2 hJ53 ?_
                    clear hJ53
                    rintro k v t rfl hDi hC hx F5 N5 off ne hS
                    clear N15
                    (try k_fold)
                    repeat' (first | (k_unfold; (try dsimp only)) | (k_end; wrow_close) | (exact hret _ _ ⟨_, _, _, rfl, rfl, by assumption⟩) | (fail_if_success (with_reducible show wpAny _ _ (exec (Stmt.For _ _ _ _ _) _) _ _ _)); (fail_if_success (with_reducible show wpAny _ _ (compareOp _ (Value.ref _) (Value.ref _)) _ _ _)); (fail_if_success (with_reducible show wpAny _ _ (call (Value.ref _) _) _ _ _)); first | walk1 | (dsimp only; walk1) | (leave1; walk_say "STEP leave1"; try dsimp only) | fail "no step")
                    rename Fr s1.heap _ _ _ => F9
                    rename News s1.heap _ _ _ => N9
                    refine cend_0 F9 N9 off hS ⟨rfl, ?_⟩
                    rw [List.take_add_one, hDi, Option.toList, List.map_append]
                    exact h8.append (.cons _ _ .nil)
                  case fin =>
                    rintro g ys2 nw hJ54
                    refine el0_2 hJ54 ?_
                    clear hJ54
                    rintro rfl h8 hS
                    rw [List.take_length] at h8
                    unfold LCg.FinE
                    intro D2 h tk F5 N5 o1
                    clear F14 N15 hS
                    have hkl : (S.map (·.1)).length = (usedK D).length := by rw [List.length_map, hSl]
                    (try k_fold)
                    repeat' (first | (k_unfold; (try dsimp only)) | (k_end; wrow_close) | (exact hret _ _ ⟨_, _, _, rfl, rfl, by assumption⟩) | (fail_if_success (with_reducible show wpAny _ _ (exec (Stmt.For _ _ _ _ _) _) _ _ _)); (fail_if_success (with_reducible show wpAny _ _ (compareOp _ (Value.ref _) (Value.ref _)) _ _ _)); (fail_if_success (with_reducible show wpAny _ _ (call (Value.ref _) _) _ _ _)); first | walk1 | (dsimp only; walk1) | (leave1; walk_say "STEP leave1"; try dsimp only) | fail "no step")
                    rename Fr s1.heap _ _ _ => F15
                    rename News s1.heap _ _ _ => N16
                    rename_i Dk vk wk ck hk1 hik hlk hpk hok hbk hpk2 llk
                    have hJ55 := news_name N16
                    refine el1_2 hJ55 ?_
                    clear hJ55
                    rintro all2 hall2 N17
                    clear N16 hpk2 hbk
                    have bU : (D1, LCg.lst ys) ∈ all2 := by rw [hall2]; exact .tail _ (.tail _ aU)
                    have b3 : (L' + 1 + 1 + 1, ou2) ∈ all2 := by rw [hall2]; exact .tail _ (.tail _ a3)
                    have b4 : (L' + 1 + 1 + 1 + 1, ot2) ∈ all2 := by rw [hall2]; exact .tail _ (.tail _ a4)
                    have bK : (Dk, listOf vk.toArray ck) ∈ all2 := by rw [hall2]; exact .head _
                    refine srcU_list rfl F15 N17 bU (by (first | lia | omega)) (fun i ys3 nw => nw = all2 ∧ IntsAre ys3 ((usedK D).take i)) ⟨rfl, .nil⟩ ?turn2 ?fin2
                    case turn2 =>
                      rintro i ys3 nw v I oI C oC D' m₂ h tk E' hi hJ56
                      refine el0_2 hJ56 ?_
                      clear hJ56
                      rintro rfl h9 hv hC hx F5 N5 off ne hS
                      have hJ57 := ints_at h7 hv
                      refine el1_1 hJ57 ?_
                      clear hJ57
                      rintro tv rfl
                      clear N17
                      (try k_fold)
                      repeat' (first | (k_unfold; (try dsimp only)) | (k_end; wrow_close) | (exact hret _ _ ⟨_, _, _, rfl, rfl, by assumption⟩) | (fail_if_success (with_reducible show wpAny _ _ (exec (Stmt.For _ _ _ _ _) _) _ _ _)); (fail_if_success (with_reducible show wpAny _ _ (compareOp _ (Value.ref _) (Value.ref _)) _ _ _)); (fail_if_success (with_reducible show wpAny _ _ (call (Value.ref _) _) _ _ _)); first | walk1 | (dsimp only; walk1) | (leave1; walk_say "STEP leave1"; try dsimp only) | fail "no step")
                      rename Fr s1.heap _ _ _ => F9
                      rename News s1.heap _ _ _ => N9
                      refine cend_0 F9 N9 off hS ⟨rfl, ?_⟩
                      have hiu : i < (usedK D).length := by rw [← hyl]; exact hi
                      rw [List.take_add_one, List.getElem?_eq_getElem hiu, Option.toList, getD_get hiu]
                      exact h9.append (.cons _ _ .nil)
                    case fin2 =>
                      rintro g2 ys3 nw hJ58
                      refine el0_2 hJ58 ?_
                      clear hJ58
                      rintro rfl h9 hS2
                      rw [List.take_of_length_le (by (first | lia | omega))] at h9
                      unfold LCg.FinE
                      intro D3 h tk F5 N5 o2
                      clear F15 N17 hS2
                      (try k_fold)
                      repeat' (first | (k_unfold; (try dsimp only)) | (k_end; wrow_close) | (exact hret _ _ ⟨_, _, _, rfl, rfl, by assumption⟩) | (fail_if_success (with_reducible show wpAny _ _ (exec (Stmt.For _ _ _ _ _) _) _ _ _)); (fail_if_success (with_reducible show wpAny _ _ (compareOp _ (Value.ref _) (Value.ref _)) _ _ _)); (fail_if_success (with_reducible show wpAny _ _ (call (Value.ref _) _) _ _ _)); first | walk1 | (dsimp only; walk1) | (leave1; walk_say "STEP leave1"; try dsimp only) | fail "no step")
                      rename Fr s1.heap _ _ _ => F16
                      rename News s1.heap _ _ _ => N18
                      rename_i Dm vm wm cm hm1 him hlm hpm hom hbm hpm2 llm
                      clear hpm2 hbm
                      have hww : wk = wm := sorted_one (hpk.trans (hkp.trans hpm.symm)) hok hom
                      with_unfolding_all refine' ne_dat (r := true) N18 (List.mem_cons_of_mem _ (List.mem_cons_of_mem _ bK)) (dat_ints (L := []) hik) (fun _ h => nomatch h) (.head _) (dat_ints (L := []) him) (fun _ h => nomatch h) intsD_ok intsD_ok ?hu (by rw [hww]; simp) ?_
                      case hu => first | exact room2 hun (by decide) | (show callerA.units + 3 + _ < _; exact room2 hun (by decide)) | (simp only [units_deeper]; (first | lia | omega))
                      (try k_unfold)
                      (try dsimp only)
                      (try k_fold)
                      repeat' (first | (k_unfold; (try dsimp only)) | (k_end; wrow_close) | (exact hret _ _ ⟨_, _, _, rfl, rfl, by assumption⟩) | (fail_if_success (with_reducible show wpAny _ _ (exec (Stmt.For _ _ _ _ _) _) _ _ _)); (fail_if_success (with_reducible show wpAny _ _ (compareOp _ (Value.ref _) (Value.ref _)) _ _ _)); (fail_if_success (with_reducible show wpAny _ _ (call (Value.ref _) _) _ _ _)); first | walk1 | (dsimp only; walk1) | (leave1; walk_say "STEP leave1"; try dsimp only) | fail "no step")
                      as_aux_lemma =>
                        w_top off
                        rename Fr s1.heap _ _ _ => F17
                        rename News s1.heap _ _ _ => N19
                        rename_i En2 hEn2 lEn2
                        with_unfolding_all refine' eq_dat (r := false) N19 (List.mem_cons_of_mem _ (List.mem_cons_of_mem _ (List.mem_cons_of_mem _ bU))) (dat_ints (L := []) h7) (fun _ h => nomatch h) (.head _) (show DatAll [] [] [] from .nil) (fun _ h => nomatch h) intsD_ok (fun _ h => nomatch h) ?hu (by simp [hU]) ?_
                        case hu => first | exact room2 hun (by decide) | (show callerA.units + 3 + _ < _; exact room2 hun (by decide)) | (simp only [units_deeper]; (first | lia | omega))
                        (try k_unfold)
                        (try dsimp only)
                        have c2 : (L' + 1 + 1, of2) ∈ nw := by walk_at "mem"
                        have c1 : (L' + 1, om2) ∈ nw := by walk_at "mem"
                        have c5 : (L' + 1 + 1 + 1 + 1 + 1, oz) ∈ nw := by walk_at "mem"
                        have cAd : (Ad, od) ∈ nw := by rw [hall2]; exact .tail _ (.tail _ aAd)
                        have cfd : (fd, fo2) ∈ nw := by walk_at "mem"
                        have hcx : ∀ i, i < (usedK D).length → look S ((usedK D).getD i 0) = some ((cz ((usedK D).getD i 0) : Nat) : Int) ∧ 1 ≤ cz ((usedK D).getD i 0) ∧ cz ((usedK D).getD i 0) ≤ mo := by
                          intro i hi
                          have hm : (usedK D).getD i 0 ∈ usedK D := by rw [getD_get hi]; exact List.getElem_mem _
                          have h1 := hTold.at_ ((usedK D).getD i 0)
                          rw [if_pos hm] at h1
                          exact ⟨h1, hTold.one _ hm⟩
                        (try k_fold)
                        repeat' (first | (k_unfold; (try dsimp only)) | (k_end; wrow_close) | (exact hret _ _ ⟨_, _, _, rfl, rfl, by assumption⟩) | (fail_if_success (with_reducible show wpAny _ _ (exec (Stmt.For _ _ _ _ _) _) _ _ _)); (fail_if_success (with_reducible show wpAny _ _ (compareOp _ (Value.ref _) (Value.ref _)) _ _ _)); (fail_if_success (with_reducible show wpAny _ _ (call (Value.ref _) _) _ _ _)); first | walk1 | (dsimp only; walk1) | (leave1; walk_say "STEP leave1"; try dsimp only) | fail "no step")
                        rename Fr s1.heap _ _ _ => F20
                        rename News s1.heap _ _ _ => N20
                        have hJ59 := news_name N20
                        refine el1_2 hJ59 ?_
                        clear hJ59
                        rintro all3 hall3 N21
                        clear N20
                        have hin3 : ∀ p ∈ nw, p ∈ all3 := fun p hp => by rw [hall3]; exact .tail _ (.tail _ (.tail _ hp))
                        have d1 := hin3 _ c1
                        have d2 := hin3 _ c2
                        have d3 := hin3 _ b3
                        have d4' := hin3 _ b4
                        have d5' := hin3 _ c5
                        have dU := hin3 _ bU
                        have dAd := hin3 _ cAd
                        have dfd := hin3 _ cfd
                        refine srcT_list rfl F20 N21 dU (by (first | lia | omega)) (fun i ysn nwn => nwn = all3 ∧ ysn = []) ⟨rfl, rfl⟩ ?turn ?fin
                        case turn =>
                          rintro i ysn nwn v I oI C oC D' m₂ h tk E' hi hJ60
                          refine el0_2 hJ60 ?_
                          clear hJ60
                          rintro rfl rfl hv hC hx F5 N5 off ne hS
                          have hJ61 := ints_at h7 hv
                          refine el1_1 hJ61 ?_
                          clear hJ61
                          rintro tv rfl
                          have hiu : i < (usedK D).length := by rw [← hyl]; exact hi
                          have hJ62 := hcx i hiu
                          refine el0_3 hJ62 ?_
                          clear hJ62
                          rintro g1 g2 g3
                          clear N21
                          (try k_fold)
                          repeat' (first | (k_unfold; (try dsimp only)) | (k_end; wrow_close) | (exact hret _ _ ⟨_, _, _, rfl, rfl, by assumption⟩) | (fail_if_success (with_reducible show wpAny _ _ (exec (Stmt.For _ _ _ _ _) _) _ _ _)); (fail_if_success (with_reducible show wpAny _ _ (compareOp _ (Value.ref _) (Value.ref _)) _ _ _)); (fail_if_success (with_reducible show wpAny _ _ (call (Value.ref _) _) _ _ _)); first | walk1 | (dsimp only; walk1) | (leave1; walk_say "STEP leave1"; try dsimp only) | fail "no step")
                          rename Fr s1.heap _ _ _ => F9
                          rename News s1.heap _ _ _ => N9
                          exact cend_0 F9 N9 off hS ⟨rfl, rfl⟩
                        case fin =>
                          rintro g3 ysn nwn hJ63
                          refine el0_2 hJ63 ?_
                          clear hJ63
                          rintro rfl rfl hS3
                          unfold LCg.FinE
                          intro D4 h tk F5 N5 o3
                          clear F20 N21 hS3
                          (try k_fold)
                          repeat' (first | (k_unfold; (try dsimp only)) | (k_end; wrow_close) | (exact hret _ _ ⟨_, _, _, rfl, rfl, by assumption⟩) | (fail_if_success (with_reducible show wpAny _ _ (exec (Stmt.For _ _ _ _ _) _) _ _ _)); (fail_if_success (with_reducible show wpAny _ _ (compareOp _ (Value.ref _) (Value.ref _)) _ _ _)); (fail_if_success (with_reducible show wpAny _ _ (call (Value.ref _) _) _ _ _)); first | walk1 | (dsimp only; walk1) | (leave1; walk_say "STEP leave1"; try dsimp only) | fail "no step")
                          rename Fr s1.heap _ _ _ => F21
                          rename News s1.heap _ _ _ => N22
                          rename_i En3 hEn3 lEn3
                          with_unfolding_all refine' ne_dat (r := true) N22 (List.mem_cons_of_mem _ (.head _)) (show DatAll [] [] [] from .nil) (fun _ h => nomatch h) (.head _) (show DatAll [] [] [] from .nil) (fun _ h => nomatch h) (fun _ h => nomatch h) (fun _ h => nomatch h) ?hu (by simp) ?_
                          case hu => first | exact room2 hun (by decide) | (show callerA.units + 3 + _ < _; exact room2 hun (by decide)) | (simp only [units_deeper]; (first | lia | omega))
                          (try k_unfold)
                          (try dsimp only)
                          (try k_fold)
                          repeat' (first | (k_unfold; (try dsimp only)) | (k_end; wrow_close) | (exact hret _ _ ⟨_, _, _, rfl, rfl, by assumption⟩) | (fail_if_success (with_reducible show wpAny _ _ (exec (Stmt.For _ _ _ _ _) _) _ _ _)); (fail_if_success (with_reducible show wpAny _ _ (compareOp _ (Value.ref _) (Value.ref _)) _ _ _)); (fail_if_success (with_reducible show wpAny _ _ (call (Value.ref _) _) _ _ _)); first | walk1 | (dsimp only; walk1) | (leave1; walk_say "STEP leave1"; try dsimp only) | fail "no step")
                          rename Fr s1.heap _ _ _ => F22
                          rename News s1.heap _ _ _ => N23
                          have hJ64 := news_name N23
                          refine el1_2 hJ64 ?_
                          clear hJ64
                          rintro all4 hall4 N24
                          clear N23
                          have hin4 : ∀ p ∈ nwn, p ∈ all4 := fun p hp => by rw [hall4]; exact .tail _ (.tail _ hp)
                          have e1 := hin4 _ d1
                          have e2 := hin4 _ d2
                          have e3 := hin4 _ d3
                          have e4 := hin4 _ d4'
                          have e5 := hin4 _ d5'
                          have eU := hin4 _ dU
                          have eAd := hin4 _ dAd
                          have efd := hin4 _ dfd
                          refine srcU_list rfl F22 N24 eU (by (first | lia | omega)) (fun i yss nws => nws = all4 ∧ IntsAre yss (((usedK D).take i).map fun x => (2 : Int) ^ (mo - cz x))) ⟨rfl, .nil⟩ ?turn2 ?fin2
                          case turn2 =>
                            rintro i yss nws v I oI C oC D' m₂ h tk E' hi hJ65
                            refine el0_2 hJ65 ?_
                            clear hJ65
                            rintro rfl h9 hv hC hx F5 N5 off ne hS
                            have hJ66 := ints_at h7 hv
                            refine el1_1 hJ66 ?_
                            clear hJ66
                            rintro tv rfl
                            have hiu : i < (usedK D).length := by rw [← hyl]; exact hi
                            have hJ67 := hcx i hiu
                            refine el0_3 hJ67 ?_
                            clear hJ67
                            rintro g1 g2 g3
                            have e6 : ((mo : Int) - ((cz ((usedK D).getD i 0) : Nat) : Int)).toNat = mo - cz ((usedK D).getD i 0) := Int.toNat_sub _ _
                            clear N24
                            (try k_fold)
                            repeat' (first | (k_unfold; (try dsimp only)) | (k_end; wrow_close) | (exact hret _ _ ⟨_, _, _, rfl, rfl, by assumption⟩) | (fail_if_success (with_reducible show wpAny _ _ (exec (Stmt.For _ _ _ _ _) _) _ _ _)); (fail_if_success (with_reducible show wpAny _ _ (compareOp _ (Value.ref _) (Value.ref _)) _ _ _)); (fail_if_success (with_reducible show wpAny _ _ (call (Value.ref _) _) _ _ _)); first | walk1 | (dsimp only; walk1) | (leave1; walk_say "STEP leave1"; try dsimp only) | fail "no step")
                            rename Fr s1.heap _ _ _ => F9
                            rename News s1.heap _ _ _ => N9
                            refine cend_0 F9 N9 off hS ⟨rfl, ?_⟩
                            rw [take_getD hiu, List.map_append, e6]
                            exact h9.append (.cons _ _ .nil)
                          case fin2 =>
                            rintro g4 yss nws hJ68
                            refine el0_2 hJ68 ?_
                            clear hJ68
                            rintro rfl h9 hS4
                            rw [List.take_of_length_le (by (first | lia | omega))] at h9
                            have hroom : ((usedK D).map fun x => (2 : Int) ^ (mo - cz x)).sum < 2 ^ ((mo : Int)).toNat := by rw [Int.toNat_natCast]; exact hTold.roomI
                            unfold LCg.FinE
                            intro D5 h tk F5 N5 o4
                            clear F22 N24 hS4
                            (try k_fold)
                            repeat' (first | (k_unfold; (try dsimp only)) | (k_end; wrow_close) | (exact hret _ _ ⟨_, _, _, rfl, rfl, by assumption⟩) | (fail_if_success (with_reducible show wpAny _ _ (exec (Stmt.For _ _ _ _ _) _) _ _ _)); (fail_if_success (with_reducible show wpAny _ _ (compareOp _ (Value.ref _) (Value.ref _)) _ _ _)); (fail_if_success (with_reducible show wpAny _ _ (call (Value.ref _) _) _ _ _)); first | walk1 | (dsimp only; walk1) | (leave1; walk_say "STEP leave1"; try dsimp only) | fail "no step")
                            any_goals (try exact absurd hroom (Int.not_lt.mpr (by with_reducible assumption)))
                            rename Fr s1.heap _ _ _ => F23
                            rename News s1.heap _ _ _ => N25
                            have hJ69 := news_name N25
                            refine el1_2 hJ69 ?_
                            clear hJ69
                            rintro all5 hall5 N26
                            clear N25
                            have hin5 : ∀ p ∈ nws, p ∈ all5 := fun p hp => by rw [hall5]; exact .tail _ hp
                            have i1 := hin5 _ e1
                            have i2 := hin5 _ e2
                            have i3 := hin5 _ e3
                            have i4 := hin5 _ e4
                            have i5 := hin5 _ e5
                            have iU := hin5 _ eU
                            have iAd := hin5 _ eAd
                            have ifd := hin5 _ efd
                            refine srcU_list rfl F23 N26 iU (by (first | lia | omega)) (fun i yss nws => nws = all5 ∧ IntsAre yss (((usedK D).take i).map fun x => (look D x).getD 0 * (cz x : Nat))) ⟨rfl, .nil⟩ ?turn3 ?fin3
                            case turn3 =>
                              rintro i yss nws v I oI C oC D' m₂ h tk E' hi hJ70
                              refine el0_2 hJ70 ?_
                              clear hJ70
                              rintro rfl h10 hv hC hx F5 N5 off ne hS
                              have hJ71 := ints_at h7 hv
                              refine el1_1 hJ71 ?_
                              clear hJ71
                              rintro tv rfl
                              have hiu : i < (usedK D).length := by rw [← hyl]; exact hi
                              have hJ72 := hcx i hiu
                              refine el0_3 hJ72 ?_
                              clear hJ72
                              rintro g1 g2 g3
                              obtain ⟨fv, g4, g5, g6, g7⟩ := used_at hD.nodup hDv (show (usedK D).getD i 0 ∈ usedK D by rw [getD_get hiu]; exact List.getElem_mem _)
                              clear N26
                              (try k_fold)
                              repeat' (first | (k_unfold; (try dsimp only)) | (k_end; wrow_close) | (exact hret _ _ ⟨_, _, _, rfl, rfl, by assumption⟩) | (fail_if_success (with_reducible show wpAny _ _ (exec (Stmt.For _ _ _ _ _) _) _ _ _)); (fail_if_success (with_reducible show wpAny _ _ (compareOp _ (Value.ref _) (Value.ref _)) _ _ _)); (fail_if_success (with_reducible show wpAny _ _ (call (Value.ref _) _) _ _ _)); first | walk1 | (dsimp only; walk1) | (leave1; walk_say "STEP leave1"; try dsimp only) | fail "no step")
                              rename Fr s1.heap _ _ _ => F9
                              rename News s1.heap _ _ _ => N9
                              refine cend_0 F9 N9 off hS ⟨rfl, ?_⟩
                              rw [take_getD hiu, List.map_append]
                              refine h10.append ?_
                              simp only [List.map_cons, List.map_nil, g5]
                              exact .cons _ _ .nil
                            case fin3 =>
                              rintro g5 yst nwt hJ73
                              refine el0_2 hJ73 ?_
                              clear hJ73
                              rintro rfl h10 hS5
                              rw [List.take_of_length_le (by (first | lia | omega))] at h10
                              unfold LCg.FinE
                              intro D6 h tk F5 N5 o5
                              clear F23 N26 hS5
                              (try k_fold)
                              repeat' (first | (k_unfold; (try dsimp only)) | (k_end; wrow_close) | (exact hret _ _ ⟨_, _, _, rfl, rfl, by assumption⟩) | (fail_if_success (with_reducible show wpAny _ _ (exec (Stmt.For _ _ _ _ _) _) _ _ _)); (fail_if_success (with_reducible show wpAny _ _ (compareOp _ (Value.ref _) (Value.ref _)) _ _ _)); (fail_if_success (with_reducible show wpAny _ _ (call (Value.ref _) _) _ _ _)); first | walk1 | (dsimp only; walk1) | (leave1; walk_say "STEP leave1"; try dsimp only) | fail "no step")
                              rename Fr s1.heap _ _ _ => F24
                              rename News s1.heap _ _ _ => N27
                              have hJ74 := news_name N27
                              refine el1_2 hJ74 ?_
                              clear hJ74
                              rintro all6 hall6 N28
                              clear N27
                              have hin6 : ∀ p ∈ nwt, p ∈ all6 := fun p hp => by rw [hall6]; exact .tail _ hp
                              have k1 := hin6 _ i1
                              have k2 := hin6 _ i2
                              have k3 := hin6 _ i3
                              have k4 := hin6 _ i4
                              have k5 := hin6 _ i5
                              have kU := hin6 _ iU
                              have kAd := hin6 _ iAd
                              have kfd := hin6 _ ifd
                              refine srcU_list rfl F24 N28 kU (by (first | lia | omega)) (fun i yss nws => nws = all6 ∧ IntsAre yss (((usedK D).take i).map fun x => (look D x).getD 0)) ⟨rfl, .nil⟩ ?turn4 ?fin4
                              case turn4 =>
                                rintro i yss nws v I oI C oC D' m₂ h tk E' hi hJ75
                                refine el0_2 hJ75 ?_
                                clear hJ75
                                rintro rfl h11 hv hC hx F5 N5 off ne hS
                                have hJ76 := ints_at h7 hv
                                refine el1_1 hJ76 ?_
                                clear hJ76
                                rintro tv rfl
                                have hiu : i < (usedK D).length := by rw [← hyl]; exact hi
                                obtain ⟨fv, g4, g5, g6, g7⟩ := used_at hD.nodup hDv (show (usedK D).getD i 0 ∈ usedK D by rw [getD_get hiu]; exact List.getElem_mem _)
                                clear N28
                                (try k_fold)
                                repeat' (first | (k_unfold; (try dsimp only)) | (k_end; wrow_close) | (exact hret _ _ ⟨_, _, _, rfl, rfl, by assumption⟩) | (fail_if_success (with_reducible show wpAny _ _ (exec (Stmt.For _ _ _ _ _) _) _ _ _)); (fail_if_success (with_reducible show wpAny _ _ (compareOp _ (Value.ref _) (Value.ref _)) _ _ _)); (fail_if_success (with_reducible show wpAny _ _ (call (Value.ref _) _) _ _ _)); first | walk1 | (dsimp only; walk1) | (leave1; walk_say "STEP leave1"; try dsimp only) | fail "no step")
                                rename Fr s1.heap _ _ _ => F9
                                rename News s1.heap _ _ _ => N9
                                refine cend_0 F9 N9 off hS ⟨rfl, ?_⟩
                                rw [take_getD hiu, List.map_append]
                                refine h11.append ?_
                                simp only [List.map_cons, List.map_nil, g5]
                                exact .cons _ _ .nil
                              case fin4 =>
                                rintro g6 ysv nwv hJ77
                                refine el0_2 hJ77 ?_
                                clear hJ77
                                rintro rfl h11 hS6
                                rw [List.take_of_length_le (by (first | lia | omega))] at h11
                                unfold LCg.FinE
                                intro D7 h tk F5 N5 o6
                                clear F24 N28 hS6
                                (try k_fold)
                                repeat' (first | (k_unfold; (try dsimp only)) | (k_end; wrow_close) | (exact hret _ _ ⟨_, _, _, rfl, rfl, by assumption⟩) | (fail_if_success (with_reducible show wpAny _ _ (exec (Stmt.For _ _ _ _ _) _) _ _ _)); (fail_if_success (with_reducible show wpAny _ _ (compareOp _ (Value.ref _) (Value.ref _)) _ _ _)); (fail_if_success (with_reducible show wpAny _ _ (call (Value.ref _) _) _ _ _)); first | walk1 | (dsimp only; walk1) | (leave1; walk_say "STEP leave1"; try dsimp only) | fail "no step")
                                rename Fr s1.heap _ _ _ => F25
                                rename News s1.heap _ _ _ => N29
                                have hne9 : leastC mo ((usedK D).map fun x => (look D x).getD 0) [(0, 0)] ≠ [] := fun e => by
                                  have := hTold.mem
                                  rw [e] at this; cases this
                                have hbd : ∀ x ∈ ((usedK D).map fun x => (look D x).getD 0), 0 ≤ x ∧ x ≤ 1000 := by
                                  intro x hx
                                  have hJ78 := List.mem_map.mp hx
                                  refine el1_2 hJ78 ?_
                                  clear hJ78
                                  rintro y hy rfl
                                  have hJ79 := used_at hD.nodup hDv hy
                                  refine el1_4 hJ79 ?_
                                  clear hJ79
                                  rintro fv g4 g5 g6 g7
                                  rw [g5]; (first | lia | omega)
                                with_unfolding_all refine' tel_use (least_tel w (.head _) h11 (by rw [List.length_map]; exact hul) ⟨hmo1, hmo4⟩ hbd hne9) K1 F25 KX N29 T rfl ?hd ?hu ?_
                                case hd => first | exact room1 hdp (by decide) | exact Nat.lt_of_le_of_lt (by (first | lia | omega)) hdp
                                case hu => first | exact room2 hun (by decide) | exact Nat.lt_of_le_of_lt (by (first | lia | omega)) hun
                                rintro rM newsM hM tkM F26 N30 hJ80
                                refine el2_4 hJ80 ?_
                                clear hJ80
                                rintro M tM rfl hM1 hM2 hMg
                                have hMe := hTold.least hD.nodup hU hM1 hM2
                                clear F25 N29
                                have hJ81 := news_name N30
                                refine el1_2 hJ81 ?_
                                clear hJ81
                                rintro all7 hall7 N31
                                clear N30
                                have hin7 : ∀ p ∈ nwv, p ∈ all7 := fun p hp => by rw [hall7]; exact hMg.sub _ (.tail _ hp)
                                have l1 := hin7 _ k1
                                have l2 := hin7 _ k2
                                have l3 := hin7 _ k3
                                have l4 := hin7 _ k4
                                have l5 := hin7 _ k5
                                have lU := hin7 _ kU
                                have lAd := hin7 _ kAd
                                have lfd := hin7 _ kfd
                                (try k_fold)
                                repeat' (first | (k_unfold; (try dsimp only)) | (k_end; wrow_close) | (exact hret _ _ ⟨_, _, _, rfl, rfl, by assumption⟩) | (fail_if_success (with_reducible show wpAny _ _ (exec (Stmt.For _ _ _ _ _) _) _ _ _)); (fail_if_success (with_reducible show wpAny _ _ (compareOp _ (Value.ref _) (Value.ref _)) _ _ _)); (fail_if_success (with_reducible show wpAny _ _ (call (Value.ref _) _) _ _ _)); first | walk1 | (dsimp only; walk1) | (leave1; walk_say "STEP leave1"; try dsimp only) | fail "no step")
                                any_goals (try exact absurd hMe (by with_reducible assumption))
                                have hJ82 : ∃ b : Led, b = all7.filter (fun p => decide (p.1 ≠ L' + 1 + 1 + 1 + 1 + 1)) := ⟨_, rfl⟩
                                refine el1_1 hJ82 ?_
                                clear hJ82
                                rintro rest7 hrest7
                                have hr7 : ∀ p ∈ all7, p.1 ≠ L' + 1 + 1 + 1 + 1 + 1 → p ∈ rest7 := fun p hp hne => by rw [hrest7]; exact List.mem_filter.mpr ⟨hp, by simpa using hne⟩
                                have nr7 : ∀ p ∈ rest7, p.1 ≠ L' + 1 + 1 + 1 + 1 + 1 := fun p hp => by
                                  rw [hrest7] at hp
                                  have := (List.mem_filter.mp hp).2
                                  simpa using this
                                have N32 : News s1.heap L' hM ((L' + 1 + 1 + 1 + 1 + 1, oz) :: rest7) := fun p hp => N31 p (by
                                  rcases List.mem_cons.mp hp with rfl | hp
                                  · exact l5
                                  · rw [hrest7] at hp; exact (List.mem_filter.mp hp).1)
                                have m1 := hr7 _ l1 (show @Ne Nat (L' + 1) (L' + 1 + 1 + 1 + 1 + 1) from Nat.ne_of_lt (by walk_at "lt"))
                                have m2 := hr7 _ l2 (show @Ne Nat (L' + 1 + 1) (L' + 1 + 1 + 1 + 1 + 1) from Nat.ne_of_lt (by walk_at "lt"))
                                have m3 := hr7 _ l3 (show @Ne Nat (L' + 1 + 1 + 1) (L' + 1 + 1 + 1 + 1 + 1) from Nat.ne_of_lt (by walk_at "lt"))
                                have m4 := hr7 _ l4 (show @Ne Nat (L' + 1 + 1 + 1 + 1) (L' + 1 + 1 + 1 + 1 + 1) from Nat.ne_of_lt (by walk_at "lt"))
                                have mU := hr7 _ lU (nd5 _ hum2)
                                have mAd := hr7 _ lAd (nd5 _ hAd2)
                                have mfd := hr7 _ lfd (nd5 _ hfm2)
                                clear l1 l2 l3 l4 l5 lU lAd lfd k1 k2 k3 k4 k5 kU kAd kfd i1 i2 i3 i4 i5 iU iAd ifd e1 e2 e3 e4 e5 eU eAd efd d1 d2 d3 d4' d5' dU dAd dfd c1 c2 c5 cAd cfd hall7 hall6 hall5 hall4 hall3 hin3 hin4 hin5 hin6 hin7 hrest7 hr7 N31 hMe hM1 hM2 hMg hne9 hbd hroom h8 h9 h10 h11
                                as_aux_lemma =>
                                  w_top off
                                  have hSv : ∀ p ∈ S, 1 ≤ p.2 ∧ p.2 ≤ 16 := by
                                    intro p hp
                                    have h1 := look_of_mem hSd.nodup hp
                                    have h2 := hTold.at_ p.1
                                    rw [h1] at h2
                                    by_cases hm : p.1 ∈ usedK D
                                    · rw [if_pos hm] at h2
                                      have h3 := hTold.one _ hm
                                      have h4 : p.2 = ((cz p.1 : Nat) : Int) := by injection h2
                                      (first | lia | omega)
                                    · rw [if_neg hm] at h2; cases h2
                                  with_unfolding_all refine' tel_use (table_tel w (List.mem_cons_of_mem _ mAd) hSd lAd (by (first | lia | omega)) hSv) K1 F26 KX N32 T rfl ?hd ?hu ?_
                                  case hd => first | exact room1 hdp (by decide) | exact Nat.lt_of_le_of_lt (by (first | lia | omega)) hdp
                                  case hu => first | exact room2 hun (by decide) | exact Nat.lt_of_le_of_lt (by (first | lia | omega)) hun
                                  rintro rT newsT hT1 tkT F27 N33 hJ88
                                  refine el1_3 hJ88 ?_
                                  clear hJ88
                                  rintro Q' hQ hQs hQd
                                  clear F26 N32
                                  have hQg := hQd.grown
                                  have hQt := hQd.dat
                                  have eQ : (Q'.map fun p => Dat.int p.2) = (Q'.map (·.2)).map Dat.int := by rw [List.map_map]; rfl
                                  rw [eQ] at hQt
                                  have hJ89 := tab_inv hQt
                                  refine el8_6 hJ89 ?_
                                  clear hJ89
                                  rintro pT nT pc vc nc ps vs nvs rfl hpT hpc hvc hps hvs
                                  clear hQd hQt eQ
                                  (try k_fold)
                                  repeat' (first | (k_unfold; (try dsimp only)) | (k_end; wrow_close) | (exact hret _ _ ⟨_, _, _, rfl, rfl, by assumption⟩) | (fail_if_success (with_reducible show wpAny _ _ (exec (Stmt.For _ _ _ _ _) _) _ _ _)); (fail_if_success (with_reducible show wpAny _ _ (compareOp _ (Value.ref _) (Value.ref _)) _ _ _)); (fail_if_success (with_reducible show wpAny _ _ (call (Value.ref _) _) _ _ _)); first | walk1 | (dsimp only; walk1) | (leave1; walk_say "STEP leave1"; try dsimp only) | fail "no step")
                                  rename Fr s1.heap _ _ _ => F28
                                  rename News s1.heap _ _ _ => N34
                                  rename_i du hdu0 ldu hdu
                                  have hJ90 := hQg
                                  refine el1_2 hJ90 ?_
                                  clear hJ90
                                  try clear hQg
                                  rintro tlQ rfl nQ
                                  have hJ91 : ∃ b : Led, b = tlQ ++ rest7 := ⟨_, rfl⟩
                                  refine el1_1 hJ91 ?_
                                  clear hJ91
                                  rintro base8 hbase8
                                  have nb8 : ∀ p ∈ base8, p.1 ≠ L' + 1 + 1 + 1 + 1 + 1 := by
                                    intro p hp
                                    rw [hbase8] at hp
                                    rcases List.mem_append.mp hp with hp | hp
                                    · exact Ne.symm (nQ p hp (L' + 1 + 1 + 1 + 1 + 1, oz) (.head _))
                                    · exact nr7 p hp
                                  have hin8 : ∀ p ∈ rest7, p ∈ base8 := fun p hp => by rw [hbase8]; exact List.mem_append_right _ hp
                                  have hseq8 : ∀ p ∈ tlQ ++ ((L' + 1 + 1 + 1 + 1 + 1, oz) :: rest7), (∀ v, p.2.data ≠ .cell v) → p ∈ base8 := by
                                    intro p hp hc
                                    rw [hbase8]
                                    rcases List.mem_append.mp hp with hp | hp
                                    · exact List.mem_append_left _ hp
                                    · rcases List.mem_cons.mp hp with rfl | hp
                                      · exact absurd hcz (hc _)
                                      · exact List.mem_append_right _ hp
                                  have o1 := hin8 _ m1
                                  have o2 := hin8 _ m2
                                  have o3 := hin8 _ m3
                                  have o4 := hin8 _ m4
                                  have oU := hin8 _ mU
                                  have oAd := hin8 _ mAd
                                  have opc := hseq8 _ hpc (fun _ e => nomatch e)
                                  have ops := hseq8 _ hps (fun _ e => nomatch e)
                                  have hduL : @LT.lt Nat _ (L' + 1 + 1 + 1 + 1 + 1) du := ldu _ (List.mem_append_right _ (.head _))
                                  have N35 : News s1.heap L' hdu ((L' + 1 + 1 + 1 + 1 + 1, oz) :: (du, listOf ([] : List Value).toArray 0) :: base8) := fun p hp => N34 p (by
                                    revert hp p; walk_at "sub")
                                  clear N34
                                  refine my_forA s1.heap ?_
                                  (try k_fold)
                                  repeat' (first | (k_unfold; (try dsimp only)) | (k_end; wrow_close) | (exact hret _ _ ⟨_, _, _, rfl, rfl, by assumption⟩) | (fail_if_success (with_reducible show wpAny _ _ (exec (Stmt.For _ _ _ _ _) _) _ _ _)); (fail_if_success (with_reducible show wpAny _ _ (compareOp _ (Value.ref _) (Value.ref _)) _ _ _)); (fail_if_success (with_reducible show wpAny _ _ (call (Value.ref _) _) _ _ _)); first | walk1 | (dsimp only; walk1) | (leave1; walk_say "STEP leave1"; try dsimp only) | fail "no step")
                                  rename IsRange _ _ _ _ _ _ _ _ => rgZ
                                  rename Fr s1.heap _ _ _ => F29
                                  rename News s1.heap _ _ _ => N36
                                  refine forA_range (n := 16) rfl F29 N36 rgZ (by decide) (by decide) (fun _ _ => rfl) (fun i m nx => ∃ (oz2 : Obj) (lr : Addr) (vd : List Value) (nd : Nat) (rest : Led) (u : Str → Option Value), m = (fun y => if y = Str.ofString "due" then some (.ref lr) else if y = Str.ofString "symbols" then some (.ref ps) else if y = Str.ofString "counts" then some (.ref pc) else u y) ∧
                                      nx = (L' + 1 + 1 + 1 + 1 + 1, oz2) :: rest ∧ (∃ v, oz2.data = .cell v) ∧ (∀ p ∈ base8, p ∈ rest) ∧ (∀ p ∈ rest, p.1 ≠ L' + 1 + 1 + 1 + 1 + 1) ∧ (lr, listOf vd.toArray nd) ∈ rest ∧ IntsAre vd (dueC S i))
                                    ⟨oz, du, [], 0, (du, listOf ([] : List Value).toArray 0) :: base8, _, fmH3 rfl rfl rfl, rfl, ⟨_, hcz⟩, (fun p hp => .tail _ hp), List.forall_mem_cons.mpr ⟨Nat.ne_of_gt hduL, nb8⟩, .head _, .nil⟩ ?turn ?done
                                  case turn =>
                                    rintro i v m₁ nx h tk I oI' hi hJ92
                                    refine el1_1 hJ92 ?_
                                    clear hJ92
                                    rintro t9 rfl hJ93
                                    refine el6_7 hJ93 ?_
                                    clear hJ93
                                    rintro oz2 lr vd nd rest u rfl rfl hJ94
                                    refine el1_1 hJ94 ?_
                                    clear hJ94
                                    rintro vz hz2 hb hn5 hlr hvd off F30 N37
                                    have hI5 : @Ne Nat (L' + 1 + 1 + 1 + 1 + 1) I := off _ (.head _)
                                    have e3 : (1 : Int) + (i : Int) * 1 = ((i + 1 : Nat) : Int) := by (first | lia | omega)
                                    rw [e3]
                                    have r1 := hb _ o1
                                    have r2 := hb _ o2
                                    have r3 := hb _ o3
                                    have r4 := hb _ o4
                                    have rAd := hb _ oAd
                                    clear F29 N36
                                    (try k_fold)
                                    repeat' (first | (k_unfold; (try dsimp only)) | (k_end; wrow_close) | (exact hret _ _ ⟨_, _, _, rfl, rfl, by assumption⟩) | (fail_if_success (with_reducible show wpAny _ _ (exec (Stmt.For _ _ _ _ _) _) _ _ _)); (fail_if_success (with_reducible show wpAny _ _ (compareOp _ (Value.ref _) (Value.ref _)) _ _ _)); (fail_if_success (with_reducible show wpAny _ _ (call (Value.ref _) _) _ _ _)); first | walk1 | (dsimp only; walk1) | (leave1; walk_say "STEP leave1"; try dsimp only) | fail "no step")
                                    rename IsRange _ _ _ _ _ _ _ _ => rgS
                                    rename Fr s1.heap _ _ _ => F31
                                    rename News s1.heap _ _ _ => N38
                                    rename_i o5 Fx Nx d5x hx tkx t1x u1x v1x alex
                                    clear Fx Nx
                                    refine srcT_range (n := 6) rfl F31 N38 rgS (by decide) (by decide) (by decide) (fun j ys nw => nw = (I, oI') :: (L' + 1 + 1 + 1 + 1 + 1, o5) :: rest ∧ IntsAre ys ((syms.take j).filter fun x => decide (look S x = some ((i + 1 : Nat) : Int)))) ⟨rfl, .nil⟩ ?ct ?cf
                                    case ct =>
                                      rintro j ys nw v I2 oI2 C oC D' m₂ h tk E' hj hJ95
                                      refine el0_2 hJ95 ?_
                                      clear hJ95
                                      rintro rfl h9 hJ96
                                      refine el1_1 hJ96 ?_
                                      clear hJ96
                                      rintro t8 rfl hC hx F5 N5 off2 ne hS
                                      have e4 : (0 : Int) + (j : Int) * 7 = 7 * (j : Int) := by (first | lia | omega)
                                      rw [e4] at hx
                                      clear N38 rgS N37
                                      rcases hlk : look S (7 * (j : Int)) with _ | vk
                                      · skip
                                        (try k_fold)
                                        repeat' (first | (k_unfold; (try dsimp only)) | (k_end; wrow_close) | (exact hret _ _ ⟨_, _, _, rfl, rfl, by assumption⟩) | (fail_if_success (with_reducible show wpAny _ _ (exec (Stmt.For _ _ _ _ _) _) _ _ _)); (fail_if_success (with_reducible show wpAny _ _ (compareOp _ (Value.ref _) (Value.ref _)) _ _ _)); (fail_if_success (with_reducible show wpAny _ _ (call (Value.ref _) _) _ _ _)); first | walk1 | (dsimp only; walk1) | (leave1; walk_say "STEP leave1"; try dsimp only) | fail "no step")
                                        rename Fr s1.heap _ _ _ => F9
                                        rename News s1.heap _ _ _ => N9
                                        refine cend_0 F9 N9 off2 hS ⟨rfl, ?_⟩
                                        rw [syms_take j hj, List.filter_append]
                                        simpa [hlk] using h9
                                      · skip
                                        (try k_fold)
                                        repeat' (first | (k_unfold; (try dsimp only)) | (k_end; wrow_close) | (exact hret _ _ ⟨_, _, _, rfl, rfl, by assumption⟩) | (fail_if_success (with_reducible show wpAny _ _ (exec (Stmt.For _ _ _ _ _) _) _ _ _)); (fail_if_success (with_reducible show wpAny _ _ (compareOp _ (Value.ref _) (Value.ref _)) _ _ _)); (fail_if_success (with_reducible show wpAny _ _ (call (Value.ref _) _) _ _ _)); first | walk1 | (dsimp only; walk1) | (leave1; walk_say "STEP leave1"; try dsimp only) | fail "no step")
                                        · rename Fr s1.heap _ _ _ => F9
                                          rename News s1.heap _ _ _ => N9
                                          rename_i hvk
                                          refine cend_0 F9 N9 off2 hS ⟨rfl, ?_⟩
                                          rw [syms_take j hj, List.filter_append]
                                          refine h9.append ?_
                                          rw [hvk] at hlk
                                          simp only [List.filter_cons, List.filter_nil, hlk, decide_true, if_true]
                                          exact .cons _ _ .nil
                                        · rename Fr s1.heap _ _ _ => F9
                                          rename News s1.heap _ _ _ => N9
                                          rename_i hvk
                                          refine cend_0 F9 N9 off2 hS ⟨rfl, ?_⟩
                                          rw [syms_take j hj, List.filter_append]
                                          have hvk2 : ¬ (some vk = some ((i + 1 : Nat) : Int)) := fun e => hvk (by injection e)
                                          have hno : ([7 * (j : Int)]).filter (fun x => decide (look S x = some ((i + 1 : Nat) : Int))) = [] := by
                                            simp only [List.filter_cons, List.filter_nil, hlk]; rw [decide_eq_false hvk2]; rfl
                                          rw [hno, List.append_nil]; exact h9
                                    case cf =>
                                      rintro g3 ys nw hJ97
                                      refine el0_2 hJ97 ?_
                                      clear hJ97
                                      rintro rfl h9 hS3
                                      have e7 : ((i + 1 : Nat) : Int) = (i : Int) + 1 := by (first | lia | omega)
                                      have e8 : syms.take 6 = syms := by decide
                                      have h10 : IntsAre ys (dueAt S ((i : Int) + 1)) := by rw [e8, e7] at h9; exact h9
                                      have hl2 : ys.length ≤ 6 := by rw [h10.length]; exact Nat.le_trans (List.length_filter_le _ _) (by decide)
                                      have hl1 : vd.length ≤ 6 * i := by rw [hvd.length]; exact dueC_len S i
                                      clear h9
                                      unfold LCg.FinE
                                      intro D4 h tk F5 N5 o3
                                      clear N38 rgS F31
                                      (try k_fold)
                                      repeat' (first | (k_unfold; (try dsimp only)) | (k_end; wrow_close) | (exact hret _ _ ⟨_, _, _, rfl, rfl, by assumption⟩) | (fail_if_success (with_reducible show wpAny _ _ (exec (Stmt.For _ _ _ _ _) _) _ _ _)); (fail_if_success (with_reducible show wpAny _ _ (compareOp _ (Value.ref _) (Value.ref _)) _ _ _)); (fail_if_success (with_reducible show wpAny _ _ (call (Value.ref _) _) _ _ _)); first | walk1 | (dsimp only; walk1) | (leave1; walk_say "STEP leave1"; try dsimp only) | fail "no step")
                                      rename Fr s1.heap _ _ _ => F32
                                      rename News s1.heap _ _ _ => N39
                                      rename_i Ds hds lDs hds2
                                      have hDI : @Ne Nat Ds I := Nat.ne_of_gt lDs.2.1
                                      have hD5' : @Ne Nat Ds (L' + 1 + 1 + 1 + 1 + 1) := Nat.ne_of_gt lDs.2.2.1
                                      refine ⟨_, _, _, (L' + 1 + 1 + 1 + 1 + 1, o5) :: (Ds, listOf (vd ++ ys).toArray 0) :: rest, rfl, F32, fun p hp => N39 p ?_, List.forall_mem_cons.mpr ⟨hI5, List.forall_mem_cons.mpr ⟨hDI, fun p hp => off p (.tail _ hp)⟩⟩, (fun _ h => nomatch h), o5, Ds, vd ++ ys, 0, _, _, fmH3 rfl rfl rfl, rfl, ⟨_, d5x⟩, (fun p hp => .tail _ (hb p hp)), List.forall_mem_cons.mpr ⟨hD5', hn5⟩, .head _, hvd.append h10⟩
                                      revert hp p; walk_at "sub"
                                  case done =>
                                    rintro m₁ nx h tk hJ98
                                    refine el6_7 hJ98 ?_
                                    clear hJ98
                                    rintro oz2 lr vd nd rest u rfl rfl hJ99
                                    refine el1_1 hJ99 ?_
                                    clear hJ99
                                    rintro vz hz2 hb hn5 hlr hvd F30 N37
                                    have r1 := hb _ o1
                                    have r2 := hb _ o2
                                    have r3 := hb _ o3
                                    have r4 := hb _ o4
                                    have rU := hb _ oU
                                    have rAd := hb _ oAd
                                    have rpc := hb _ opc
                                    have rps := hb _ ops
                                    clear F29 N36 nb8 hin8 hseq8 o1 o2 o3 o4 oU oAd opc ops hbase8
                                    as_aux_lemma =>
                                      w_top off
                                      have hkS : ∀ p ∈ S, p.1 ∈ usedK D := fun p hp => hkp.mem_iff.mp (List.mem_map_of_mem hp)
                                      have hSc : ∀ p ∈ S, p.2 = ((cz p.1 : Nat) : Int) := fun p hp => by
                                        have h1 := look_of_mem hSd.nodup hp
                                        have h2 := hTold.at_ p.1
                                        rw [if_pos (hkS p hp), h1] at h2
                                        injection h2
                                      have hsy : ∀ p ∈ S, p.1 ∈ syms := fun p hp => by
                                        have hJ100 := List.mem_map.mp (hkS p hp)
                                        refine el1_2 hJ100 ?_
                                        clear hJ100
                                        rintro q hq e
                                        have hJ101 := hkeys q (List.mem_filter.mp hq).1
                                        refine el1_2 hJ101 ?_
                                        clear hJ101
                                        rintro k hk e2
                                        rw [← e, e2]
                                        have : ∀ k : Nat, k < 5 → (7 * (k : Int)) ∈ syms := by decide
                                        exact this k hk
                                      have hQd : Q'.map (·.2) = dueC S 16 := due_eq hSd.nodup hQ hQs hSv hsy
                                      have hcu2 : cts S = (List.range 16).map fun j : Nat => (((usedK D).filter fun x => decide (((cz x : Nat) : Int) = ((j + 1 : Nat) : Int))).length : Int) := cts_used hkp hSc
                                      have hvsl : vs.length ≤ 5 := by rw [hvs.length, List.length_map, hQ.length_eq, List.length_map]; (first | lia | omega)
                                      have hvcl : vc.length = 16 := by rw [hvc.length, cts_len]
                                      rw [hQd] at hvs
                                      (try k_fold)
                                      repeat' (first | (k_unfold; (try dsimp only)) | (k_end; wrow_close) | (exact hret _ _ ⟨_, _, _, rfl, rfl, by assumption⟩) | (fail_if_success (with_reducible show wpAny _ _ (exec (Stmt.For _ _ _ _ _) _) _ _ _)); (fail_if_success (with_reducible show wpAny _ _ (compareOp _ (Value.ref _) (Value.ref _)) _ _ _)); (fail_if_success (with_reducible show wpAny _ _ (call (Value.ref _) _) _ _ _)); first | walk1 | (dsimp only; walk1) | (leave1; walk_say "STEP leave1"; try dsimp only) | fail "no step")
                                      rename Fr s1.heap _ _ _ => F33
                                      rename News s1.heap _ _ _ => N40
                                      with_unfolding_all refine' PySem.W.kup_listOfT (zs := vs) F33 N40 (.tail _ rps) rfl ?_ ?z
                                      case z => rw [sizeLine_eq]; (try dsimp only); (first | lia | omega)
                                      intro Ls cs' hLs F34 N41 lLs
                                      clear F33 N40
                                      (try dsimp only)
                                      (try k_fold)
                                      repeat' (first | (k_unfold; (try dsimp only)) | (k_end; wrow_close) | (exact hret _ _ ⟨_, _, _, rfl, rfl, by assumption⟩) | (fail_if_success (with_reducible show wpAny _ _ (exec (Stmt.For _ _ _ _ _) _) _ _ _)); (fail_if_success (with_reducible show wpAny _ _ (compareOp _ (Value.ref _) (Value.ref _)) _ _ _)); (fail_if_success (with_reducible show wpAny _ _ (call (Value.ref _) _) _ _ _)); first | walk1 | (dsimp only; walk1) | (leave1; walk_say "STEP leave1"; try dsimp only) | fail "no step")
                                      rename Fr s1.heap _ _ _ => F35
                                      rename News s1.heap _ _ _ => N42
                                      with_unfolding_all refine' ne_dat (r := true) N42 (.head _) (dat_ints (L := []) hvs) (fun _ h => nomatch h) (.tail _ (.tail _ hlr)) (dat_ints (L := []) hvd) (fun _ h => nomatch h) intsD_ok intsD_ok ?hu (by simp) ?_
                                      case hu => first | exact room2 hun (by decide) | (show callerA.units + 3 + _ < _; exact room2 hun (by decide)) | (simp only [units_deeper]; (first | lia | omega))
                                      (try k_unfold)
                                      (try dsimp only)
                                      (try k_fold)
                                      repeat' (first | (k_unfold; (try dsimp only)) | (k_end; wrow_close) | (exact hret _ _ ⟨_, _, _, rfl, rfl, by assumption⟩) | (fail_if_success (with_reducible show wpAny _ _ (exec (Stmt.For _ _ _ _ _) _) _ _ _)); (fail_if_success (with_reducible show wpAny _ _ (compareOp _ (Value.ref _) (Value.ref _)) _ _ _)); (fail_if_success (with_reducible show wpAny _ _ (call (Value.ref _) _) _ _ _)); first | walk1 | (dsimp only; walk1) | (leave1; walk_say "STEP leave1"; try dsimp only) | fail "no step")
                                      rename Fr s1.heap _ _ _ => F36
                                      rename News s1.heap _ _ _ => N43
                                      with_unfolding_all refine' PySem.W.kup_listOfT (zs := vc) F36 N43 (.tail _ (.tail _ rpc)) rfl ?_ ?z
                                      case z => rw [sizeLine_eq]; (try dsimp only); (first | lia | omega)
                                      intro Lc cc' hLc F37 N44 lLc
                                      (try dsimp only)
                                      (try k_fold)
                                      repeat' (first | (k_unfold; (try dsimp only)) | (k_end; wrow_close) | (exact hret _ _ ⟨_, _, _, rfl, rfl, by assumption⟩) | (fail_if_success (with_reducible show wpAny _ _ (exec (Stmt.For _ _ _ _ _) _) _ _ _)); (fail_if_success (with_reducible show wpAny _ _ (compareOp _ (Value.ref _) (Value.ref _)) _ _ _)); (fail_if_success (with_reducible show wpAny _ _ (call (Value.ref _) _) _ _ _)); first | walk1 | (dsimp only; walk1) | (leave1; walk_say "STEP leave1"; try dsimp only) | fail "no step")
                                      rename Fr s1.heap _ _ _ => F38
                                      rename News s1.heap _ _ _ => N45
                                      k_dflt (refine comp_Z F38 (by with_unfolding_all rfl) (fun _ _ => rfl) (fun _ => rfl) (by rfl) (by decide) (by rfl) ?_)
                                      (try k_fold)
                                      repeat' (first | (k_unfold; (try dsimp only)) | (k_end; wrow_close) | (exact hret _ _ ⟨_, _, _, rfl, rfl, by assumption⟩) | (fail_if_success (with_reducible show wpAny _ _ (exec (Stmt.For _ _ _ _ _) _) _ _ _)); (fail_if_success (with_reducible show wpAny _ _ (compareOp _ (Value.ref _) (Value.ref _)) _ _ _)); (fail_if_success (with_reducible show wpAny _ _ (call (Value.ref _) _) _ _ _)); first | walk1 | (dsimp only; walk1) | (leave1; walk_say "STEP leave1"; try dsimp only) | fail "no step")
                                      rename IsRange _ _ _ _ _ _ _ _ => rgC
                                      rename Fr s1.heap _ _ _ => F39
                                      rename News s1.heap _ _ _ => N46
                                      have hJ102 := news_name N46
                                      refine el1_2 hJ102 ?_
                                      clear hJ102
                                      rintro all8 hall8 N47
                                      clear N46
                                      have w3 : (L' + 1 + 1 + 1, ou2) ∈ all8 := by rw [hall8]; exact .tail _ (.tail _ (.tail _ r3))
                                      have w4 : (L' + 1 + 1 + 1 + 1, ot2) ∈ all8 := by rw [hall8]; exact .tail _ (.tail _ (.tail _ r4))
                                      have wU : (D1, LCg.lst ys) ∈ all8 := by rw [hall8]; exact .tail _ (.tail _ (.tail _ rU))
                                      have wAd : (Ad, od) ∈ all8 := by rw [hall8]; exact .tail _ (.tail _ (.tail _ rAd))
                                      refine ⟨_, _, _, _, _, _, _, 16, _, (fun i ys9 nw => nw = all8 ∧ IntsAre ys9 ((List.range i).map fun j : Nat => (((usedK D).filter fun x => decide (((cz x : Nat) : Int) = ((j + 1 : Nat) : Int))).length : Int))), rfl, rfl, F39, N47, rgC, by decide, by decide, by decide, ⟨rfl, .nil⟩, ?turn, ?fin⟩
                                      case turn =>
                                        rintro i ys9 nw v I oI C oC Z oZ D' h tk E' hi hJ103
                                        refine el0_2 hJ103 ?_
                                        clear hJ103
                                        rintro rfl h9 hJ104
                                        refine el1_1 hJ104 ?_
                                        clear hJ104
                                        rintro t8 rfl hz F5 N5 off9
                                        have e3 : (1 : Int) + (i : Int) * 1 = ((i + 1 : Nat) : Int) := by (first | lia | omega)
                                        rw [e3] at hz
                                        clear N47 rgC F39
                                        (try k_fold)
                                        repeat' (first | (k_unfold; (try dsimp only)) | (k_end; wrow_close) | (exact hret _ _ ⟨_, _, _, rfl, rfl, by assumption⟩) | (fail_if_success (with_reducible show wpAny _ _ (exec (Stmt.For _ _ _ _ _) _) _ _ _)); (fail_if_success (with_reducible show wpAny _ _ (compareOp _ (Value.ref _) (Value.ref _)) _ _ _)); (fail_if_success (with_reducible show wpAny _ _ (call (Value.ref _) _) _ _ _)); first | walk1 | (dsimp only; walk1) | (leave1; walk_say "STEP leave1"; try dsimp only) | fail "no step")
                                        rename Fr s1.heap _ _ _ => F40
                                        rename News s1.heap _ _ _ => N48
                                        refine srcT_list rfl F40 N48 (.tail _ (.tail _ (.tail _ (.tail _ wU)))) (by (first | lia | omega)) (fun j ysn nwn => nwn = (I, oI) :: (C, oC) :: (Z, oZ) :: (D', LCg.lst ys9) :: nw ∧ IntsAre ysn (((usedK D).take j).filter fun x => decide (((cz x : Nat) : Int) = ((i + 1 : Nat) : Int)))) ⟨rfl, .nil⟩ ?ct ?cf
                                        case ct =>
                                          rintro j ysn nwn v I2 oI2 C2 oC2 D2' m₂ h tk E' hj hJ105
                                          refine el0_2 hJ105 ?_
                                          clear hJ105
                                          rintro rfl h10 hv hC2 hx F6 N6 off2 ne hS
                                          have hJ106 := ints_at h7 hv
                                          refine el1_1 hJ106 ?_
                                          clear hJ106
                                          rintro tv rfl
                                          have hju : j < (usedK D).length := by rw [← hyl]; exact hj
                                          have hJ107 := hcx j hju
                                          refine el0_3 hJ107 ?_
                                          clear hJ107
                                          rintro g1 g2 g3
                                          clear N48
                                          (try k_fold)
                                          repeat' (first | (k_unfold; (try dsimp only)) | (k_end; wrow_close) | (exact hret _ _ ⟨_, _, _, rfl, rfl, by assumption⟩) | (fail_if_success (with_reducible show wpAny _ _ (exec (Stmt.For _ _ _ _ _) _) _ _ _)); (fail_if_success (with_reducible show wpAny _ _ (compareOp _ (Value.ref _) (Value.ref _)) _ _ _)); (fail_if_success (with_reducible show wpAny _ _ (call (Value.ref _) _) _ _ _)); first | walk1 | (dsimp only; walk1) | (leave1; walk_say "STEP leave1"; try dsimp only) | fail "no step")
                                          · rename Fr s1.heap _ _ _ => F9
                                            rename News s1.heap _ _ _ => N9
                                            rename_i hvk
                                            refine cend_0 F9 N9 off2 hS ⟨rfl, ?_⟩
                                            rw [take_getD hju, List.filter_append]
                                            refine h10.append ?_
                                            simp only [List.filter_cons, List.filter_nil, hvk, decide_true, if_true]
                                            exact .cons _ _ .nil
                                          · rename Fr s1.heap _ _ _ => F9
                                            rename News s1.heap _ _ _ => N9
                                            rename_i hvk
                                            refine cend_0 F9 N9 off2 hS ⟨rfl, ?_⟩
                                            rw [take_getD hju, List.filter_append]
                                            have hno : ([(usedK D).getD j 0]).filter (fun x => decide (((cz x : Nat) : Int) = ((i + 1 : Nat) : Int))) = [] := by
                                              simp only [List.filter_cons, List.filter_nil]; rw [decide_eq_false hvk]; rfl
                                            rw [hno, List.append_nil]; exact h10
                                        case cf =>
                                          rintro g8 ysn nwn hJ108
                                          refine el0_2 hJ108 ?_
                                          clear hJ108
                                          rintro rfl h10 hS8
                                          rw [List.take_of_length_le (by (first | lia | omega))] at h10
                                          unfold LCg.FinE
                                          intro D8 h tk F6 N6 o8
                                          clear N48 hS8
                                          have hJ109 : ∃ kl : Nat, kl = ((usedK D).filter fun x => decide (((cz x : Nat) : Int) = ((i + 1 : Nat) : Int))).length := ⟨_, rfl⟩
                                          refine el1_1 hJ109 ?_
                                          clear hJ109
                                          rintro kl hkl9
                                          have hkl5 : kl ≤ 5 := by rw [hkl9]; exact Nat.le_trans (List.length_filter_le _ _) hul
                                          have hkly : ysn.length = kl := by rw [hkl9]; exact h10.length
                                          (try k_fold)
                                          repeat' (first | (k_unfold; (try dsimp only)) | (k_end; wrow_close) | (exact hret _ _ ⟨_, _, _, rfl, rfl, by assumption⟩) | (fail_if_success (with_reducible show wpAny _ _ (exec (Stmt.For _ _ _ _ _) _) _ _ _)); (fail_if_success (with_reducible show wpAny _ _ (compareOp _ (Value.ref _) (Value.ref _)) _ _ _)); (fail_if_success (with_reducible show wpAny _ _ (call (Value.ref _) _) _ _ _)); first | walk1 | (dsimp only; walk1) | (leave1; walk_say "STEP leave1"; try dsimp only) | fail "no step")
                                          rename Fr s1.heap _ _ _ => F9
                                          rename News s1.heap _ _ _ => N9
                                          refine ⟨_, _, nw, rfl, F9, fun p hp => N9 p (.tail _ hp), off9, rfl, ?_⟩
                                          rw [List.range_succ, List.map_append, List.map_singleton, ← hkl9]
                                          exact h9.append (.cons _ _ .nil)
                                      case fin =>
                                        rintro ys9 nw hJ110
                                        refine el0_2 hJ110 ?_
                                        clear hJ110
                                        rintro rfl h9
                                        unfold LCg.FinE
                                        intro D6 h tk F5 N5 o5
                                        clear N47 F39
                                        rw [← hcu2] at h9
                                        (try k_fold)
                                        repeat' (first | (k_unfold; (try dsimp only)) | (k_end; wrow_close) | (exact hret _ _ ⟨_, _, _, rfl, rfl, by assumption⟩) | (fail_if_success (with_reducible show wpAny _ _ (exec (Stmt.For _ _ _ _ _) _) _ _ _)); (fail_if_success (with_reducible show wpAny _ _ (compareOp _ (Value.ref _) (Value.ref _)) _ _ _)); (fail_if_success (with_reducible show wpAny _ _ (call (Value.ref _) _) _ _ _)); first | walk1 | (dsimp only; walk1) | (leave1; walk_say "STEP leave1"; try dsimp only) | fail "no step")
                                        rename Fr s1.heap _ _ _ => F41
                                        rename News s1.heap _ _ _ => N49
                                        have wLc : (Lc, listOf vc.toArray cc') ∈ nw := by rw [hall8]; exact .head _
                                        with_unfolding_all refine' ne_dat (r := true) N49 (.tail _ wLc) (dat_ints (L := []) hvc) (fun _ h => nomatch h) (.head _) (dat_ints (L := []) h9) (fun _ h => nomatch h) intsD_ok intsD_ok ?hu (by simp) ?_
                                        case hu => first | exact room2 hun (by decide) | (show callerA.units + 3 + _ < _; exact room2 hun (by decide)) | (simp only [units_deeper]; (first | lia | omega))
                                        (try k_unfold)
                                        (try dsimp only)
                                        (try k_fold)
                                        repeat' (first | (k_unfold; (try dsimp only)) | (k_end; wrow_close) | (exact hret _ _ ⟨_, _, _, rfl, rfl, by assumption⟩) | (fail_if_success (with_reducible show wpAny _ _ (exec (Stmt.For _ _ _ _ _) _) _ _ _)); (fail_if_success (with_reducible show wpAny _ _ (compareOp _ (Value.ref _) (Value.ref _)) _ _ _)); (fail_if_success (with_reducible show wpAny _ _ (call (Value.ref _) _) _ _ _)); first | walk1 | (dsimp only; walk1) | (leave1; walk_say "STEP leave1"; try dsimp only) | fail "no step")
                                        rename Fr s1.heap _ _ _ => F42
                                        rename News s1.heap _ _ _ => N50
                                        have x3 : (L' + 1 + 1 + 1, ou2) ∈ (D6, LCg.lst ys9) :: nw := .tail _ w3
                                        have x4 : (L' + 1 + 1 + 1 + 1, ot2) ∈ (D6, LCg.lst ys9) :: nw := .tail _ w4
                                        have xU : (D1, LCg.lst ys) ∈ (D6, LCg.lst ys9) :: nw := .tail _ wU
                                        have xAd : (Ad, od) ∈ (D6, LCg.lst ys9) :: nw := .tail _ wAd
                                        have xpc : (pc, tupL vc nc) ∈ (D6, LCg.lst ys9) :: nw := by rw [hall8]; exact .tail _ (.tail _ (.tail _ (.tail _ rpc)))
                                        have xps : (ps, tupL vs nvs) ∈ (D6, LCg.lst ys9) :: nw := by rw [hall8]; exact .tail _ (.tail _ (.tail _ (.tail _ rps)))
                                        clear w3 w4 wU wAd wLc r1 r2 r3 r4 rU rAd rpc rps hlr hall8
                                        as_aux_lemma =>
                                          w_top off
                                          have hJ111 := least_in cz hU
                                          refine el1_2 hJ111 ?_
                                          clear hJ111
                                          rintro xm hxm hxl
                                          have hone : ∀ x ∈ usedK D, 1 ≤ cz x ∧ cz x ≤ 16 := fun x hx => by have := hTold.one x hx; (first | lia | omega)
                                          have hvc3 : IntsAre vc (cU (usedK D) cz) := by have h := hvc; rw [hcu2] at h; exact h
                                          have hdl : (dueC S 16).length = (usedK D).length := by rw [← hQd, List.length_map, hQ.length_eq, List.length_map, hSl]
                                          have hsum : (cU (usedK D) cz).sum = ((dueC S 16).length : Int) := by rw [hdl]; exact cU_sum hone
                                          have hd200 : (dueC S 16).length ≤ 200 := by (first | lia | omega)
                                          have hd1 : (0 : Int) < ((dueC S 16).length : Int) := by rw [hdl]; have := List.length_pos_iff.mpr hU; (first | lia | omega)
                                          have hd62 : (dueC S 16).length < 2 ^ 62 := Nat.lt_of_le_of_lt hd200 (by decide)
                                          have hdnd : (dueC S 16).Nodup := by
                                            rw [← hQd]
                                            refine (hQ.map _).nodup_iff.mpr ?_
                                            rw [List.map_map]
                                            exact hSd.nodup
                                          have hroomC := code_room hTold.one hTold.room
                                          have hs01 : (1 : Int) ≤ ((cz xm : Nat) : Int) ∧ ((cz xm : Nat) : Int) ≤ 16 := by have := hone xm hxm; (first | lia | omega)
                                          have hlow := cU_low (U := usedK D) (c := cz) hs01.2 (fun y hy => by have := hxl y hy; (first | lia | omega))
                                          have hats := cU_at hxm (hone xm hxm)
                                          have hvl1 : 1 ≤ vs.length := by rw [hvs.length, hdl]; exact List.length_pos_iff.mpr hU
                                          with_unfolding_all refine' tel_use (init_tel w xpc hvc3 xps hvs cU_nonneg (cU_len _ _) hsum hd200 hdnd hroomC hs01 hlow hats) K1 F42 KX N50 T rfl ?hd ?hu ?_
                                          case hd => first | exact room1 hdp (by decide) | exact Nat.lt_of_le_of_lt (by (first | lia | omega)) hdp
                                          case hu => first | exact room2 hun (by decide) | exact Nat.lt_of_le_of_lt (by (first | lia | omega)) hun
                                          rintro rH newsH hH tkH F43 N51 hJ112
                                          refine el15_9 hJ112 ?_
                                          clear hJ112
                                          rintro xH dH cdH lrH ocH kvsH tpH k1H k2H k3H k4H cH tH uH nH rfl hgH hxH hdH hcdH hloH hkdH hkvH htpH
                                          clear F42 N50
                                          have y3 := hgH.sub _ x3
                                          have y4 := hgH.sub _ x4
                                          have yU := hgH.sub _ xU
                                          have yAd := hgH.sub _ xAd
                                          have yps := hgH.sub _ xps
                                          (try k_fold)
                                          repeat' (first | (k_unfold; (try dsimp only)) | (k_end; wrow_close) | (exact hret _ _ ⟨_, _, _, rfl, rfl, by assumption⟩) | (fail_if_success (with_reducible show wpAny _ _ (exec (Stmt.For _ _ _ _ _) _) _ _ _)); (fail_if_success (with_reducible show wpAny _ _ (compareOp _ (Value.ref _) (Value.ref _)) _ _ _)); (fail_if_success (with_reducible show wpAny _ _ (call (Value.ref _) _) _ _ _)); (fail_if_success (with_reducible show wpAny _ _ (subscriptTail _ _ (Value.ref _) (Value.int _ _)) _ _ _)); first | walk1 | (dsimp only; walk1) | (leave1; walk_say "STEP leave1"; try dsimp only) | fail "no step")
                                          rename Fr s1.heap _ _ _ => F44
                                          rename News s1.heap _ _ _ => N52
                                          k_dflt (refine' int_itemT N52 yps hvs (by decide) hd1 hd62 ?_ ?k7; (case k7 => with_unfolding_all rfl); k_whole)
                                          intro tS
                                          (try k_fold)
                                          repeat' (first | (k_unfold; (try dsimp only)) | (k_end; wrow_close) | (exact hret _ _ ⟨_, _, _, rfl, rfl, by assumption⟩) | (fail_if_success (with_reducible show wpAny _ _ (exec (Stmt.For _ _ _ _ _) _) _ _ _)); (fail_if_success (with_reducible show wpAny _ _ (compareOp _ (Value.ref _) (Value.ref _)) _ _ _)); (fail_if_success (with_reducible show wpAny _ _ (call (Value.ref _) _) _ _ _)); first | walk1 | (dsimp only; walk1) | (leave1; walk_say "STEP leave1"; try dsimp only) | fail "no step")
                                          rename Fr s1.heap _ _ _ => F45
                                          rename News s1.heap _ _ _ => N53
                                          with_unfolding_all refine' tel_use (code_tel (s0 := 0) (c := cH) (t := tH) (u := uH) (n := nH) w hxH hdH hcdH hloH hkdH hkvH) K1 F45 KX N53 T rfl ?hd ?hu ?_
                                          case hd => first | exact room1 hdp (by decide) | exact Nat.lt_of_le_of_lt (by (first | lia | omega)) hdp
                                          case hu => first | exact room2 hun (by decide) | exact Nat.lt_of_le_of_lt (by (first | lia | omega)) hun
                                          rintro rC newsC hC tkC F46 N54 hJ113
                                          refine el0_2 hJ113 ?_
                                          clear hJ113
                                          rintro rfl hgC
                                          have z3 := hgC.sub _ y3
                                          have z4 := hgC.sub _ y4
                                          have zU := hgC.sub _ yU
                                          have zAd := hgC.sub _ yAd
                                          have ztp := hgC.sub _ htpH
                                          (try k_fold)
                                          repeat' (first | (k_unfold; (try dsimp only)) | (k_end; wrow_close) | (exact hret _ _ ⟨_, _, _, rfl, rfl, by assumption⟩) | (fail_if_success (with_reducible show wpAny _ _ (exec (Stmt.For _ _ _ _ _) _) _ _ _)); (fail_if_success (with_reducible show wpAny _ _ (compareOp _ (Value.ref _) (Value.ref _)) _ _ _)); (fail_if_success (with_reducible show wpAny _ _ (call (Value.ref _) _) _ _ _)); (fail_if_success (with_reducible show wpAny _ _ (subscriptTail _ _ (Value.ref _) (Value.int _ _)) _ _ _)); first | walk1 | (dsimp only; walk1) | (leave1; walk_say "STEP leave1"; try dsimp only) | fail "no step")
                                          rename Fr s1.heap _ _ _ => F47
                                          rename News s1.heap _ _ _ => N55
                                          k_dflt (refine' tupL_item N55 ztp (by decide) (by decide) rfl ?_ ?k7; (case k7 => with_unfolding_all rfl); k_whole)
                                          (try k_fold)
                                          repeat' (first | (k_unfold; (try dsimp only)) | (k_end; wrow_close) | (exact hret _ _ ⟨_, _, _, rfl, rfl, by assumption⟩) | (fail_if_success (with_reducible show wpAny _ _ (exec (Stmt.For _ _ _ _ _) _) _ _ _)); (fail_if_success (with_reducible show wpAny _ _ (compareOp _ (Value.ref _) (Value.ref _)) _ _ _)); (fail_if_success (with_reducible show wpAny _ _ (call (Value.ref _) _) _ _ _)); first | walk1 | (dsimp only; walk1) | (leave1; walk_say "STEP leave1"; try dsimp only) | fail "no step")
                                          rename Fr s1.heap _ _ _ => F48
                                          rename News s1.heap _ _ _ => N56
                                          have hJ114 := news_name N56
                                          refine el1_2 hJ114 ?_
                                          clear hJ114
                                          rintro all9 hall9 N57
                                          clear N56
                                          have v3 : (L' + 1 + 1 + 1, ou2) ∈ all9 := by rw [hall9]; exact z3
                                          have v4 : (L' + 1 + 1 + 1 + 1, ot2) ∈ all9 := by rw [hall9]; exact z4
                                          have vU : (D1, LCg.lst ys) ∈ all9 := by rw [hall9]; exact zU
                                          have vAd : (Ad, od) ∈ all9 := by rw [hall9]; exact zAd
                                          refine srcU_list rfl F48 N57 vU (by (first | lia | omega)) (fun i yss nws => nws = all9 ∧ IntsAre yss (((usedK D).take i).map fun x => ((cz x : Nat) : Int))) ⟨rfl, .nil⟩ ?turnM ?finM
                                          case turnM =>
                                            rintro i yss nws v I oI C oC D' m₂ h tk E' hi hJ115
                                            refine el0_2 hJ115 ?_
                                            clear hJ115
                                            rintro rfl h10 hv hC hx F5 N5 off ne hS
                                            have hJ116 := ints_at h7 hv
                                            refine el1_1 hJ116 ?_
                                            clear hJ116
                                            rintro tv rfl
                                            have hiu : i < (usedK D).length := by rw [← hyl]; exact hi
                                            have hJ117 := hcx i hiu
                                            refine el0_3 hJ117 ?_
                                            clear hJ117
                                            rintro g1 g2 g3
                                            clear N57
                                            (try k_fold)
                                            repeat' (first | (k_unfold; (try dsimp only)) | (k_end; wrow_close) | (exact hret _ _ ⟨_, _, _, rfl, rfl, by assumption⟩) | (fail_if_success (with_reducible show wpAny _ _ (exec (Stmt.For _ _ _ _ _) _) _ _ _)); (fail_if_success (with_reducible show wpAny _ _ (compareOp _ (Value.ref _) (Value.ref _)) _ _ _)); (fail_if_success (with_reducible show wpAny _ _ (call (Value.ref _) _) _ _ _)); first | walk1 | (dsimp only; walk1) | (leave1; walk_say "STEP leave1"; try dsimp only) | fail "no step")
                                            rename Fr s1.heap _ _ _ => F9
                                            rename News s1.heap _ _ _ => N9
                                            refine cend_0 F9 N9 off hS ⟨rfl, ?_⟩
                                            rw [take_getD hiu, List.map_append]
                                            exact h10.append (.cons _ _ .nil)
                                          case finM =>
                                            rintro g9 yss nws hJ118
                                            refine el0_2 hJ118 ?_
                                            clear hJ118
                                            rintro rfl h10 hS9
                                            rw [List.take_of_length_le (by (first | lia | omega))] at h10
                                            have hml : 0 < ((usedK D).map fun x => ((cz x : Nat) : Int)).length := by rw [List.length_map]; exact List.length_pos_iff.mpr hU
                                            unfold LCg.FinE
                                            intro D9 h tk F5 N5 o9
                                            clear F48 N57 hS9
                                            (try k_fold)
                                            iterate 2 (first | (k_unfold; (try dsimp only)) | (k_end; wrow_close) | (exact hret _ _ ⟨_, _, _, rfl, rfl, by assumption⟩) | walk1 | (dsimp only; walk1) | (leave1; walk_say "STEP leave1"; try dsimp only) | fail "no step")
                                            rename Fr s1.heap _ _ _ => F49
                                            rename News s1.heap _ _ _ => N58
                                            with_unfolding_all refine' my_min ?k0 F49 N58 (.head _) h10 hml ?_
                                            case k0 => rfl
                                            intro hM2 M tkM tM F50 N59 hM hMl
                                            have hMe : M = ((cz xm : Nat) : Int) := by
                                              have hJ119 := List.mem_map.mp hM
                                              refine el1_2 hJ119 ?_
                                              clear hJ119
                                              rintro xq hxq rfl
                                              have h1 := hxl xq hxq
                                              have h2 := hMl _ (List.mem_map_of_mem hxm)
                                              (first | lia | omega)
                                            subst hMe
                                            clear hM hMl F49 N58
                                            iterate 1 (first | (k_unfold; (try dsimp only)) | (k_end; wrow_close) | (exact hret _ _ ⟨_, _, _, rfl, rfl, by assumption⟩) | walk1 | (dsimp only; walk1) | (leave1; walk_say "STEP leave1"; try dsimp only) | fail "no step")
                                            rw [show ((((cz xm : Nat) : Int)) == ((cz xm : Nat) : Int)) = true from beq_self_eq_true _]
                                            exact hret _ _ ⟨_, _, _, rfl, rfl, F50⟩
end --T_Law
end --T_RULES
end Mine
theorem PySem.Challenge.cw_ok0135_01_holds : PySem.Challenge.rw_ok0135_01.Holds :=
  Mine.law_whole
