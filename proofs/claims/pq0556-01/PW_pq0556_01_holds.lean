import PyProof.Rows.All
import Wide.All
import OpenK.AllK
import Wide.FinOn
import KE.KDictOf
import KE.KPar
import PySem.Challenge.RW_pq0556_01
set_option compiler.extract_closed false
set_option linter.all false
namespace Mine
theorem an2 {p1 p2 G : Prop} (h : p1 ∧ p2) (k : p1 → p2 → G) : G := k h.1 h.2
theorem an3 {p1 p2 p3 G : Prop} (h : p1 ∧ p2 ∧ p3) (k : p1 → p2 → p3 → G) : G := k h.1 h.2.1 h.2.2
theorem an4 {p1 p2 p3 p4 G : Prop} (h : p1 ∧ p2 ∧ p3 ∧ p4) (k : p1 → p2 → p3 → p4 → G) : G := k h.1 h.2.1 h.2.2.1 h.2.2.2
theorem an5 {p1 p2 p3 p4 p5 G : Prop} (h : p1 ∧ p2 ∧ p3 ∧ p4 ∧ p5) (k : p1 → p2 → p3 → p4 → p5 → G) : G := k h.1 h.2.1 h.2.2.1 h.2.2.2.1 h.2.2.2.2
theorem an6 {p1 p2 p3 p4 p5 p6 G : Prop} (h : p1 ∧ p2 ∧ p3 ∧ p4 ∧ p5 ∧ p6) (k : p1 → p2 → p3 → p4 → p5 → p6 → G) : G := k h.1 h.2.1 h.2.2.1 h.2.2.2.1 h.2.2.2.2.1 h.2.2.2.2.2
theorem an7 {p1 p2 p3 p4 p5 p6 p7 G : Prop} (h : p1 ∧ p2 ∧ p3 ∧ p4 ∧ p5 ∧ p6 ∧ p7) (k : p1 → p2 → p3 → p4 → p5 → p6 → p7 → G) : G := k h.1 h.2.1 h.2.2.1 h.2.2.2.1 h.2.2.2.2.1 h.2.2.2.2.2.1 h.2.2.2.2.2.2
theorem an8 {p1 p2 p3 p4 p5 p6 p7 p8 G : Prop} (h : p1 ∧ p2 ∧ p3 ∧ p4 ∧ p5 ∧ p6 ∧ p7 ∧ p8) (k : p1 → p2 → p3 → p4 → p5 → p6 → p7 → p8 → G) : G := k h.1 h.2.1 h.2.2.1 h.2.2.2.1 h.2.2.2.2.1 h.2.2.2.2.2.1 h.2.2.2.2.2.2.1 h.2.2.2.2.2.2.2
theorem an9 {p1 p2 p3 p4 p5 p6 p7 p8 p9 G : Prop} (h : p1 ∧ p2 ∧ p3 ∧ p4 ∧ p5 ∧ p6 ∧ p7 ∧ p8 ∧ p9) (k : p1 → p2 → p3 → p4 → p5 → p6 → p7 → p8 → p9 → G) : G := k h.1 h.2.1 h.2.2.1 h.2.2.2.1 h.2.2.2.2.1 h.2.2.2.2.2.1 h.2.2.2.2.2.2.1 h.2.2.2.2.2.2.2.1 h.2.2.2.2.2.2.2.2
theorem an10 {p1 p2 p3 p4 p5 p6 p7 p8 p9 p10 G : Prop} (h : p1 ∧ p2 ∧ p3 ∧ p4 ∧ p5 ∧ p6 ∧ p7 ∧ p8 ∧ p9 ∧ p10) (k : p1 → p2 → p3 → p4 → p5 → p6 → p7 → p8 → p9 → p10 → G) : G := k h.1 h.2.1 h.2.2.1 h.2.2.2.1 h.2.2.2.2.1 h.2.2.2.2.2.1 h.2.2.2.2.2.2.1 h.2.2.2.2.2.2.2.1 h.2.2.2.2.2.2.2.2.1 h.2.2.2.2.2.2.2.2.2
theorem an11 {p1 p2 p3 p4 p5 p6 p7 p8 p9 p10 p11 G : Prop} (h : p1 ∧ p2 ∧ p3 ∧ p4 ∧ p5 ∧ p6 ∧ p7 ∧ p8 ∧ p9 ∧ p10 ∧ p11) (k : p1 → p2 → p3 → p4 → p5 → p6 → p7 → p8 → p9 → p10 → p11 → G) : G := k h.1 h.2.1 h.2.2.1 h.2.2.2.1 h.2.2.2.2.1 h.2.2.2.2.2.1 h.2.2.2.2.2.2.1 h.2.2.2.2.2.2.2.1 h.2.2.2.2.2.2.2.2.1 h.2.2.2.2.2.2.2.2.2.1 h.2.2.2.2.2.2.2.2.2.2
theorem an12 {p1 p2 p3 p4 p5 p6 p7 p8 p9 p10 p11 p12 G : Prop} (h : p1 ∧ p2 ∧ p3 ∧ p4 ∧ p5 ∧ p6 ∧ p7 ∧ p8 ∧ p9 ∧ p10 ∧ p11 ∧ p12) (k : p1 → p2 → p3 → p4 → p5 → p6 → p7 → p8 → p9 → p10 → p11 → p12 → G) : G := k h.1 h.2.1 h.2.2.1 h.2.2.2.1 h.2.2.2.2.1 h.2.2.2.2.2.1 h.2.2.2.2.2.2.1 h.2.2.2.2.2.2.2.1 h.2.2.2.2.2.2.2.2.1 h.2.2.2.2.2.2.2.2.2.1 h.2.2.2.2.2.2.2.2.2.2.1 h.2.2.2.2.2.2.2.2.2.2.2
theorem ex1_1 {α1 : Sort u1} {p1 : α1 → Prop} {G : Prop} (h : ∃ x1, p1 x1) (k : ∀ x1, p1 x1 → G) : G := h.elim fun x1 h => k x1 h
theorem ex1_2 {α1 : Sort u1} {p1 p2 : α1 → Prop} {G : Prop} (h : ∃ x1, p1 x1 ∧ p2 x1) (k : ∀ x1, p1 x1 → p2 x1 → G) : G := h.elim fun x1 h => k x1 h.1 h.2
theorem ex1_3 {α1 : Sort u1} {p1 p2 p3 : α1 → Prop} {G : Prop} (h : ∃ x1, p1 x1 ∧ p2 x1 ∧ p3 x1) (k : ∀ x1, p1 x1 → p2 x1 → p3 x1 → G) : G := h.elim fun x1 h => k x1 h.1 h.2.1 h.2.2
theorem ex1_4 {α1 : Sort u1} {p1 p2 p3 p4 : α1 → Prop} {G : Prop} (h : ∃ x1, p1 x1 ∧ p2 x1 ∧ p3 x1 ∧ p4 x1) (k : ∀ x1, p1 x1 → p2 x1 → p3 x1 → p4 x1 → G) : G := h.elim fun x1 h => k x1 h.1 h.2.1 h.2.2.1 h.2.2.2
theorem ex1_5 {α1 : Sort u1} {p1 p2 p3 p4 p5 : α1 → Prop} {G : Prop} (h : ∃ x1, p1 x1 ∧ p2 x1 ∧ p3 x1 ∧ p4 x1 ∧ p5 x1) (k : ∀ x1, p1 x1 → p2 x1 → p3 x1 → p4 x1 → p5 x1 → G) : G := h.elim fun x1 h => k x1 h.1 h.2.1 h.2.2.1 h.2.2.2.1 h.2.2.2.2
theorem ex1_6 {α1 : Sort u1} {p1 p2 p3 p4 p5 p6 : α1 → Prop} {G : Prop} (h : ∃ x1, p1 x1 ∧ p2 x1 ∧ p3 x1 ∧ p4 x1 ∧ p5 x1 ∧ p6 x1) (k : ∀ x1, p1 x1 → p2 x1 → p3 x1 → p4 x1 → p5 x1 → p6 x1 → G) : G := h.elim fun x1 h => k x1 h.1 h.2.1 h.2.2.1 h.2.2.2.1 h.2.2.2.2.1 h.2.2.2.2.2
theorem ex1_10 {α1 : Sort u1} {p1 p2 p3 p4 p5 p6 p7 p8 p9 p10 : α1 → Prop} {G : Prop} (h : ∃ x1, p1 x1 ∧ p2 x1 ∧ p3 x1 ∧ p4 x1 ∧ p5 x1 ∧ p6 x1 ∧ p7 x1 ∧ p8 x1 ∧ p9 x1 ∧ p10 x1) (k : ∀ x1, p1 x1 → p2 x1 → p3 x1 → p4 x1 → p5 x1 → p6 x1 → p7 x1 → p8 x1 → p9 x1 → p10 x1 → G) : G := h.elim fun x1 h => k x1 h.1 h.2.1 h.2.2.1 h.2.2.2.1 h.2.2.2.2.1 h.2.2.2.2.2.1 h.2.2.2.2.2.2.1 h.2.2.2.2.2.2.2.1 h.2.2.2.2.2.2.2.2.1 h.2.2.2.2.2.2.2.2.2
theorem ex2_1 {α1 : Sort u1} {α2 : Sort u2} {p1 : α1 → α2 → Prop} {G : Prop} (h : ∃ x1 x2, p1 x1 x2) (k : ∀ x1 x2, p1 x1 x2 → G) : G := h.elim fun x1 h => h.elim fun x2 h => k x1 x2 h
theorem ex2_2 {α1 : Sort u1} {α2 : Sort u2} {p1 p2 : α1 → α2 → Prop} {G : Prop} (h : ∃ x1 x2, p1 x1 x2 ∧ p2 x1 x2) (k : ∀ x1 x2, p1 x1 x2 → p2 x1 x2 → G) : G := h.elim fun x1 h => h.elim fun x2 h => k x1 x2 h.1 h.2
theorem ex2_3 {α1 : Sort u1} {α2 : Sort u2} {p1 p2 p3 : α1 → α2 → Prop} {G : Prop} (h : ∃ x1 x2, p1 x1 x2 ∧ p2 x1 x2 ∧ p3 x1 x2) (k : ∀ x1 x2, p1 x1 x2 → p2 x1 x2 → p3 x1 x2 → G) : G := h.elim fun x1 h => h.elim fun x2 h => k x1 x2 h.1 h.2.1 h.2.2
theorem ex2_4 {α1 : Sort u1} {α2 : Sort u2} {p1 p2 p3 p4 : α1 → α2 → Prop} {G : Prop} (h : ∃ x1 x2, p1 x1 x2 ∧ p2 x1 x2 ∧ p3 x1 x2 ∧ p4 x1 x2) (k : ∀ x1 x2, p1 x1 x2 → p2 x1 x2 → p3 x1 x2 → p4 x1 x2 → G) : G := h.elim fun x1 h => h.elim fun x2 h => k x1 x2 h.1 h.2.1 h.2.2.1 h.2.2.2
theorem ex2_5 {α1 : Sort u1} {α2 : Sort u2} {p1 p2 p3 p4 p5 : α1 → α2 → Prop} {G : Prop} (h : ∃ x1 x2, p1 x1 x2 ∧ p2 x1 x2 ∧ p3 x1 x2 ∧ p4 x1 x2 ∧ p5 x1 x2) (k : ∀ x1 x2, p1 x1 x2 → p2 x1 x2 → p3 x1 x2 → p4 x1 x2 → p5 x1 x2 → G) : G := h.elim fun x1 h => h.elim fun x2 h => k x1 x2 h.1 h.2.1 h.2.2.1 h.2.2.2.1 h.2.2.2.2
theorem ex2_6 {α1 : Sort u1} {α2 : Sort u2} {p1 p2 p3 p4 p5 p6 : α1 → α2 → Prop} {G : Prop} (h : ∃ x1 x2, p1 x1 x2 ∧ p2 x1 x2 ∧ p3 x1 x2 ∧ p4 x1 x2 ∧ p5 x1 x2 ∧ p6 x1 x2) (k : ∀ x1 x2, p1 x1 x2 → p2 x1 x2 → p3 x1 x2 → p4 x1 x2 → p5 x1 x2 → p6 x1 x2 → G) : G := h.elim fun x1 h => h.elim fun x2 h => k x1 x2 h.1 h.2.1 h.2.2.1 h.2.2.2.1 h.2.2.2.2.1 h.2.2.2.2.2
theorem ex2_10 {α1 : Sort u1} {α2 : Sort u2} {p1 p2 p3 p4 p5 p6 p7 p8 p9 p10 : α1 → α2 → Prop} {G : Prop} (h : ∃ x1 x2, p1 x1 x2 ∧ p2 x1 x2 ∧ p3 x1 x2 ∧ p4 x1 x2 ∧ p5 x1 x2 ∧ p6 x1 x2 ∧ p7 x1 x2 ∧ p8 x1 x2 ∧ p9 x1 x2 ∧ p10 x1 x2) (k : ∀ x1 x2, p1 x1 x2 → p2 x1 x2 → p3 x1 x2 → p4 x1 x2 → p5 x1 x2 → p6 x1 x2 → p7 x1 x2 → p8 x1 x2 → p9 x1 x2 → p10 x1 x2 → G) : G := h.elim fun x1 h => h.elim fun x2 h => k x1 x2 h.1 h.2.1 h.2.2.1 h.2.2.2.1 h.2.2.2.2.1 h.2.2.2.2.2.1 h.2.2.2.2.2.2.1 h.2.2.2.2.2.2.2.1 h.2.2.2.2.2.2.2.2.1 h.2.2.2.2.2.2.2.2.2
theorem ex3_2 {α1 : Sort u1} {α2 : Sort u2} {α3 : Sort u3} {p1 p2 : α1 → α2 → α3 → Prop} {G : Prop} (h : ∃ x1 x2 x3, p1 x1 x2 x3 ∧ p2 x1 x2 x3) (k : ∀ x1 x2 x3, p1 x1 x2 x3 → p2 x1 x2 x3 → G) : G := h.elim fun x1 h => h.elim fun x2 h => h.elim fun x3 h => k x1 x2 x3 h.1 h.2
theorem ex3_3 {α1 : Sort u1} {α2 : Sort u2} {α3 : Sort u3} {p1 p2 p3 : α1 → α2 → α3 → Prop} {G : Prop} (h : ∃ x1 x2 x3, p1 x1 x2 x3 ∧ p2 x1 x2 x3 ∧ p3 x1 x2 x3) (k : ∀ x1 x2 x3, p1 x1 x2 x3 → p2 x1 x2 x3 → p3 x1 x2 x3 → G) : G := h.elim fun x1 h => h.elim fun x2 h => h.elim fun x3 h => k x1 x2 x3 h.1 h.2.1 h.2.2
theorem ex3_4 {α1 : Sort u1} {α2 : Sort u2} {α3 : Sort u3} {p1 p2 p3 p4 : α1 → α2 → α3 → Prop} {G : Prop} (h : ∃ x1 x2 x3, p1 x1 x2 x3 ∧ p2 x1 x2 x3 ∧ p3 x1 x2 x3 ∧ p4 x1 x2 x3) (k : ∀ x1 x2 x3, p1 x1 x2 x3 → p2 x1 x2 x3 → p3 x1 x2 x3 → p4 x1 x2 x3 → G) : G := h.elim fun x1 h => h.elim fun x2 h => h.elim fun x3 h => k x1 x2 x3 h.1 h.2.1 h.2.2.1 h.2.2.2
theorem ex3_5 {α1 : Sort u1} {α2 : Sort u2} {α3 : Sort u3} {p1 p2 p3 p4 p5 : α1 → α2 → α3 → Prop} {G : Prop} (h : ∃ x1 x2 x3, p1 x1 x2 x3 ∧ p2 x1 x2 x3 ∧ p3 x1 x2 x3 ∧ p4 x1 x2 x3 ∧ p5 x1 x2 x3) (k : ∀ x1 x2 x3, p1 x1 x2 x3 → p2 x1 x2 x3 → p3 x1 x2 x3 → p4 x1 x2 x3 → p5 x1 x2 x3 → G) : G := h.elim fun x1 h => h.elim fun x2 h => h.elim fun x3 h => k x1 x2 x3 h.1 h.2.1 h.2.2.1 h.2.2.2.1 h.2.2.2.2
theorem ex3_6 {α1 : Sort u1} {α2 : Sort u2} {α3 : Sort u3} {p1 p2 p3 p4 p5 p6 : α1 → α2 → α3 → Prop} {G : Prop} (h : ∃ x1 x2 x3, p1 x1 x2 x3 ∧ p2 x1 x2 x3 ∧ p3 x1 x2 x3 ∧ p4 x1 x2 x3 ∧ p5 x1 x2 x3 ∧ p6 x1 x2 x3) (k : ∀ x1 x2 x3, p1 x1 x2 x3 → p2 x1 x2 x3 → p3 x1 x2 x3 → p4 x1 x2 x3 → p5 x1 x2 x3 → p6 x1 x2 x3 → G) : G := h.elim fun x1 h => h.elim fun x2 h => h.elim fun x3 h => k x1 x2 x3 h.1 h.2.1 h.2.2.1 h.2.2.2.1 h.2.2.2.2.1 h.2.2.2.2.2
theorem ex3_7 {α1 : Sort u1} {α2 : Sort u2} {α3 : Sort u3} {p1 p2 p3 p4 p5 p6 p7 : α1 → α2 → α3 → Prop} {G : Prop} (h : ∃ x1 x2 x3, p1 x1 x2 x3 ∧ p2 x1 x2 x3 ∧ p3 x1 x2 x3 ∧ p4 x1 x2 x3 ∧ p5 x1 x2 x3 ∧ p6 x1 x2 x3 ∧ p7 x1 x2 x3) (k : ∀ x1 x2 x3, p1 x1 x2 x3 → p2 x1 x2 x3 → p3 x1 x2 x3 → p4 x1 x2 x3 → p5 x1 x2 x3 → p6 x1 x2 x3 → p7 x1 x2 x3 → G) : G := h.elim fun x1 h => h.elim fun x2 h => h.elim fun x3 h => k x1 x2 x3 h.1 h.2.1 h.2.2.1 h.2.2.2.1 h.2.2.2.2.1 h.2.2.2.2.2.1 h.2.2.2.2.2.2
theorem ex3_8 {α1 : Sort u1} {α2 : Sort u2} {α3 : Sort u3} {p1 p2 p3 p4 p5 p6 p7 p8 : α1 → α2 → α3 → Prop} {G : Prop} (h : ∃ x1 x2 x3, p1 x1 x2 x3 ∧ p2 x1 x2 x3 ∧ p3 x1 x2 x3 ∧ p4 x1 x2 x3 ∧ p5 x1 x2 x3 ∧ p6 x1 x2 x3 ∧ p7 x1 x2 x3 ∧ p8 x1 x2 x3) (k : ∀ x1 x2 x3, p1 x1 x2 x3 → p2 x1 x2 x3 → p3 x1 x2 x3 → p4 x1 x2 x3 → p5 x1 x2 x3 → p6 x1 x2 x3 → p7 x1 x2 x3 → p8 x1 x2 x3 → G) : G := h.elim fun x1 h => h.elim fun x2 h => h.elim fun x3 h => k x1 x2 x3 h.1 h.2.1 h.2.2.1 h.2.2.2.1 h.2.2.2.2.1 h.2.2.2.2.2.1 h.2.2.2.2.2.2.1 h.2.2.2.2.2.2.2
theorem ex4_2 {α1 : Sort u1} {α2 : Sort u2} {α3 : Sort u3} {α4 : Sort u4} {p1 p2 : α1 → α2 → α3 → α4 → Prop} {G : Prop} (h : ∃ x1 x2 x3 x4, p1 x1 x2 x3 x4 ∧ p2 x1 x2 x3 x4) (k : ∀ x1 x2 x3 x4, p1 x1 x2 x3 x4 → p2 x1 x2 x3 x4 → G) : G := h.elim fun x1 h => h.elim fun x2 h => h.elim fun x3 h => h.elim fun x4 h => k x1 x2 x3 x4 h.1 h.2
theorem ex4_5 {α1 : Sort u1} {α2 : Sort u2} {α3 : Sort u3} {α4 : Sort u4} {p1 p2 p3 p4 p5 : α1 → α2 → α3 → α4 → Prop} {G : Prop} (h : ∃ x1 x2 x3 x4, p1 x1 x2 x3 x4 ∧ p2 x1 x2 x3 x4 ∧ p3 x1 x2 x3 x4 ∧ p4 x1 x2 x3 x4 ∧ p5 x1 x2 x3 x4) (k : ∀ x1 x2 x3 x4, p1 x1 x2 x3 x4 → p2 x1 x2 x3 x4 → p3 x1 x2 x3 x4 → p4 x1 x2 x3 x4 → p5 x1 x2 x3 x4 → G) : G := h.elim fun x1 h => h.elim fun x2 h => h.elim fun x3 h => h.elim fun x4 h => k x1 x2 x3 x4 h.1 h.2.1 h.2.2.1 h.2.2.2.1 h.2.2.2.2
theorem ex4_7 {α1 : Sort u1} {α2 : Sort u2} {α3 : Sort u3} {α4 : Sort u4} {p1 p2 p3 p4 p5 p6 p7 : α1 → α2 → α3 → α4 → Prop} {G : Prop} (h : ∃ x1 x2 x3 x4, p1 x1 x2 x3 x4 ∧ p2 x1 x2 x3 x4 ∧ p3 x1 x2 x3 x4 ∧ p4 x1 x2 x3 x4 ∧ p5 x1 x2 x3 x4 ∧ p6 x1 x2 x3 x4 ∧ p7 x1 x2 x3 x4) (k : ∀ x1 x2 x3 x4, p1 x1 x2 x3 x4 → p2 x1 x2 x3 x4 → p3 x1 x2 x3 x4 → p4 x1 x2 x3 x4 → p5 x1 x2 x3 x4 → p6 x1 x2 x3 x4 → p7 x1 x2 x3 x4 → G) : G := h.elim fun x1 h => h.elim fun x2 h => h.elim fun x3 h => h.elim fun x4 h => k x1 x2 x3 x4 h.1 h.2.1 h.2.2.1 h.2.2.2.1 h.2.2.2.2.1 h.2.2.2.2.2.1 h.2.2.2.2.2.2
theorem ex4_10 {α1 : Sort u1} {α2 : Sort u2} {α3 : Sort u3} {α4 : Sort u4} {p1 p2 p3 p4 p5 p6 p7 p8 p9 p10 : α1 → α2 → α3 → α4 → Prop} {G : Prop} (h : ∃ x1 x2 x3 x4, p1 x1 x2 x3 x4 ∧ p2 x1 x2 x3 x4 ∧ p3 x1 x2 x3 x4 ∧ p4 x1 x2 x3 x4 ∧ p5 x1 x2 x3 x4 ∧ p6 x1 x2 x3 x4 ∧ p7 x1 x2 x3 x4 ∧ p8 x1 x2 x3 x4 ∧ p9 x1 x2 x3 x4 ∧ p10 x1 x2 x3 x4) (k : ∀ x1 x2 x3 x4, p1 x1 x2 x3 x4 → p2 x1 x2 x3 x4 → p3 x1 x2 x3 x4 → p4 x1 x2 x3 x4 → p5 x1 x2 x3 x4 → p6 x1 x2 x3 x4 → p7 x1 x2 x3 x4 → p8 x1 x2 x3 x4 → p9 x1 x2 x3 x4 → p10 x1 x2 x3 x4 → G) : G := h.elim fun x1 h => h.elim fun x2 h => h.elim fun x3 h => h.elim fun x4 h => k x1 x2 x3 x4 h.1 h.2.1 h.2.2.1 h.2.2.2.1 h.2.2.2.2.1 h.2.2.2.2.2.1 h.2.2.2.2.2.2.1 h.2.2.2.2.2.2.2.1 h.2.2.2.2.2.2.2.2.1 h.2.2.2.2.2.2.2.2.2
theorem ex5_7 {α1 : Sort u1} {α2 : Sort u2} {α3 : Sort u3} {α4 : Sort u4} {α5 : Sort u5} {p1 p2 p3 p4 p5 p6 p7 : α1 → α2 → α3 → α4 → α5 → Prop} {G : Prop} (h : ∃ x1 x2 x3 x4 x5, p1 x1 x2 x3 x4 x5 ∧ p2 x1 x2 x3 x4 x5 ∧ p3 x1 x2 x3 x4 x5 ∧ p4 x1 x2 x3 x4 x5 ∧ p5 x1 x2 x3 x4 x5 ∧ p6 x1 x2 x3 x4 x5 ∧ p7 x1 x2 x3 x4 x5) (k : ∀ x1 x2 x3 x4 x5, p1 x1 x2 x3 x4 x5 → p2 x1 x2 x3 x4 x5 → p3 x1 x2 x3 x4 x5 → p4 x1 x2 x3 x4 x5 → p5 x1 x2 x3 x4 x5 → p6 x1 x2 x3 x4 x5 → p7 x1 x2 x3 x4 x5 → G) : G := h.elim fun x1 h => h.elim fun x2 h => h.elim fun x3 h => h.elim fun x4 h => h.elim fun x5 h => k x1 x2 x3 x4 x5 h.1 h.2.1 h.2.2.1 h.2.2.2.1 h.2.2.2.2.1 h.2.2.2.2.2.1 h.2.2.2.2.2.2
theorem ex6_2 {α1 : Sort u1} {α2 : Sort u2} {α3 : Sort u3} {α4 : Sort u4} {α5 : Sort u5} {α6 : Sort u6} {p1 p2 : α1 → α2 → α3 → α4 → α5 → α6 → Prop} {G : Prop} (h : ∃ x1 x2 x3 x4 x5 x6, p1 x1 x2 x3 x4 x5 x6 ∧ p2 x1 x2 x3 x4 x5 x6) (k : ∀ x1 x2 x3 x4 x5 x6, p1 x1 x2 x3 x4 x5 x6 → p2 x1 x2 x3 x4 x5 x6 → G) : G := h.elim fun x1 h => h.elim fun x2 h => h.elim fun x3 h => h.elim fun x4 h => h.elim fun x5 h => h.elim fun x6 h => k x1 x2 x3 x4 x5 x6 h.1 h.2
theorem ex6_5 {α1 : Sort u1} {α2 : Sort u2} {α3 : Sort u3} {α4 : Sort u4} {α5 : Sort u5} {α6 : Sort u6} {p1 p2 p3 p4 p5 : α1 → α2 → α3 → α4 → α5 → α6 → Prop} {G : Prop} (h : ∃ x1 x2 x3 x4 x5 x6, p1 x1 x2 x3 x4 x5 x6 ∧ p2 x1 x2 x3 x4 x5 x6 ∧ p3 x1 x2 x3 x4 x5 x6 ∧ p4 x1 x2 x3 x4 x5 x6 ∧ p5 x1 x2 x3 x4 x5 x6) (k : ∀ x1 x2 x3 x4 x5 x6, p1 x1 x2 x3 x4 x5 x6 → p2 x1 x2 x3 x4 x5 x6 → p3 x1 x2 x3 x4 x5 x6 → p4 x1 x2 x3 x4 x5 x6 → p5 x1 x2 x3 x4 x5 x6 → G) : G := h.elim fun x1 h => h.elim fun x2 h => h.elim fun x3 h => h.elim fun x4 h => h.elim fun x5 h => h.elim fun x6 h => k x1 x2 x3 x4 x5 x6 h.1 h.2.1 h.2.2.1 h.2.2.2.1 h.2.2.2.2
set_option compiler.extract_closed false
@[elab_as_elim] theorem rwr {α : Sort u} {a b : α} {M : α → Prop} (e : a = b) (h : M b) : M a := Eq.mpr (congrArg M e) h
@[elab_as_elim] theorem rwl {α : Sort u} {a b : α} {M : α → Prop} (e : b = a) (h : M b) : M a := Eq.mp (congrArg M e) h
open Lean Lean.Parser.Tactic in
def med (p : Syntax) : Syntax :=
  let q := if p.isOfKind ``rcasesPatLo then p[0] else p
  if q.isOfKind ``rcasesPatMed then q[0][0] else q
open Lean Lean.Parser.Tactic in
def badPat (p : Syntax) : Bool := (p.find? fun p => (p.isOfKind ``rcasesPatMed && p[0].getNumArgs != 1) || (p.isOfKind ``rcasesPatLo && p[1].getNumArgs != 0)).isSome
open Lean in
def hasBy (p : Syntax) : Bool := (p.find? fun p => p.isOfKind ``Lean.Parser.Term.byTactic).isSome
open Lean Lean.Parser.Tactic in
def medOf (p : Syntax) : TSyntax ``rcasesPatMed := ⟨mkNode ``rcasesPatMed #[mkNullNode #[p]]⟩
open Lean in
def then2 (a b : TSyntax `tactic) : MacroM (TSyntax `tactic) := `(tactic| ($a:tactic; $b:tactic))
open Lean in
def else2 (a b : TSyntax `tactic) : MacroM (TSyntax `tactic) := `(tactic| first | $a:tactic | $b:tactic)
open Lean in
def intro1 (x : Ident) : MacroM (TSyntax `tactic) := `(tactic| intro $x:ident)
open Lean in
def refine1 (x : Name) (e : Term) : MacroM (TSyntax `tactic) := `(tactic| refine $(mkIdent x):ident $e ?_)
open Lean Lean.Parser.Tactic in
def run (late : Bool) (nm : String) (l : List Syntax) (z : TSyntax `tactic) : MacroM (TSyntax `tactic) := do
  let u ← l.foldrM (fun (p : Syntax) (u : Nat × TSyntax `tactic × TSyntax `tactic) => do
    let q := med p
    let nam := q.isOfKind ``rcasesPat.one && q[0].getId != `rfl
    let x : Ident := if nam then ⟨q[0]⟩ else mkIdent (.mkSimple s!"{nm}{u.1}")
    let i ← intro1 x
    if nam || q.isOfKind ``rcasesPat.ignore then return (u.1 + 1, ← then2 i u.2.1, u.2.2)
    let a ← `(tactic| obtain $(medOf q):rcasesPatMed := $x:ident)
    if late && q.isOfKind ``rcasesPat.tuple then return (u.1 + 1, ← then2 i u.2.1, ← then2 a u.2.2)
    return (u.1 + 1, ← then2 i (← then2 a u.2.1), u.2.2)) (0, z, z)
  then2 u.2.1 u.2.2
open Lean in
def shapes (e : Term) (r : Nat) : MacroM (TSyntax `tactic) := do
  (List.range (r - 1)).foldlM (fun u k => do else2 u (← refine1 (.str `Mine s!"ex{k+1}_{r-k-1}") e)) (← refine1 (.str `Mine s!"an{r}") e)
open Lean Lean.Parser.Tactic in
def restPat (ps : List Syntax) : Syntax :=
  mkNode ``rcasesPat.tuple #[mkAtom "⟨", mkNullNode (mkSepArray (ps.map fun p => mkNode ``rcasesPatLo #[medOf (med p), mkNullNode]).toArray (mkAtom ",")), mkAtom "⟩"]
open Lean in
def elimAll (e : Term) (dflt : TSyntax `tactic) (ps : List Syntax) : MacroM (TSyntax `tactic) := do
  let z ← `(tactic| skip)
  (List.range (ps.length - 1)).foldrM (fun d u => do
    let r := ps.length - d
    let qs := if d == 0 then ps else ps.take (r - 1) ++ [restPat (ps.drop (r - 1))]
    let c ← if e.raw.isIdent then `(tactic| try clear $(⟨e.raw⟩):ident) else pure z
    else2 (← then2 (← shapes e r) (← then2 c (← run true (if e.raw.isIdent && e.raw.getId.toString.startsWith "xx" then e.raw.getId.toString else "xx") qs z))) u) dflt
end Mine
set_option maxRecDepth 100000
set_option maxHeartbeats 8000000
noncomputable section
open Lean Lean.Parser.Tactic Mine in
local macro_rules
  | `(tactic| obtain $p:rcasesPatMed := $e:term) => do
    let ps := (med p)[1].getSepArgs.toList
    if badPat p || !(med p).isOfKind ``rcasesPat.tuple || ps.length < 2 then Macro.throwUnsupported
    let lo : TSyntax ``rcasesPatLo := ⟨mkNode ``rcasesPatLo #[p.raw, mkNullNode]⟩
    if hasBy e then
      let x := mkIdent `xx
      `(tactic| (have $x:ident := $e; obtain $p:rcasesPatMed := $x:ident))
    else elimAll e (← `(tactic| rcases $e:term with $lo:rcasesPatLo)) ps
open Lean Lean.Parser.Tactic Mine in
local macro_rules
  | `(tactic| rintro $ps:rintroPat*) => do
    let qs := ps.toList.map fun p => p.raw[0]
    if ps.any (fun p => !p.raw.isOfKind ``rintroPat.one || badPat p) || (qs.length < 2 && qs.all fun q => q[1].getSepArgs.size < 2) then Macro.throwUnsupported
    run false "xx" qs (← `(tactic| skip))
open Lean Lean.Parser.Tactic Mine in
local macro_rules
  | `(tactic| rw [$rs,*]) => do
    let z ← `(tactic| try (with_reducible rfl))
    let r ← rs.getElems.toList.foldrM (fun (r : TSyntax ``rwRule) (u : TSyntax `tactic) => do
      let l := mkIdent (if r.raw[0].getNumArgs == 0 then `Mine.rwr else `Mine.rwl)
      let e : Term := ⟨r.raw[1]⟩
      if hasBy r then `(tactic| (rewrite [$r:rwRule]; $u:tactic)) else `(tactic| ((first | refine $l $e ?_ | refine $l ($e _) ?_ | refine $l ($e _ _) ?_ | rewrite [$r:rwRule]); $u:tactic))) z
    return r
set_option bootstrap.genMatcherCode false
set_option genSizeOfSpec false
set_option tactic.hygienic false
open PySem PySem.W PyProof.Rows
set_option maxRecDepth 100000
namespace Mine
inductive V where
  | none | bool (b : Bool) | int (i : Int) | str (x : Str) | tup (l : List V) | ref (a : Addr) | fn (v : Value) | rng (lo hi : Int)
inductive O where
  | list (l : List V)
  | dictI (es : List (Int × V))
  | dictS (es : List (Str × V))
  | dictT (es : List (List Int × V))
  | inst (C dx : Addr) (fs : List (Str × V))
  | hid (x : Addr)
  | rolist (l : List V)
noncomputable abbrev Hp := Addr → Option O
noncomputable abbrev Lo := Nat → Option V
noncomputable def Hp.put (H : Hp) (a : Addr) (o : O) : Hp := fun b => if b = a then some o else H b
noncomputable def Lo.del (m : Lo) (i : Nat) : Lo := fun j => if j = i then none else m j
noncomputable def Lo.put (m : Lo) (i : Nat) (v : V) : Lo := fun j => if j = i then some v else m j
theorem Hp.put_self {H : Hp} {a o} : H.put a o a = some o := by simp [Hp.put]
theorem Hp.put_ne {H : Hp} {a b o} (h : b ≠ a) : H.put a o b = H b := by simp [Hp.put, h]
mutual
inductive VR (h : Heap) : V → Value → Prop
  | none : VR h .none .none
  | bool (b) : VR h (.bool b) (.bool b)
  | int (i t) : VR h (.int i) (.int i t)
  | str (x t) : VR h (.str x) (.str x t)
  | ref (a) : VR h (.ref a) (.ref a)
  | fn (v) : VR h (.fn v) v
  | tup {l vs a} : h.IsTuple a vs.toArray → VRs h l vs → VR h (.tup l) (.ref a)
  | rng {a lo hi t u v} : (-100000 < lo ∧ lo < 100000 ∧ -100000 < hi ∧ hi < 100000) → IsRange h a lo hi 1 t u v → VR h (.rng lo hi) (.ref a)
inductive VRs (h : Heap) : List V → List Value → Prop
  | nil : VRs h [] []
  | cons {v v' l l'} : VR h v v' → VRs h l l' → VRs h (v :: l) (v' :: l')
end
@[elab_as_elim] theorem VR.noneE {h : Heap} {v : Value} {M : Value → Prop} (x : VR h .none v) (k : M .none) : M v := by cases x; exact k
@[elab_as_elim] theorem VR.boolE {h : Heap} {b : Bool} {v : Value} {M : Value → Prop} (x : VR h (.bool b) v) (k : M (.bool b)) : M v := by cases x; exact k
@[elab_as_elim] theorem VR.intE {h : Heap} {i : Int} {v : Value} {M : Value → Prop} (x : VR h (.int i) v) (k : ∀ t, M (.int i t)) : M v := by cases x; exact k _
@[elab_as_elim] theorem VR.strE {h : Heap} {i : Str} {v : Value} {M : Value → Prop} (x : VR h (.str i) v) (k : ∀ t, M (.str i t)) : M v := by cases x; exact k _
@[elab_as_elim] theorem VR.refE {h : Heap} {a : Addr} {v : Value} {M : Value → Prop} (x : VR h (.ref a) v) (k : M (.ref a)) : M v := by cases x; exact k
@[elab_as_elim] theorem VR.fnE {h : Heap} {u v : Value} {M : Value → Prop} (x : VR h (.fn u) v) (k : M u) : M v := by cases x; exact k
@[elab_as_elim] theorem VR.tupE {h : Heap} {l : List V} {v : Value} {M : Value → Prop} (x : VR h (.tup l) v) (k : ∀ (vs : List Value) (a : Addr), h.IsTuple a vs.toArray → VRs h l vs → M (.ref a)) : M v := by
  cases x with
  | tup a b => exact k _ _ a b
@[elab_as_elim] theorem VRs.nilE {h : Heap} {v : List Value} {M : List Value → Prop} (x : VRs h [] v) (k : M []) : M v := by cases x; exact k
@[elab_as_elim] theorem VRs.consE {h : Heap} {u : V} {l : List V} {v : List Value} {M : List Value → Prop} (x : VRs h (u :: l) v) (k : ∀ (v' : Value) (l' : List Value), VR h u v' → VRs h l l' → M (v' :: l')) : M v := by
  cases x with
  | cons a b => exact k _ _ a b
end Mine
local macro_rules
  | `(tactic| cases $x:ident) => do
    let ns : List (String × Nat) := [("VR.intE", 1), ("VR.refE", 0), ("VR.strE", 1), ("VR.tupE", 4), ("VR.boolE", 0), ("VR.noneE", 0), ("VR.fnE", 0), ("VRs.nilE", 0)]
    let z ← `(tactic| cases ($x))
    let s ← `(tactic| skip)
    let r ← ns.foldrM (fun (n : String × Nat) (t : Lean.TSyntax `tactic) => do
      let r ← (List.range n.2).foldrM (fun _ (u : Lean.TSyntax `tactic) => `(tactic| (intro _; $u:tactic))) s
      `(tactic| first | (refine $(Lean.mkIdent (("Mine." ++ n.1).toName)) $x ?_; clear $x; $r:tactic) | $t:tactic)) z
    return r
namespace Mine
noncomputable def Still (o : Obj) : Prop := (o.cls = .type "tuple" ∧ ∃ a n, o.data = .seq a n) ∨ (o.cls = .type "range" ∧ ∃ a, o.data = .fields a)
theorem not_still_dict {o : Obj} {es n} (e : o.data = .dict es n) : ¬ Still o := by
  rintro (⟨_, _, _, x⟩ | ⟨_, _, x⟩) <;> (rw [e] at x; cases x)
theorem not_still_cell {o : Obj} {v} (e : o.data = .cell v) : ¬ Still o := by
  rintro (⟨_, _, _, x⟩ | ⟨_, _, x⟩) <;> (rw [e] at x; cases x)
theorem not_still_plain {o : Obj} (e : o.data = .plain) : ¬ Still o := by
  rintro (⟨_, _, _, x⟩ | ⟨_, _, x⟩) <;> (rw [e] at x; cases x)
theorem not_still_cls {o : Obj} {t : String} (e : o.cls = .type t) (h1 : t ≠ "tuple") (h2 : t ≠ "range") : ¬ Still o := by
  rintro (⟨x, _⟩ | ⟨x, _⟩) <;> (rw [e] at x; cases x; contradiction)
noncomputable def Sta (h h' : Heap) : Prop := ∀ a o, h.get? a = some o → Still o → h'.get? a = some o
theorem Sta.refl (h : Heap) : Sta h h := fun zz zz e zz => e
theorem Sta.trans {h h' h'' : Heap} (x : Sta h h') (y : Sta h' h'') : Sta h h'' := fun a o e c => y a o (x a o e c) c
theorem Sta.push (h : Heap) (o : Obj) : Sta h (h.push o) := fun zz zz e zz => Heap.get?_push_of_some o e
theorem Sta.but {h h' : Heap} {a : Addr} {o : Obj} (x : Heap.ExtBut a h h') (e : h.get? a = some o) (n : ¬ Still o) : Sta h h' := fun b ob eb c => by
  refine x b ob ?_ eb
  rintro rfl
  rw [e] at eb; cases eb
  exact n c
theorem Sta.tuple {h h' : Heap} {a : Addr} {vs : Array Value} (x : Sta h h') (t : h.IsTuple a vs) : h'.IsTuple a vs := by
  obtain ⟨o, ho, hc, n, hd⟩ := id t
  exact ⟨o, x _ _ ho (.inl ⟨hc, _, _, hd⟩), hc, n, hd⟩
@[elab_as_elim] theorem VR.tup2E {h : Heap} {u v : V} {x' : Value} {M : Value → Prop} (x : VR h (.tup [u, v]) x') (k : ∀ (ta : Addr) (u' v' : Value), h.IsTuple ta [u', v'].toArray → VR h u u' → VR h v v' → M (.ref ta)) : M x' := by
  cases x with
  | tup a b =>
    cases b with
    | cons b c =>
      cases c with
      | cons c d => cases (d); exact k _ _ _ a b c
theorem VRs.uncons {h : Heap} {u : V} {l : List V} {v' : Value} {l' : List Value} (x : VRs h (u :: l) (v' :: l')) : VR h u v' ∧ VRs h l l' := by
  cases x with
  | cons a b => exact ⟨a, b⟩
theorem VR.sta {h h' : Heap} (x : Sta h h') {v : V} {v' : Value} (r : VR h v v') : VR h' v v' :=
  VR.rec (motive_1 := fun v v' zz => VR h' v v') (motive_2 := fun l l' zz => VRs h' l l') .none .bool .int .str .ref .fn (fun t zz ih => .tup (x.tuple t) ih)
    (fun b e => .rng b (x _ _ e (.inr ⟨rfl, _, rfl⟩))) .nil (fun zz zz a b => .cons a b) r
theorem VRs.sta {h h' : Heap} (x : Sta h h') : ∀ {l : List V} {l' : List Value}, VRs h l l' → VRs h' l l' := by
  intro l
  induction l with
  | nil => exact fun r => VRs.nilE r .nil
  | cons v l ih => exact fun r => VRs.consE r fun zz zz a b => .cons (a.sta x) (ih b)
theorem VRs.length {h : Heap} : ∀ {l : List V} {l' : List Value}, VRs h l l' → l'.length = l.length := by
  intro l
  induction l with
  | nil => exact fun r => VRs.nilE r rfl
  | cons v l ih => exact fun r => VRs.consE r fun zz zz zz b => congrArg Nat.succ (ih b)
theorem VRs.append {h : Heap} {k : List V} {k' : List Value} : ∀ {l : List V} {l' : List Value}, VRs h l l' → VRs h k k' → VRs h (l ++ k) (l' ++ k') := by
  intro l
  induction l with
  | nil => exact fun r y => VRs.nilE r y
  | cons v l ih => exact fun r y => VRs.consE r fun zz zz a b => .cons a (ih b y)
theorem VRs.get {h : Heap} : ∀ {l : List V} {l' : List Value} {i : Nat} {v : V}, VRs h l l' → l[i]? = some v → ∃ v', l'[i]? = some v' ∧ VR h v v' := by
  intro l
  induction l with
  | nil => intro l' i v r e; simp at e
  | cons u l ih =>
    intro l' i v r e
    refine VRs.consE r fun zz zz a b => ?_
    cases i with
    | zero => simp at e; subst e; exact ⟨_, rfl, a⟩
    | succ i => simp at e ⊢; exact ih b e
theorem VRs.take {h : Heap} : ∀ {l : List V} {l' : List Value} (n : Nat), VRs h l l' → VRs h (l.take n) (l'.take n) := by
  intro l
  induction l with
  | nil => intro l' n r; refine VRs.nilE r ?_; simp; exact .nil
  | cons u l ih =>
    intro l' n r
    refine VRs.consE r fun zz zz a b => ?_
    cases n with
    | zero => exact .nil
    | succ n => exact .cons a (ih n b)
theorem VRs.drop {h : Heap} : ∀ {l : List V} {l' : List Value} (n : Nat), VRs h l l' → VRs h (l.drop n) (l'.drop n) := by
  intro l
  induction l with
  | nil => intro l' n r; refine VRs.nilE r ?_; simp; exact .nil
  | cons u l ih =>
    intro l' n r
    cases n with
    | zero => exact r
    | succ n => exact VRs.consE r fun zz zz a b => ih n b
theorem VRs.reverse {h : Heap} : ∀ {l : List V} {l' : List Value}, VRs h l l' → VRs h l.reverse l'.reverse := by
  intro l
  induction l with
  | nil => exact fun r => VRs.nilE r .nil
  | cons v l ih =>
    intro l' r
    refine VRs.consE r fun zz zz a b => ?_
    simp only [List.reverse_cons]
    exact (ih b).append (.cons a .nil)
theorem VRs.split {h : Heap} {l : List V} : ∀ {k : List V} {l' : List Value}, VRs h (k ++ l) l' → ∃ k₁ l₁, l' = k₁ ++ l₁ ∧ VRs h k k₁ ∧ VRs h l l₁ := by
  intro k
  induction k with
  | nil => exact fun {l'} x => ⟨[], l', rfl, .nil, x⟩
  | cons u k ih =>
    intro l' r
    have r : VRs h (u :: (k ++ l)) l' := r
    refine VRs.consE r fun v' zz a b => ?_
    obtain ⟨k₁, l₁, e, x, y⟩ := ih b
    exact ⟨v' :: k₁, l₁, by rw [e]; rfl, .cons a x, y⟩
inductive FsR (P : Params) (h : Heap) : List (Str × V) → List DictEntry → Prop
  | nil : FsR P h [] []
  | cons {x v fs e es t} : e.key = .str x t → VR h v e.val → handedIn e.val = true → FsR P h fs es → FsR P h ((x, v) :: fs) (e :: es)
theorem FsR.sta {P : Params} {h h' : Heap} (x : Sta h h') : ∀ {fs es}, FsR P h fs es → FsR P h' fs es := by
  intro fs es r
  induction r with
  | nil => exact .nil
  | cons a b c _ ih => exact .cons a (b.sta x) c ih
section
variable (prog : Program) (w : World)
noncomputable def OR (h : Heap) (a : Addr) : O → Prop
  | .list l => ∃ vs, h.PlainList a vs.toArray ∧ VRs h l vs
  | .dictI es => ∃ vs, h.DictAt (intKind prog w) a ((es.map (fun zz => zz.1)).zip vs) es.length ∧ VRs h (es.map (fun zz => zz.2)) vs
  | .dictS es => ∃ vs, h.DictAt (strKind prog w) a ((es.map (fun zz => zz.1)).zip vs) es.length ∧ VRs h (es.map (fun zz => zz.2)) vs
  | .dictT es => ∃ xs : List (List Int × Addr × Value), h.DictOfH (tupleKind (intKind prog w)) a xs ∧ xs.map (fun zz => zz.1) = es.map (fun zz => zz.1) ∧ VRs h (es.map (fun zz => zz.2)) (xs.map (fun zz => zz.2.2))
  | .inst C dx fs => (∃ sl, h.get? a = some ⟨.ref C, some dx, .plain, sl⟩) ∧ ∃ es n, h.get? dx = some (dictOf es n) ∧ FsR w.params h fs es
  | .hid _ => ∃ es n, h.get? a = some (dictOf es n)
  | .rolist l => ∃ vs, h.PlainList a vs.toArray ∧ VRs h l vs
theorem OR.not_still {h : Heap} {a : Addr} {o : O} (x : OR prog w h a o) : ∃ ob, h.get? a = some ob ∧ ¬ Still ob := by
  cases o with
  | list l => obtain ⟨vs, ⟨n, e⟩, _⟩ := x; exact ⟨_, e, not_still_cls rfl (by decide) (by decide)⟩
  | dictI es => obtain ⟨vs, ⟨ob, _, e, _, d, _⟩, _⟩ := x; exact ⟨_, e, not_still_dict d⟩
  | dictS es => obtain ⟨vs, ⟨ob, _, e, _, d, _⟩, _⟩ := x; exact ⟨_, e, not_still_dict d⟩
  | dictT es => obtain ⟨vs, ⟨ob, _, _, e, _, d, _⟩, _⟩ := x; exact ⟨_, e, not_still_dict d⟩
  | inst C dx fs => obtain ⟨⟨sl, e⟩, _⟩ := x; exact ⟨_, e, not_still_plain rfl⟩
  | hid x => obtain ⟨es, n, e⟩ := x; exact ⟨_, e, not_still_dict rfl⟩
  | rolist l => obtain ⟨vs, ⟨n, e⟩, _⟩ := x; exact ⟨_, e, not_still_cls rfl (by decide) (by decide)⟩
structure RH (base : Heap) (H : Hp) (h : Heap) : Prop where
  obj : ∀ a o, H a = some o → OR prog w h a o
  apart : ∀ x C dx fs, H x = some (.inst C dx fs) → H dx = some (.hid x)
  base : ∀ a o, base.get? a = some o → h.get? a = some o ∧ H a = none
end
structure Stp (own : Addr → Prop) (H : Hp) (s : Shared) (H' : Hp) (s' : Shared) : Prop where
  keep : ∀ a o, s.heap.get? a = some o → H a = none → ¬ own a → s'.heap.get? a = some o
  new : ∀ a, H' a ≠ none → H a ≠ none ∨ s.heap.get? a = none
  sta : Sta s.heap s'.heap
  live : ∀ a, (s.heap.get? a).isSome = true → (s'.heap.get? a).isSome = true
  rest : s' = { s with heap := s'.heap, toks := s'.toks }
  ro : ∀ a l o, H a = some (.rolist l) → s.heap.get? a = some o → H' a = some (.rolist l) ∧ s'.heap.get? a = some o
noncomputable abbrev noOwn : Addr → Prop := fun zz => False
theorem Stp.refl {own H s} : Stp own H s H s := ⟨fun zz zz e zz zz => e, fun zz h => .inl h, Sta.refl _, fun zz h => h, rfl, fun zz zz zz e e' => ⟨e, e'⟩⟩
theorem Stp.toks {own H} {s : Shared} (t : Nat) : Stp own H s H { s with toks := t } := ⟨fun zz zz e zz zz => e, fun zz h => .inl h, Sta.refl _, fun zz h => h, rfl, fun zz zz zz e e' => ⟨e, e'⟩⟩
theorem Stp.mono {own own' : Addr → Prop} {H s H' s'} (x : Stp own H s H' s') (h : ∀ a, own a → own' a) : Stp own' H s H' s' :=
  ⟨fun a o e e' n => x.keep a o e e' fun q => n (h a q), x.new, x.sta, x.live, x.rest, x.ro⟩
theorem Stp.lo {H s H' s'} {own : Addr → Prop} (x : Stp noOwn H s H' s') : Stp own H s H' s' := x.mono fun zz => False.elim
theorem rest_trans {s s' s'' : Shared} (e1 : s' = { s with heap := s'.heap, toks := s'.toks }) (e2 : s'' = { s' with heap := s''.heap, toks := s''.toks }) : s'' = { s with heap := s''.heap, toks := s''.toks } := by
  obtain ⟨h, g, d, t, os⟩ := s
  obtain ⟨h', g', d', t', os'⟩ := s'
  obtain ⟨h'', g'', d'', t'', os''⟩ := s''
  simp only [Shared.mk.injEq] at e1 e2 ⊢
  obtain ⟨-, a, b, -, c⟩ := e1
  obtain ⟨-, a', b', -, c'⟩ := e2
  exact ⟨trivial, a'.trans a, b'.trans b, trivial, c'.trans c⟩
theorem Stp.trans {own H s H' s' H'' s''} (x : Stp own H s H' s') (y : Stp own H' s' H'' s'') : Stp own H s H'' s'' where
  keep a o e e' n := by
    refine y.keep a o (x.keep a o e e' n) ?_ n
    cases q : H' a with
    | none => rfl
    | some o' =>
      rcases x.new a (by rw [q]; simp) with z | z
      · exact absurd e' z
      · rw [e] at z; cases z
  new a h := by
    rcases y.new a h with z | z
    · exact x.new a z
    · cases q : s.heap.get? a with
      | none => exact .inr rfl
      | some o =>
        have := x.live a (by rw [q]; rfl)
        rw [z] at this; cases this
  sta := x.sta.trans y.sta
  live a h := y.live a (x.live a h)
  rest := rest_trans x.rest y.rest
  ro a l o e e' := let ⟨p, q⟩ := x.ro a l o e e'; y.ro a l o p q
theorem size_free {h : Heap} : h.get? h.objs.size = none := by
  cases q : h.get? h.objs.size with
  | none => rfl
  | some o => exact absurd (Heap.lt_size q) (Nat.lt_irrefl _)
theorem Stp.grow {own H} {s : Shared} {h' : Heap} (t : Nat) (k : ∀ a o, s.heap.get? a = some o → h'.get? a = some o) : Stp own H s H { s with heap := h', toks := t } :=
  ⟨fun a o e zz zz => k a o e, fun zz h => .inl h, fun a o e zz => k a o e, fun a h => by
    obtain ⟨o, e⟩ := Option.isSome_iff_exists.mp h
    show (h'.get? a).isSome = true
    rw [k a o e]; rfl, rfl, fun a zz o e e' => ⟨e, k a o e'⟩⟩
theorem Stp.push {own H} {s : Shared} (o : Obj) (t : Nat) : Stp own H s H { s with heap := s.heap.push o, toks := t } := Stp.grow t fun zz zz e => Heap.get?_push_of_some o e
theorem Stp.growPut {own H} {s : Shared} {h' : Heap} (t : Nat) (k : ∀ a o, s.heap.get? a = some o → h'.get? a = some o) (d : Addr) (x : O) (hd : s.heap.get? d = none) :
    Stp own H s (H.put d x) { s with heap := h', toks := t } :=
  have g : Stp own H s H { s with heap := h', toks := t } := Stp.grow t k
  ⟨g.keep, fun a h => by
    unfold Hp.put at h
    by_cases q : a = d
    · subst q; exact .inr hd
    · rw [if_neg q] at h; exact .inl h, g.sta, g.live, g.rest, fun a l o e e' => ⟨by
      rw [Hp.put_ne (by rintro rfl; rw [hd] at e'; cases e')]; exact e, k a o e'⟩⟩
theorem Stp.put {own H} {s : Shared} (o : Obj) (t : Nat) (x : O) : Stp own H s (H.put s.heap.objs.size x) { s with heap := s.heap.push o, toks := t } :=
  Stp.growPut t (fun zz zz e => Heap.get?_push_of_some o e) _ x size_free
theorem Stp.set {own H} {s : Shared} {h' : Heap} {a : Addr} {ob : Obj} (o x : O) (t : Nat) (e : H a = some o) (eo : s.heap.get? a = some ob) (n : ¬ Still ob)
    (hs : Heap.SameBut a s.heap h') (hl : (h'.get? a).isSome = true) (hro : ∀ l, o ≠ .rolist l) : Stp own H s (H.put a x) { s with heap := h', toks := t } :=
  ⟨fun b ob' eb e' zz => (hs.2 b (by rintro rfl; rw [e] at e'; cases e')).trans eb, fun b h => by
    unfold Hp.put at h
    by_cases q : b = a
    · subst q; exact .inl (by rw [e]; simp)
    · rw [if_neg q] at h; exact .inl h, Sta.but hs.extBut eo n, fun b hb => by
    by_cases q : b = a
    · subst q; exact hl
    · show (h'.get? b).isSome = true
      rw [hs.2 b q]; exact hb, rfl, fun b l ob' e1 e2 => by
    have q : b ≠ a := by rintro rfl; rw [e] at e1; exact hro l (Option.some.inj e1)
    exact ⟨by rw [Hp.put_ne q]; exact e1, (hs.2 b q).trans e2⟩⟩
section
variable {prog : Program} {w : World} {base : Heap}
theorem DictAt_at {K : Type} [DecidableEq K] {knd : KeyKind prog w K} {h h' : Heap} {a kvs ep} (x : h.DictAt knd a kvs ep) (k : ∀ o, h.get? a = some o → h'.get? a = some o) : h'.DictAt knd a kvs ep := by
  obtain ⟨o, es, e, r⟩ := id x
  exact ⟨o, es, k _ e, r⟩
theorem IsTupleKey.sta {K : Type} [DecidableEq K] {knd : KeyKind prog w K} {h h' : Heap} {ks : List K} {a} (t : Sta h h') (x : IsTupleKey knd h ks a) : IsTupleKey knd h' ks a := by
  obtain ⟨o, items, n, e, c, d, r⟩ := id x
  exact ⟨o, items, n, t _ _ e (.inl ⟨c, _, _, d⟩), c, d, r⟩
theorem DictOfH_at {h h' : Heap} {a} {xs : List (List Int × Addr × Value)} (t : Sta h h') (x : h.DictOfH (tupleKind (intKind prog w)) a xs) (k : ∀ o, h.get? a = some o → h'.get? a = some o) : h'.DictOfH (tupleKind (intKind prog w)) a xs := by
  obtain ⟨o, es, ep, e, c, d, l, m, r⟩ := id x
  exact ⟨o, es, ep, k _ e, c, d, l, fun y hy => IsTupleKey.sta t (m y hy), r⟩
theorem OR.at {h h' : Heap} {a : Addr} {o : O} (t : Sta h h') (x : OR prog w h a o) (k : ∀ ob, h.get? a = some ob → h'.get? a = some ob)
    (kd : ∀ C dx fs, o = .inst C dx fs → ∀ ob, h.get? dx = some ob → h'.get? dx = some ob) : OR prog w h' a o := by
  cases o with
  | list l => obtain ⟨vs, p, q⟩ := x; exact ⟨vs, p.at k, q.sta t⟩
  | dictI es => obtain ⟨vs, p, q⟩ := x; exact ⟨vs, DictAt_at p k, q.sta t⟩
  | dictS es => obtain ⟨vs, p, q⟩ := x; exact ⟨vs, DictAt_at p k, q.sta t⟩
  | dictT es => obtain ⟨xs, p, e, q⟩ := x; exact ⟨xs, DictOfH_at t p k, e, q.sta t⟩
  | inst C dx fs => obtain ⟨⟨sl, e⟩, es, n, e2, f⟩ := x; exact ⟨⟨sl, k _ e⟩, es, n, kd _ _ _ rfl _ e2, f.sta t⟩
  | hid x => obtain ⟨es, n, e⟩ := x; exact ⟨es, n, k _ e⟩
  | rolist l => obtain ⟨vs, p, q⟩ := x; exact ⟨vs, p.at k, q.sta t⟩
theorem RH.grow {H : Hp} {h h' : Heap} (x : RH prog w base H h) (k : ∀ a o, h.get? a = some o → h'.get? a = some o) : RH prog w base H h' :=
  ⟨fun a ob e => (x.obj a ob e).at (fun a o e zz => k a o e) (fun zz e => k _ _ e) fun zz zz zz zz zz e => k _ _ e, x.apart, fun a ob e => ⟨k _ _ (x.base a ob e).1, (x.base a ob e).2⟩⟩
theorem RH.push {H : Hp} {h : Heap} (x : RH prog w base H h) (o : Obj) : RH prog w base H (h.push o) :=
  ⟨fun a ob e => (x.obj a ob e).at (Sta.push _ _) (fun zz e => Heap.get?_push_of_some _ e) fun zz zz zz zz zz e => Heap.get?_push_of_some _ e, x.apart, fun a ob e => ⟨Heap.get?_push_of_some _ (x.base a ob e).1, (x.base a ob e).2⟩⟩
theorem RH.lt {H : Hp} {h : Heap} (x : RH prog w base H h) {a : Addr} {o : O} (e : H a = some o) : a < h.objs.size :=
  let ⟨_, e, _⟩ := (x.obj a o e).not_still; Heap.lt_size e
theorem RH.none_size {H : Hp} {h : Heap} (x : RH prog w base H h) : H h.objs.size = none := by
  cases q : H h.objs.size with
  | none => rfl
  | some o => exact absurd (x.lt q) (Nat.lt_irrefl _)
theorem RH.show {H : Hp} {h : Heap} (x : RH prog w base H h) {d : Addr} (o : O) (hd : H d = none) (hb : base.get? d = none) (hi : ∀ C dx fs, o ≠ .inst C dx fs) (k : OR prog w h d o) : RH prog w base (H.put d o) h := by
  refine ⟨fun a o' e => ?_, fun a C dx fs e => ?_, fun a o' e => ⟨(x.base a o' e).1, ?_⟩⟩
  · by_cases q : a = d
    · subst q; rw [Hp.put_self] at e; cases e; exact k
    · rw [Hp.put_ne q] at e; exact x.obj a o' e
  · by_cases q : a = d
    · subst q; rw [Hp.put_self] at e; cases e; exact absurd rfl (hi C dx fs)
    · rw [Hp.put_ne q] at e
      have e' := x.apart _ _ _ _ e
      rw [Hp.put_ne (by rintro rfl; rw [hd] at e'; cases e')]; exact e'
  · rw [Hp.put_ne (by rintro rfl; rw [hb] at e; cases e)]; exact (x.base a o' e).2
theorem RH.base_none {H : Hp} {h : Heap} (x : RH prog w base H h) {d : Addr} (hd : h.get? d = none) : base.get? d = none := by
  cases q : base.get? d with
  | none => rfl
  | some o => rw [(x.base d o q).1] at hd; cases hd
theorem RH.H_none {H : Hp} {h : Heap} (x : RH prog w base H h) {d : Addr} (hd : h.get? d = none) : H d = none := by
  cases q : H d with
  | none => rfl
  | some o => obtain ⟨ob, e, _⟩ := (x.obj d o q).not_still; rw [hd] at e; cases e
theorem RH.new {H : Hp} {h : Heap} (x : RH prog w base H h) (ob : Obj) (o : O) (hi : ∀ C dx fs, o ≠ .inst C dx fs) (k : OR prog w (h.push ob) h.objs.size o) : RH prog w base (H.put h.objs.size o) (h.push ob) :=
  (x.push ob).show o (x.H_none size_free) (x.base_none size_free) hi k
theorem RH.set {H : Hp} {h h' : Heap} (x : RH prog w base H h) {a : Addr} {o₀ o : O} (e₀ : H a = some o₀) (h0 : ∀ y, o₀ ≠ .hid y) (hi : ∀ C dx fs, o ≠ .inst C dx fs) (hs : Heap.SameBut a h h') (k : OR prog w h' a o) : RH prog w base (H.put a o) h' := by
  obtain ⟨ob, eob, n⟩ := (x.obj a o₀ e₀).not_still
  have t : Sta h h' := Sta.but hs.extBut eob n
  refine ⟨fun b o' e => ?_, fun b C dx fs e => ?_, fun b o' e => ?_⟩
  · by_cases q : b = a
    · subst q; rw [Hp.put_self] at e; cases e; exact k
    · rw [Hp.put_ne q] at e
      refine (x.obj b o' e).at t (fun ob e => (hs.2 b q).trans e) fun C dx fs eo ob e2 => (hs.2 dx ?_).trans e2
      rintro rfl
      subst eo
      have := x.apart _ _ _ _ e
      rw [e₀] at this; cases this; exact h0 _ rfl
  · by_cases q : b = a
    · subst q; rw [Hp.put_self] at e; cases e; exact absurd rfl (hi C dx fs)
    · rw [Hp.put_ne q] at e
      have e' := x.apart _ _ _ _ e
      have : dx ≠ a := by rintro rfl; rw [e₀] at e'; cases e'; exact h0 _ rfl
      rw [Hp.put_ne this]; exact e'
  · have hb := x.base b o' e
    have : b ≠ a := by rintro rfl; rw [e₀] at hb; cases hb.2
    exact ⟨(hs.2 b this).trans hb.1, by rw [Hp.put_ne this]; exact hb.2⟩
theorem RH.own {H : Hp} {h h' : Heap} (x : RH prog w base H h) {a : Addr} {ob : Obj} (e₀ : H a = none) (eb : base.get? a = none) (eo : h.get? a = some ob) (n : ¬ Still ob)
    (hs : Heap.ExtBut a h h') : RH prog w base H h' := by
  have t : Sta h h' := Sta.but hs eo n
  refine ⟨fun b o' e => ?_, x.apart, fun b o' e => ?_⟩
  · refine (x.obj b o' e).at t (fun ob e' => hs b ob (by rintro rfl; rw [e₀] at e; cases e) e') fun C dx fs eq ob e2 => hs dx ob ?_ e2
    rintro rfl; subst eq
    have := x.apart _ _ _ _ e
    rw [e₀] at this; cases this
  · have hb := x.base b o' e
    exact ⟨hs b o' (by rintro rfl; rw [eb] at e; cases e) hb.1, hb.2⟩
end
end Mine
set_option tactic.hygienic false
open PySem PySem.W PyProof.Rows
set_option maxRecDepth 100000
namespace Mine
structure Cx where
  prog : Program
  w : World
  base : Heap
  nm : Nat → Str
  glo : Str → Option Value
  mth : Addr → Str → Option Addr
  K : Frag
  fld : Addr → Str → Bool
noncomputable def Glo (h : Heap) (x : Str) (v : Value) : Prop :=
  (∃ mg, h.Ns mainGlobals mg ∧ mg x = some v) ∨ (∃ mg mb, h.Ns mainGlobals mg ∧ mg x = none ∧ h.Ns builtinsNs mb ∧ mb x = some v)
structure CxOk (c : Cx) : Prop where
  glo : ∀ x v, c.glo x = some v → Glo c.base x v
  lim : c.base.NoLimit
  main : (c.base.get? mainGlobals).isSome = true
  mods : (c.base.get? sysModules).isSome = true
  kin : c.K.In c.base
  inj : ∀ i j, c.nm i = c.nm j → i = j
  fld : ∀ C f, c.fld C f = true → plainGet c.K C f = true ∧ hasDictIn c.K C = true ∧ (∃ attr, findIn c.K (.ref C) f = some attr ∧ noGet c.K attr = true) ∧
    findIn c.K (.ref C) "__setattr__" = some (some (.builtin "object.__setattr__")) ∧ plainOver c.K C = true ∧ takerIn c.K C f = some none
  mth : ∀ C f g, c.mth C f = some g → plainGet c.K C f = true ∧ findIn c.K (.ref C) f = some (some (.ref g)) ∧ isFn c.K (.ref g) = true ∧ keepIn c.K (.ref g) = true
noncomputable def Room (n : Nat) (A : Around) : Prop := A.handled = none ∧ A.depth + 2 * n < recursionLimit ∧ A.units + 50 * n < cLine
section
variable (c : Cx)
structure FrM (env : Env) (m : Lo) (h : Heap) : Prop where
  ns : ∃ m', h.Ns env.locals m' ∧ ∀ i v, env.kindOf (c.nm i) = some .local → m i = some v → ∃ v', m' (c.nm i) = some v' ∧ VR h v v'
  cel : ∀ i k, env.kindOf (c.nm i) = some k → (k = .cell ∨ k = .free) → ∃ a ov, env.cells.lookup (c.nm i) = some a ∧ h.IsCell a ov ∧ ∀ v, m i = some v → ∃ v', ov = some v' ∧ VR h v v'
noncomputable def Own (env : Env) (a : Addr) : Prop := a = env.locals ∨ ∃ x, (x, a) ∈ env.cells
structure EnvOk (env : Env) : Prop where
  kind : env.scope.kind = .function
  globals : env.globals = mainGlobals
  builtins : env.builtins = builtinsNs
  more : env.scope.more.all (fun x => x.1 != ("interactive" : Str)) = true
  apart : ∀ x y a, (x, a) ∈ env.cells → (y, a) ∈ env.cells → x = y
  cel : ∀ y k, env.kindOf y = some k → (k = .cell ∨ k = .free) → ∃ a, env.cells.lookup y = some a
structure Ok (n : Nat) (env : Env) (m : Lo) (H : Hp) (A : Around) (s : Shared) : Prop where
  room : Room n A
  rh : RH c.prog c.w c.base H s.heap
  fr : FrM c env m s.heap
  free : ∀ a, Own env a → (s.heap.get? a).isSome = true ∧ H a = none ∧ c.base.get? a = none
inductive EvP (Q : V → Hp → Prop) (H : Hp) (s : Shared) (v' : Value) (s' : Shared) : Prop
  | mk (v : V) (H' : Hp) : VR s'.heap v v' → RH c.prog c.w c.base H' s'.heap → Stp noOwn H s H' s' → Q v H' → EvP Q H s v' s'
noncomputable abbrev bot : Value → Shared → Prop := fun zz zz => False
noncomputable def EvOK (n : Nat) (env : Env) (m : Lo) (e : Expr) (Q : V → Hp → Prop) (H : Hp) : Prop :=
  ∀ A s, Ok c n env m H A s → wpAny (model c.prog c.w) A (eval e env) (EvP c Q H s) bot s
inductive TsP (K : Bool → Hp → Prop) (H : Hp) (s : Shared) (b : Bool) (s' : Shared) : Prop
  | mk (H' : Hp) : RH c.prog c.w c.base H' s'.heap → Stp noOwn H s H' s' → K b H' → TsP K H s b s'
noncomputable def TsOK (n : Nat) (env : Env) (m : Lo) (e : Expr) (K : Bool → Hp → Prop) (H : Hp) : Prop :=
  ∀ A s, Ok c n env m H A s → wpAny (model c.prog c.w) A (isTrue e env (eval e env)) (TsP c K H s) bot s
noncomputable def CallOK (n : Nat) (f : V) (args : List V) (Q : V → Hp → Prop) (H : Hp) : Prop :=
  ∀ (A : Around) (s : Shared) (f' : Value) (args' : List Value), Room n A → RH c.prog c.w c.base H s.heap → VR s.heap f f' → VRs s.heap args args' →
    codeAny (model c.prog c.w) A (.call f' ⟨args', []⟩) (fun r s' => ∃ v', r = .ok (.ret v') ∧ EvP c Q H s v' s') s
end
noncomputable def lk {K : Type} [DecidableEq K] : List (K × V) → K → Option V
  | [], _ => none
  | (a, v) :: r, k => if a = k then some v else lk r k
inductive Tg | one (i : Nat) | two (i j : Nat)
set_option genInjectivity false
set_option genCtorIdx false
set_option genSizeOf false
mutual
inductive X where
  | var (i : Nat)
  | lit (v : V)
  | glob (x : Str) (v : V)
  | bin (op : Operator) (l r : X)
  | cmp (op : CmpOp) (l r : X)
  | neg (i : Int)
  | ite (t a b : X)
  | not (e : X)
  | and (a b : X)
  | or (a b : X)
  | tup (es : Xs)
  | lst (es : Xs)
  | dct (k : Nat) (kvs : Xs)
  | attr (o : X) (f : Str)
  | sub (o i : X)
  | cutTo (o hi : X)
  | cutFrom (o lo : X)
  | rev (o : X)
  | call (f : X) (as : Xs)
  | meth (o : X) (f : Str) (as : Xs)
  | append (o x : X)
  | pop (o : X)
  | extend (o x : X)
  | index (o x : X)
  | get (o k d : X)
  | setd (o k d : X)
  | join (o x : X)
  | len (x : X)
  | range1 (x : X)
  | range2 (x y : X)
  | list (x : X)
  | tuple (x : X)
  | sorted (x : X)
  | abs (x : X)
  | toInt (x : X)
  | dict (x : X)
  | comp (elt : X) (i : Nat) (it : X)
  | compIf (elt : X) (i : Nat) (it t : X)
  | comp2 (elt : X) (i : Nat) (it : X) (j : Nat) (jt : X)
inductive Xs where
  | nil
  | cons (x : X) (xs : Xs)
end
mutual
inductive S where
  | asg (i : Nat) (e : X)
  | asg2 (i j : Nat) (a b : X)
  | asgAttr (o : X) (f : Str) (e : X)
  | asgSub (o k e : X)
  | expr (e : X)
  | iff (t : X) (a b : Ss)
  | whl (t : X) (b : Ss)
  | for (t : Tg) (it : X) (b : Ss)
  | ret (e : X)
  | bad
inductive Ss where
  | nil
  | cons (s : S) (ss : Ss)
end
set_option genInjectivity true
set_option genCtorIdx true
set_option genSizeOf true
noncomputable def isB (K : Bool → Hp → Prop) (v : V) (H : Hp) : Prop := ∃ b, v = .bool b ∧ K b H
noncomputable def both (P Q : Prop) (b : Bool) : Prop := (b = true → P) ∧ (b = false → Q)
noncomputable def Sm (i : Int) : Prop := i.natAbs < 2 ^ 63
inductive BinQ (Q : V → Hp → Prop) (H : Hp) : Operator → V → V → Prop
  | k0 {i : Int} {j : Int} : (Q (.int (i + j)) H) → BinQ Q H .Add (.int i) (.int j)
  | k1 {i : Int} {j : Int} : (Q (.int (i - j)) H) → BinQ Q H .Sub (.int i) (.int j)
  | k2 {i : Int} {j : Int} : ((Sm i ∨ Sm j) ∧ Q (.int (i * j)) H) → BinQ Q H .Mult (.int i) (.int j)
  | k3 {i : Int} {j : Int} : ((0 < j ∧ j < 1000000) ∧ Q (.int (i / j)) H) → BinQ Q H .FloorDiv (.int i) (.int j)
  | k4 {i : Int} {j : Int} : ((0 < j ∧ j < 1000000) ∧ Q (.int (i % j)) H) → BinQ Q H .Mod (.int i) (.int j)
  | k5 {i : Int} {j : Int} : ((0 ≤ j ∧ j ≤ 1000 ∧ Sm i) ∧ Q (.int (i ^ j.toNat)) H) → BinQ Q H .Pow (.int i) (.int j)
  | k6 {a : Addr} {b : Addr} : (∃ la lb, H a = some (.list la) ∧ H b = some (.list lb) ∧ la.length + lb.length ≤ 100000 ∧ ∀ d, H d = none → Q (.ref d) (H.put d (.list (la ++ lb)))) → BinQ Q H .Add (.ref a) (.ref b)
  | k7 {la : List V} {lb : List V} : (la.length + lb.length ≤ 100000 ∧ Q (.tup (la ++ lb)) H) → BinQ Q H .Add (.tup la) (.tup lb)
  | k8 {la : List V} {n : Int} : ((2 ≤ n ∧ la.length = 1 ∧ n ≤ 1000) ∧ Q (.tup (List.replicate n.toNat la).flatten) H) → BinQ Q H .Mult (.tup la) (.int n)
  | k9 {a : Addr} {n : Int} : (∃ la, H a = some (.list la) ∧ (0 ≤ n ∧ la.length = 1 ∧ n ≤ 100000) ∧ ∀ d, H d = none → Q (.ref d) (H.put d (.list (List.replicate n.toNat la).flatten))) → BinQ Q H .Mult (.ref a) (.int n)
noncomputable def binQ (op : Operator) (a b : V) (Q : V → Hp → Prop) (H : Hp) : Prop := BinQ Q H op a b
noncomputable def strsOf : List V → Option (List Str)
  | [] => some []
  | .str x :: r => (strsOf r).map (fun zz => x :: zz)
  | _ :: _ => none
inductive InQ (Q : Bool → Hp → Prop) (H : Hp) : V → V → Prop
  | k0 {x : Str} {l : List V} : (∃ xs, strsOf l = some xs ∧ Q (decide (x ∈ xs)) H) → InQ Q H (.str x) (.tup l)
  | k1 {x : Str} {b : Addr} : (∃ l xs, H b = some (.list l) ∧ strsOf l = some xs ∧ Q (decide (x ∈ xs)) H) → InQ Q H (.str x) (.ref b)
  | k2 {i : Int} {b : Addr} : (∃ es : List (Int × V), H b = some (.dictI es) ∧ Q (lk es i).isSome H) → InQ Q H (.int i) (.ref b)
  | k3 {k : List V} {b : Addr} : (∃ (es : List (List Int × V)) (ks : List Int), H b = some (.dictT es) ∧ k = ks.map V.int ∧ Q (lk es ks).isSome H) → InQ Q H (.tup k) (.ref b)
noncomputable def inQ (a b : V) (Q : Bool → Hp → Prop) (H : Hp) : Prop := InQ Q H a b
inductive EqQ (Q : Bool → Hp → Prop) (H : Hp) : V → V → Prop
  | k0 {i : Int} {j : Int} : (Q (decide (i = j)) H) → EqQ Q H (.int i) (.int j)
  | k1 {x : Str} {y : Str} : (Q (decide (x = y)) H) → EqQ Q H (.str x) (.str y)
  | k2 {a : Addr} {b : Addr} : (∃ la lb, H a = some (.list la) ∧ H b = some (.list lb) ∧ ((la.length ≠ lb.length ∧ Q false H) ∨ (la = [] ∧ lb = [] ∧ Q true H) ∨ ∃ xs ys, strsOf la = some xs ∧ strsOf lb = some ys ∧ Q (decide (xs = ys)) H)) → EqQ Q H (.ref a) (.ref b)
noncomputable def eqQ (a b : V) (Q : Bool → Hp → Prop) (H : Hp) : Prop := EqQ Q H a b
inductive CmpQ (Q : V → Hp → Prop) (H : Hp) : CmpOp → V → V → Prop
  | k0 {i : Int} {j : Int} : (Q (.bool (decide (i < j))) H) → CmpQ Q H .Lt (.int i) (.int j)
  | k1 {i : Int} {j : Int} : (Q (.bool (decide (i ≤ j))) H) → CmpQ Q H .LtE (.int i) (.int j)
  | k2 {i : Int} {j : Int} : (Q (.bool (decide (j < i))) H) → CmpQ Q H .Gt (.int i) (.int j)
  | k3 {i : Int} {j : Int} : (Q (.bool (decide (j ≤ i))) H) → CmpQ Q H .GtE (.int i) (.int j)
  | k4 {a : V} {b : V} : (eqQ a b (fun r => Q (.bool r)) H) → CmpQ Q H .Eq a b
  | k5 {a : V} {b : V} : (eqQ a b (fun r => Q (.bool !r)) H) → CmpQ Q H .NotEq a b
  | k6 {a : V} {b : V} : (inQ a b (fun r => Q (.bool r)) H) → CmpQ Q H .In a b
  | k7 {a : V} {b : V} : ((∀ k, a ≠ .tup k) ∧ inQ a b (fun r => Q (.bool !r)) H) → CmpQ Q H .NotIn a b
  | k8 {a : V} : ((a = .none ∧ Q (.bool true) H) ∨ ((∃ x, a = .str x) ∧ Q (.bool false) H)) → CmpQ Q H .Is a .none
  | k9 {a : V} : ((a = .none ∧ Q (.bool false) H) ∨ ((∃ x, a = .str x) ∧ Q (.bool true) H)) → CmpQ Q H .IsNot a .none
noncomputable def cmpQ (op : CmpOp) (a b : V) (Q : V → Hp → Prop) (H : Hp) : Prop := CmpQ Q H op a b
noncomputable def pairUp : List V → List (V × V)
  | a :: b :: r => (a, b) :: pairUp r
  | _ => []
noncomputable def dctQ (k : Nat) (kvs : List (V × V)) (Q : V → Hp → Prop) (H : Hp) : Prop :=
  match k with
  | 0 => ∃ es : List (Int × V), kvs = es.map (fun e => (.int e.1, e.2)) ∧ (es.map (fun zz => zz.1)).Nodup ∧ es.length ≤ 10 ∧ ∀ d, H d = none → Q (.ref d) (H.put d (.dictI es))
  | 1 => ∃ es : List (Str × V), kvs = es.map (fun e => (.str e.1, e.2)) ∧ (es.map (fun zz => zz.1)).Nodup ∧ es.length ≤ 10 ∧ ∀ d, H d = none → Q (.ref d) (H.put d (.dictS es))
  | _ => kvs = [] ∧ ∀ d, H d = none → Q (.ref d) (H.put d (.dictT []))
noncomputable def attrQ (c : Cx) (o : V) (f : Str) (Q : V → Hp → Prop) (H : Hp) : Prop :=
  ∃ a C dx fs v, o = .ref a ∧ H a = some (.inst C dx fs) ∧ c.fld C f = true ∧ lk fs f = some v ∧ Q v H
inductive SubQ (Q : V → Hp → Prop) (H : Hp) : V → V → Prop
  | k0 {a : Addr} {n : Int} : ((∃ l v, H a = some (.list l) ∧ 0 ≤ n ∧ n < 100000 ∧ l[n.toNat]? = some v ∧ Q v H) ∨ (∃ (es : List (Int × V)) (v : V), H a = some (.dictI es) ∧ lk es n = some v ∧ Q v H)) → SubQ Q H (.ref a) (.int n)
  | k1 {a : Addr} {x : Str} : (∃ (es : List (Str × V)) (v : V), H a = some (.dictS es) ∧ lk es x = some v ∧ Q v H) → SubQ Q H (.ref a) (.str x)
  | k2 {a : Addr} {k : List V} : (∃ (es : List (List Int × V)) (ks : List Int) (v : V), H a = some (.dictT es) ∧ k = ks.map V.int ∧ lk es ks = some v ∧ Q v H) → SubQ Q H (.ref a) (.tup k)
  | k3 {l : List V} {n : Int} : (∃ v, 0 ≤ n ∧ n < 100000 ∧ l[n.toNat]? = some v ∧ Q v H) → SubQ Q H (.tup l) (.int n)
  | k4 {x : Str} {n : Int} : (∃ ch, 0 ≤ n ∧ n < 100000 ∧ x.cps[n.toNat]? = some ch ∧ Q (.str ⟨#[ch]⟩) H) → SubQ Q H (.str x) (.int n)
noncomputable def subQ (o i : V) (Q : V → Hp → Prop) (H : Hp) : Prop := SubQ Q H o i
inductive CutToQ (Q : V → Hp → Prop) (H : Hp) : V → V → Prop
  | k0 {a : Addr} {n : Int} : (∃ l, (H a = some (.list l) ∨ H a = some (.rolist l)) ∧ l.length < 100000 ∧ 0 ≤ n ∧ ∀ d, H d = none → Q (.ref d) (H.put d (.list (l.take n.toNat)))) → CutToQ Q H (.ref a) (.int n)
  | k1 {x : Str} {n : Int} : ((x.cps.size = 1 ∧ n = 1) ∧ Q (.str x) H) → CutToQ Q H (.str x) (.int n)
noncomputable def cutToQ (o hi : V) (Q : V → Hp → Prop) (H : Hp) : Prop := CutToQ Q H o hi
inductive CutFromQ (Q : V → Hp → Prop) (H : Hp) : V → V → Prop
  | k0 {a : Addr} {n : Int} : (∃ l, H a = some (.list l) ∧ l.length < 100000 ∧ 0 ≤ n ∧ ∀ d, H d = none → Q (.ref d) (H.put d (.list (l.drop n.toNat)))) → CutFromQ Q H (.ref a) (.int n)
noncomputable def cutFromQ (o lo : V) (Q : V → Hp → Prop) (H : Hp) : Prop := CutFromQ Q H o lo
noncomputable def revQ (o : V) (Q : V → Hp → Prop) (H : Hp) : Prop :=
  ∃ a l, o = .ref a ∧ H a = some (.list l) ∧ l.length < 100000 ∧ ∀ d, H d = none → Q (.ref d) (H.put d (.list l.reverse))
noncomputable def isL (o : V) (H : Hp) : Prop := ∃ a l, o = .ref a ∧ H a = some (.list l)
noncomputable def isD (o : V) (H : Hp) : Prop := ∃ a, o = .ref a ∧ ((∃ es, H a = some (.dictI es)) ∨ ∃ es, H a = some (.dictT es))
noncomputable def isS (o : V) (_H : Hp) : Prop := ∃ x, o = .str x
noncomputable def appendQ (o x : V) (Q : V → Hp → Prop) (H : Hp) : Prop := ∃ a l, o = .ref a ∧ H a = some (.list l) ∧ l.length < 100000 ∧ Q .none (H.put a (.list (l ++ [x])))
noncomputable def popQ (o : V) (Q : V → Hp → Prop) (H : Hp) : Prop := ∃ a l v, o = .ref a ∧ H a = some (.list (l ++ [v])) ∧ l.length < 100000 ∧ Q v (H.put a (.list l))
noncomputable def extendQ (o x : V) (Q : V → Hp → Prop) (H : Hp) : Prop :=
  ∃ a l b k, o = .ref a ∧ x = .ref b ∧ a ≠ b ∧ H a = some (.list l) ∧ H b = some (.list k) ∧ l.length + k.length ≤ 100000 ∧ Q .none (H.put a (.list (l ++ k)))
noncomputable def indexQ (o x : V) (Q : V → Hp → Prop) (H : Hp) : Prop :=
  ∃ a l xs y i, o = .ref a ∧ H a = some (.list l) ∧ strsOf l = some xs ∧ x = .str y ∧ xs.findIdx? (fun zz => zz = y) = some i ∧ i < 100000 ∧ Q (.int i) H
inductive GetQ (Q : V → Hp → Prop) (H : Hp) (d : V) : V → V → Prop
  | k0 {a : Addr} {i : Int} : (∃ es : List (Int × V), H a = some (.dictI es) ∧ Q ((lk es i).getD d) H) → GetQ Q H d (.ref a) (.int i)
  | k1 {a : Addr} {k : List V} : (∃ (es : List (List Int × V)) (ks : List Int), H a = some (.dictT es) ∧ k = ks.map V.int ∧ Q ((lk es ks).getD d) H) → GetQ Q H d (.ref a) (.tup k)
noncomputable def getQ (o k d : V) (Q : V → Hp → Prop) (H : Hp) : Prop := GetQ Q H d o k
noncomputable def putF : List (Str × V) → Str → V → List (Str × V)
  | [], f, v => [(f, v)]
  | (g, u) :: r, f, v => if g = f then (g, v) :: r else (g, u) :: putF r f v
noncomputable def putI {K : Type} [DecidableEq K] (es : List (K × V)) (k : K) (v : V) : List (K × V) :=
  if es.any (fun e => e.1 = k) then es.map (fun e => if e.1 = k then (e.1, v) else e) else es ++ [(k, v)]
noncomputable def setdQ (o k d : V) (Q : V → Hp → Prop) (H : Hp) : Prop :=
  ∃ a i, ∃ es : List (Int × V), o = .ref a ∧ k = .int i ∧ H a = some (.dictI es) ∧ es.length < 100000 ∧
    match lk es i with
    | some v => Q v H
    | none => Q d (H.put a (.dictI (es ++ [(i, d)])))
noncomputable def joinQ (o x : V) (Q : V → Hp → Prop) (H : Hp) : Prop :=
  ∃ a l xs, o = .str ⟨#[]⟩ ∧ x = .ref a ∧ H a = some (.list l) ∧ strsOf l = some xs ∧ (xs.map (fun x => x.cps.size)).sum ≤ 100000 ∧ Q (.str ⟨(xs.flatMap (fun x => x.cps.toList)).toArray⟩) H
inductive LenQ (Q : V → Hp → Prop) (H : Hp) : V → Prop
  | k0 {l : List V} : (l.length ≤ 100000 ∧ Q (.int l.length) H) → LenQ Q H (.tup l)
  | k1 {y : Str} : (y.cps.size ≤ 100000 ∧ Q (.int y.cps.size) H) → LenQ Q H (.str y)
  | k2 {a : Addr} : ((∃ l, H a = some (.list l) ∧ l.length ≤ 100000 ∧ Q (.int l.length) H) ∨ (∃ es, H a = some (.dictI es) ∧ es.length ≤ 100000 ∧ Q (.int es.length) H) ∨ (∃ es, H a = some (.dictT es) ∧ es.length ≤ 100000 ∧ Q (.int es.length) H)) → LenQ Q H (.ref a)
noncomputable def lenQ (x : V) (Q : V → Hp → Prop) (H : Hp) : Prop := LenQ Q H x
inductive ListQ (Q : V → Hp → Prop) (H : Hp) : V → Prop
  | k0 {l : List V} : (l.length ≤ 100000 ∧ ∀ d, H d = none → Q (.ref d) (H.put d (.list l))) → ListQ Q H (.tup l)
  | k1 {a : Addr} : (∃ l, H a = some (.list l) ∧ l.length ≤ 100000 ∧ ∀ d, H d = none → Q (.ref d) (H.put d (.list l))) → ListQ Q H (.ref a)
noncomputable def listQ (x : V) (Q : V → Hp → Prop) (H : Hp) : Prop := ListQ Q H x
noncomputable def tupleQ (x : V) (Q : V → Hp → Prop) (H : Hp) : Prop := ∃ a l, x = .ref a ∧ H a = some (.list l) ∧ l.length ≤ 100000 ∧ Q (.tup l) H
noncomputable def sortI (l : List Int) : List Int := l.mergeSort (fun a b => decide (a ≤ b))
noncomputable def sortedQ (x : V) (Q : V → Hp → Prop) (H : Hp) : Prop :=
  ∃ a, ∃ es : List (Int × V), x = .ref a ∧ H a = some (.dictI es) ∧ es.length < 64 ∧ ∀ (d : Addr) (l : List Int), l.Perm (es.map (fun zz => zz.1)) → l.Pairwise (fun zz zy => zz ≤ zy) → H d = none → Q (.ref d) (H.put d (.list (l.map V.int)))
noncomputable def dictQ (x : V) (Q : V → Hp → Prop) (H : Hp) : Prop :=
  ∃ a, ∃ kvs : List (List Int × V), x = .ref a ∧ H a = some (.list (kvs.map fun e => .tup [.tup (e.1.map V.int), e.2])) ∧ kvs.length < 50000 ∧
    ∀ d, H d = none → Q (.ref d) (H.put d (.dictT (kvs.foldl (fun es e => putI es e.1 e.2) [])))
noncomputable def iterQ (H : Hp) (v : V) : Option (List V × Option Addr) :=
  match v with
  | .tup l => some (l, none)
  | .rng lo hi => some ((List.range (hi - lo).toNat).map (fun (k : Nat) => V.int (lo + (k : Int))), none)
  | .str x => some (x.cps.toList.map (fun ch => .str ⟨#[ch]⟩), none)
  | .ref a => match H a with
    | some (.list l) => some (l, some a)
    | some (.dictI es) => some (es.map (fun e => .int e.1), some a)
    | _ => none
  | _ => none
noncomputable def StillAt (src : Option Addr) (H₀ H : Hp) : Prop := ∀ a, src = some a → H a = H₀ a
noncomputable def asgT (t : Tg) (v : V) (m : Lo) : Option Lo :=
  match t, v with
  | .one i, v => some (m.put i v)
  | .two i j, .tup [a, b] => some ((m.put i a).put j b)
  | _, _ => none
noncomputable def compGo (turn : V → (V → Hp → Prop) → Hp → Prop) (src : Option Addr) (H₀ : Hp) (K : List V → Hp → Prop) : List V → List V → Hp → Prop
  | [], acc, H => StillAt src H₀ H ∧ K acc H
  | x :: r, acc, H => StillAt src H₀ H ∧ turn x (fun v H' => compGo turn src H₀ K r (acc ++ [v]) H') H
noncomputable def compGoIf (test : V → (V → Hp → Prop) → Hp → Prop) (turn : V → (V → Hp → Prop) → Hp → Prop) (src : Option Addr) (H₀ : Hp) (K : List V → Hp → Prop) : List V → List V → Hp → Prop
  | [], acc, H => StillAt src H₀ H ∧ K acc H
  | x :: r, acc, H => StillAt src H₀ H ∧ test x (isB fun t H' => both (turn x (fun v H'' => compGoIf test turn src H₀ K r (acc ++ [v]) H'') H') (compGoIf test turn src H₀ K r acc H') t) H
noncomputable def compGo2 (src2 : V → (V → Hp → Prop) → Hp → Prop) (turn : V → V → (V → Hp → Prop) → Hp → Prop) (src : Option Addr) (H₀ : Hp) (K : List V → Hp → Prop) : List V → List V → Hp → Prop
  | [], acc, H => StillAt src H₀ H ∧ K acc H
  | x :: r, acc, H => StillAt src H₀ H ∧ src2 x (fun v H' => ∃ l sr, iterQ H' v = some (l, sr) ∧ acc.length + l.length ≤ 100000 ∧ compGo (turn x) sr H' (fun acc' H'' => compGo2 src2 turn src H₀ K r acc' H'') l acc H') H
noncomputable def newList (Q : V → Hp → Prop) (l : List V) (H : Hp) : Prop := l.length ≤ 100000 ∧ ∀ d, H d = none → Q (.ref d) (H.put d (.list l))
section
variable (c : Cx) (n : Nat)
mutual
noncomputable def awp : X → Lo → (V → Hp → Prop) → Hp → Prop
  | .var i, m, Q, H => ∃ v, m i = some v ∧ Q v H
  | .lit v, _, Q, H => Q v H
  | .glob _ v, _, Q, H => Q v H
  | .neg i, _, Q, H => Q (.int (-i)) H
  | .bin op l r, m, Q, H => awp l m (fun a => awp r m (fun b => binQ op a b Q)) H
  | .cmp op l r, m, Q, H => awp l m (fun a => awp r m (fun b => cmpQ op a b Q)) H
  | .ite t a b, m, Q, H => awp t m (isB fun r H' => both (awp a m Q H') (awp b m Q H') r) H
  | .not e, m, Q, H => awp e m (isB fun r H' => Q (.bool !r) H') H
  | .and a b, m, Q, H => awp a m (isB fun r H' => both (awp b m Q H') (Q (.bool false) H') r) H
  | .or a b, m, Q, H => awp a m (isB fun r H' => both (Q (.bool true) H') (awp b m Q H') r) H
  | .tup es, m, Q, H => awpL es m (fun vs H' => vs.length ≤ 100000 ∧ Q (.tup vs) H') H
  | .lst es, m, Q, H => awpL es m (newList Q) H
  | .dct k kvs, m, Q, H => awpL kvs m (fun l => dctQ k (pairUp l) Q) H
  | .attr o f, m, Q, H => awp o m (fun v => attrQ c v f Q) H
  | .sub o i, m, Q, H => awp o m (fun a => awp i m (fun b => subQ a b Q)) H
  | .cutTo o i, m, Q, H => awp o m (fun a => awp i m (fun b => cutToQ a b Q)) H
  | .cutFrom o i, m, Q, H => awp o m (fun a => awp i m (fun b => cutFromQ a b Q)) H
  | .rev o, m, Q, H => awp o m (fun a => revQ a Q) H
  | .call f as, m, Q, H => awp f m (fun fv => awpL as m (fun vs => CallOK c n fv vs Q)) H
  | .meth o f as, m, Q, H => awp o m (fun ov H₁ => ∃ a C dx fs g, ov = .ref a ∧ H₁ a = some (.inst C dx fs) ∧ lk fs f = none ∧ c.mth C f = some g ∧ awpL as m (fun vs => CallOK c n (.fn (.ref g)) (ov :: vs) Q) H₁) H
  | .append o x, m, Q, H => awp o m (fun a H₁ => isL a H₁ ∧ awp x m (fun b => appendQ a b Q) H₁) H
  | .pop o, m, Q, H => awp o m (fun a H₁ => isL a H₁ ∧ popQ a Q H₁) H
  | .extend o x, m, Q, H => awp o m (fun a H₁ => isL a H₁ ∧ awp x m (fun b => extendQ a b Q) H₁) H
  | .index o x, m, Q, H => awp o m (fun a H₁ => isL a H₁ ∧ awp x m (fun b => indexQ a b Q) H₁) H
  | .get o k d, m, Q, H => awp o m (fun a H₁ => isD a H₁ ∧ awp k m (fun b => awp d m (fun e => getQ a b e Q)) H₁) H
  | .setd o k d, m, Q, H => awp o m (fun a H₁ => isD a H₁ ∧ awp k m (fun b => awp d m (fun e => setdQ a b e Q)) H₁) H
  | .join o x, m, Q, H => awp o m (fun a H₁ => isS a H₁ ∧ awp x m (fun b => joinQ a b Q) H₁) H
  | .len x, m, Q, H => awp x m (fun a => lenQ a Q) H
  | .range1 x, m, Q, H => awp x m (fun a H' => ∃ i, a = .int i ∧ i < 100000 ∧ -100000 < i ∧ Q (.rng 0 i) H') H
  | .range2 x y, m, Q, H => awp x m (fun a => awp y m (fun b H' => ∃ i j, a = .int i ∧ b = .int j ∧ (i < 100000 ∧ -100000 < i ∧ j < 100000 ∧ -100000 < j) ∧ Q (.rng i j) H')) H
  | .list x, m, Q, H => awp x m (fun a => listQ a Q) H
  | .tuple x, m, Q, H => awp x m (fun a => tupleQ a Q) H
  | .sorted x, m, Q, H => awp x m (fun a => sortedQ a Q) H
  | .abs x, m, Q, H => awp x m (fun a H' => ∃ i, a = .int i ∧ Q (.int i.natAbs) H') H
  | .toInt x, m, Q, H => awp x m (fun a H' => ∃ i, a = .int i ∧ Q (.int i) H') H
  | .dict x, m, Q, H => awp x m (fun a => dictQ a Q) H
  | .comp elt i it, m, Q, H => awp it m (fun v H₁ => ∃ l src, iterQ H₁ v = some (l, src) ∧ l.length ≤ 100000 ∧ compGo (fun x => awp elt (m.put i x)) src H₁ (newList Q) l [] H₁) H
  | .compIf elt i it t, m, Q, H => awp it m (fun v H₁ => ∃ l src, iterQ H₁ v = some (l, src) ∧ l.length ≤ 100000 ∧ compGoIf (fun x => awp t (m.put i x)) (fun x => awp elt (m.put i x)) src H₁ (newList Q) l [] H₁) H
  | .comp2 elt i it j jt, m, Q, H => awp it m (fun v H₁ => ∃ l src, iterQ H₁ v = some (l, src) ∧ l.length ≤ 100000 ∧ compGo2 (fun x => awp jt ((m.del j).put i x)) (fun x y => awp elt ((m.put i x).put j y)) src H₁ (newList Q) l [] H₁) H
noncomputable def awpL : Xs → Lo → (List V → Hp → Prop) → Hp → Prop
  | .nil, _, Q, H => Q [] H
  | .cons x xs, m, Q, H => awp x m (fun v => awpL xs m (fun vs => Q (v :: vs))) H
end
end
inductive Fl | next | ret (v : V)
noncomputable def forGo (turn : V → (Lo → Hp → Prop) → (V → Lo → Hp → Prop) → Lo → Hp → Prop) (src : Option Addr) (H₀ : Hp) (Q : Fl → Lo → Hp → Prop) : List V → Lo → Hp → Prop
  | [], m, H => StillAt src H₀ H ∧ Q .next m H
  | x :: r, m, H => StillAt src H₀ H ∧ turn x (forGo turn src H₀ Q r) (fun v => Q (.ret v)) m H
section
variable (c : Cx) (n : Nat)
mutual
noncomputable def swp : S → (Fl → Lo → Hp → Prop) → Lo → Hp → Prop
  | .asg i e, Q, m, H => awp c n e m (fun v H' => Q .next (m.put i v) H') H
  | .asg2 i j a b, Q, m, H => awp c n a m (fun v => awp c n b m (fun u H' => Q .next ((m.put j u).put i v) H')) H
  | .asgAttr o f e, Q, m, H => awp c n e m (fun v => awp c n o m (fun ov H' => ∃ a C dx fs, ov = .ref a ∧ H' a = some (.inst C dx fs) ∧ c.fld C f = true ∧ fs.length < 100 ∧ (∀ u, v ≠ .fn u) ∧ Q .next m (H'.put a (.inst C dx (putF fs f v))))) H
  | .asgSub o k e, Q, m, H => awp c n e m (fun v => awp c n o m (fun ov => awp c n k m (fun kv H' =>
      (∃ a i l, ov = .ref a ∧ kv = .int i ∧ H' a = some (.list l) ∧ 0 ≤ i ∧ i < 100000 ∧ i < l.length ∧ Q .next m (H'.put a (.list (l.set i.toNat v)))) ∨
      (∃ a i es, ov = .ref a ∧ kv = .int i ∧ H' a = some (.dictI es) ∧ es.length < 100000 ∧ Q .next m (H'.put a (.dictI (putI es i v)))) ∨
      (∃ a ks es, ov = .ref a ∧ kv = .tup (ks.map V.int) ∧ H' a = some (.dictT es) ∧ es.length < 100000 ∧ Q .next m (H'.put a (.dictT (putI es ks v))))))) H
  | .expr e, Q, m, H => awp c n e m (fun v H' => v = .none ∧ Q .next m H') H
  | .iff t a b, Q, m, H => awp c n t m (isB fun r H' => both (swps a Q m H') (swps b Q m H') r) H
  | .whl t b, Q, m, H => ∃ I : Nat → Lo → Hp → Prop, (∃ k, I k m H) ∧ ∀ k m H, I k m H →
      awp c n t m (isB fun r H' => both (swps b (fun f m' H'' => match f with | .next => ∃ j, j < k ∧ I j m' H'' | .ret v => Q (.ret v) m' H'') m H') (Q .next m H') r) H
  | .for t it b, Q, m, H => awp c n it m (fun v H₁ => ∃ l src, iterQ H₁ v = some (l, src) ∧
      forGo (fun x K R m H => ∃ m', asgT t x m = some m' ∧ swps b (fun f m'' H' => match f with | .next => K m'' H' | .ret v => R v m'' H') m' H) src H₁ Q l m H₁) H
  | .ret e, Q, m, H => awp c n e m (fun v H' => Q (.ret v) m H') H
  | .bad, _, _, _ => False
noncomputable def swps : Ss → (Fl → Lo → Hp → Prop) → Lo → Hp → Prop
  | .nil, Q, m, H => Q .next m H
  | .cons s ss, Q, m, H => swp s (fun f m' H' => match f with | .next => swps ss Q m' H' | .ret v => Q (.ret v) m' H') m H
end
end
end Mine
set_option tactic.hygienic false
open PySem PySem.W PySem.Calls PyProof.Rows
set_option maxRecDepth 100000
namespace Mine
section
variable {c : Cx} {n : Nat} {env : Env} {m : Lo} {H H' : Hp} {A : Around} {s s' s'' : Shared}
theorem Stp.some (st : Stp noOwn H s H' s') {a : Addr} (h1 : (s.heap.get? a).isSome = true) (h2 : H a = none) : (s'.heap.get? a).isSome = true ∧ H' a = none := by
  obtain ⟨o, e⟩ := Option.isSome_iff_exists.mp h1
  refine ⟨by rw [st.keep a o e h2 id]; rfl, ?_⟩
  cases q : H' a with
  | none => rfl
  | some x =>
    rcases st.new a (by rw [q]; simp) with z | z
    · exact absurd h2 z
    · rw [e] at z; cases z
theorem FrM.step (F : FrM c env m s.heap) (fr : ∀ a, Own env a → H a = none) (st : Stp noOwn H s H' s') : FrM c env m s'.heap := by
  obtain ⟨m', ns, hm⟩ := F.ns
  refine ⟨⟨m', ?_, fun i v k e => ?_⟩, fun i k hk hc => ?_⟩
  · obtain ⟨o, es, ep, ho, r⟩ := ns
    exact ⟨o, es, ep, st.keep _ _ ho (fr _ (.inl rfl)) id, r⟩
  · obtain ⟨v', e', r⟩ := hm i v k e
    exact ⟨v', e', r.sta st.sta⟩
  · obtain ⟨a, ov, hl, ⟨o, ho, hd⟩, hv⟩ := F.cel i k hk hc
    exact ⟨a, ov, hl, ⟨o, st.keep _ _ ho (fr _ (.inr ⟨_, mem_of_lookup hl⟩)) id, hd⟩, fun v e => let ⟨v', e', r⟩ := hv v e; ⟨v', e', r.sta st.sta⟩⟩
theorem Ok.step (ok : Ok c n env m H A s) (rh : RH c.prog c.w c.base H' s'.heap) (st : Stp noOwn H s H' s') : Ok c n env m H' A s' :=
  ⟨ok.room, rh, ok.fr.step (fun a h => (ok.free a h).2.1) st, fun a h => ⟨(st.some (ok.free a h).1 (ok.free a h).2.1).1, (st.some (ok.free a h).1 (ok.free a h).2.1).2, (ok.free a h).2.2⟩⟩
theorem EvP.after {Q : V → Hp → Prop} {v' : Value} (st : Stp noOwn H s H' s') (p : EvP c Q H' s' v' s'') : EvP c Q H s v' s'' :=
  let ⟨v, H'', a, b, d, e⟩ := p; ⟨v, H'', a, b, st.trans d, e⟩
theorem EvP.val {Q : V → Hp → Prop} {v : V} {v' : Value} (rh : RH c.prog c.w c.base H s.heap) (t : Nat) (r : VR s.heap v v') (q : Q v H) : EvP c Q H s v' { s with toks := t } :=
  ⟨v, H, r, rh, Stp.toks t, q⟩
theorem EvP.val0 {Q : V → Hp → Prop} {v : V} {v' : Value} (rh : RH c.prog c.w c.base H s.heap) (r : VR s.heap v v') (q : Q v H) : EvP c Q H s v' s :=
  ⟨v, H, r, rh, Stp.refl, q⟩
theorem EvP.lst {Q : V → Hp → Prop} {l : List V} {vs : List Value} {k : Nat} (rh : RH c.prog c.w c.base H s.heap) (t : Nat) (r : VRs s.heap l vs) (q : ∀ d, H d = none → Q (.ref d) (H.put d (.list l))) :
    EvP c Q H s (.ref s.heap.objs.size) { s with heap := s.heap.push { cls := .type "list", data := .seq vs.toArray k }, toks := t } :=
  ⟨.ref s.heap.objs.size, _, .ref _, rh.new _ (.list l) (by intros; simp) ⟨vs, ⟨k, Heap.get?_push_size _ rfl⟩, r.sta (Sta.push _ _)⟩, Stp.put _ t _, q _ rh.none_size⟩
theorem EvP.tup {Q : V → Hp → Prop} {l : List V} {vs : List Value} {k : Nat} {sl} (rh : RH c.prog c.w c.base H s.heap) (t : Nat) (r : VRs s.heap l vs) (q : Q (.tup l) H) :
    EvP c Q H s (.ref s.heap.objs.size) { s with heap := s.heap.push { cls := .type "tuple", data := .seq vs.toArray k, slots := sl }, toks := t } :=
  ⟨.tup l, H, .tup ⟨_, Heap.get?_push_size _ rfl, rfl, k, rfl⟩ (r.sta (Sta.push _ _)), rh.push _, Stp.push _ t, q⟩
theorem EvP.lstG {Q : V → Hp → Prop} {l : List V} {vs : List Value} {h' : Heap} {d : Addr} (rh : RH c.prog c.w c.base H s.heap) (t : Nat) (k : ∀ a o, s.heap.get? a = some o → h'.get? a = some o) (hd : s.heap.get? d = none)
    (hl : h'.PlainList d vs.toArray) (r : VRs s.heap l vs) (q : ∀ d, H d = none → Q (.ref d) (H.put d (.list l))) : EvP c Q H s (.ref d) { s with heap := h', toks := t } :=
  ⟨.ref d, _, .ref _, (rh.grow k).show (.list l) (rh.H_none hd) (rh.base_none hd) (by intros; simp) ⟨vs, hl, r.sta fun a o e zz => k a o e⟩, Stp.growPut t k _ _ hd, q _ (rh.H_none hd)⟩
theorem EvP.tupG {Q : V → Hp → Prop} {l : List V} {vs : List Value} {h' : Heap} {d : Addr} (rh : RH c.prog c.w c.base H s.heap) (t : Nat) (k : ∀ a o, s.heap.get? a = some o → h'.get? a = some o)
    (hl : h'.IsTuple d vs.toArray) (r : VRs s.heap l vs) (q : Q (.tup l) H) : EvP c Q H s (.ref d) { s with heap := h', toks := t } :=
  ⟨.tup l, H, .tup hl (r.sta fun a o e zz => k a o e), rh.grow k, Stp.grow t k, q⟩
noncomputable def Snd (c : Cx) (n : Nat) (env : Env) (e : Expr) (x : X) : Prop := ∀ m Q H, awp c n x m Q H → EvOK c n env m e Q H
noncomputable def SndB (c : Cx) (n : Nat) (env : Env) (e : Expr) (x : X) : Prop := ∀ m K H, awp c n x m (isB K) H → TsOK c n env m e K H
noncomputable abbrev M (c : Cx) : Model := model c.prog c.w
noncomputable def Un (c : Cx) (n : Nat) (env : Env) (m : Lo) (op : Value → Sem Value) (q : V → Hp → Prop) (Q : V → Hp → Prop) : Prop :=
  ∀ H A s v v', Ok c n env m H A s → VR s.heap v v' → q v H → wpAny (M c) A (op v') (EvP c Q H s) bot s
noncomputable def Bi (c : Cx) (n : Nat) (env : Env) (m : Lo) (op : Value → Value → Sem Value) (q : V → V → Hp → Prop) (Q : V → Hp → Prop) : Prop :=
  ∀ H A s v v' u u', Ok c n env m H A s → VR s.heap v v' → VR s.heap u u' → q v u H → wpAny (M c) A (op v' u') (EvP c Q H s) bot s
theorem absurd_bot {P : Prop} (_e : Value) (_s : Shared) (f : False) : P := f.elim
theorem bi_seq {e f : Expr} {x y : X} {op : Value → Value → Sem Value} {q : V → V → Hp → Prop} {Q : V → Hp → Prop} (h1 : Snd c n env e x) (h2 : Snd c n env f y)
    (h : awp c n x m (fun a => awp c n y m (fun b => q a b)) H) (k : Bi c n env m op q Q) (ok : Ok c n env m H A s) :
    wpAny (M c) A (eval e env) (fun v s₁ => wpAny (M c) A (eval f env) (fun u s₂ => wpAny (M c) A (op v u) (EvP c Q H s) bot s₂) bot s₁) bot s := by
  refine wpAny_mono (h1 _ _ _ h A s ok) ?_ (fun zz zz f => f)
  rintro v' s1 ⟨v, H1, r1, rh1, st1, q1⟩
  have ok1 := ok.step rh1 st1
  refine wpAny_mono (h2 _ _ _ q1 A s1 ok1) ?_ (fun zz zz f => f)
  rintro u' s2 ⟨u, H2, r2, rh2, st2, q2⟩
  exact wpAny_mono (k H2 A s2 v v' u u' (ok1.step rh2 st2) (r1.sta st2.sta) r2 q2) (fun zz zz p => p.after (st1.trans st2)) (fun zz zz f => f)
theorem snd_lit {k : Const} {kk : Nat} {pos : Pos} {v : V}
    (h : (k = .none ∧ v = .none) ∨ (∃ b, k = .bool b ∧ v = .bool b) ∨ (∃ i, k = .int i ∧ v = .int i) ∨ (∃ x, k = .str x ∧ v = .str x)) : Snd c n env (.Constant k kk pos) (.lit v) := by
  intro m Q H q A s ok
  show wpAny _ A (constValue env k) _ _ s
  rcases h with ⟨rfl, rfl⟩ | ⟨b, rfl, rfl⟩ | ⟨i, rfl, rfl⟩ | ⟨x, rfl, rfl⟩
  · exact wpAny_pure (EvP.val0 ok.rh .none q)
  · exact wpAny_pure (EvP.val0 ok.rh (.bool b) q)
  · exact wpAny_mkInt (EvP.val ok.rh _ (.int i _) q)
  · exact wpAny_mkText (EvP.val ok.rh _ (.str x _) q)
theorem snd_var {i : Nat} {x : Str} {pos : Pos} (E : EnvOk env) (hx : x = c.nm i) (hk : env.kindOf x = some .local ∨ env.kindOf x = some .cell ∨ env.kindOf x = some .free)
    (hd : (x == ("__debug__" : Str)) = false) (hn : (x == ("__classdict__" : Str)) = false) : Snd c n env (.Name x pos) (.var i) := by
  rintro m Q H ⟨v, hv, q⟩ A s ok
  subst hx
  refine wpAny_Name ?_ hd
  rcases hk with hk | hk | hk
  · obtain ⟨m', ns, hm⟩ := ok.fr.ns
    obtain ⟨v', e', r⟩ := hm i v hk hv
    exact wpAny_loadName_local E.kind hk ns e' (EvP.val0 ok.rh r q)
  · obtain ⟨a, ov, hl, hc, hv'⟩ := ok.fr.cel i _ hk (.inl rfl)
    obtain ⟨v', e', r⟩ := hv' v hv
    subst e'
    exact wpAny_loadName_cell E.kind hk hl hc (EvP.val0 ok.rh r q)
  · obtain ⟨a, ov, hl, hc, hv'⟩ := ok.fr.cel i _ hk (.inr rfl)
    obtain ⟨v', e', r⟩ := hv' v hv
    subst e'
    exact wpAny_loadName_free E.kind hk hl hc (EvP.val0 ok.rh r q) hn
theorem Glo.keeps {h h' : Heap} {x : Str} {v : Value} (g : Glo h x v) (k : ∀ b o, h.get? b = some o → h'.get? b = some o) : Glo h' x v :=
  g.imp (fun ⟨mg, a, b⟩ => ⟨mg, a.keeps k, b⟩) fun ⟨mg, mb, a, b, d, e⟩ => ⟨mg, mb, a.keeps k, b, d.keeps k, e⟩
theorem glo_load {x : Str} {pos : Pos} {v : Value} {Q : Value → Shared → Prop} {E' : Value → Shared → Prop} (E : EnvOk env) (g : Glo s.heap x v) (hk : env.kindOf x = some .globalImplicit)
    (hd : (x == ("__debug__" : Str)) = false) (q : Q v s) : wpAny (M c) A (eval (.Name x pos) env) Q E' s := by
  refine Name_function_global E.kind hk ?_ hd
  rcases g with ⟨mg, a, b⟩ | ⟨mg, mb, a, b, d, e⟩
  · exact loadGlobal_global (env := env) (by rw [E.globals]; exact a) b q
  · exact loadGlobal_builtin (env := env) (by rw [E.globals]; exact a) b (by rw [E.builtins]; exact d) e q
theorem snd_glob {x : Str} {pos : Pos} {v : V} {v' : Value} (C : CxOk c) (E : EnvOk env) (hg : c.glo x = some v') (hv : VR c.base v v') (hk : env.kindOf x = some .globalImplicit)
    (hd : (x == ("__debug__" : Str)) = false) : Snd c n env (.Name x pos) (.glob x v) := by
  intro m Q H q A s ok
  have k : ∀ b o, c.base.get? b = some o → s.heap.get? b = some o := fun b o e => (ok.rh.base b o e).1
  exact glo_load E ((C.glo _ _ hg).keeps k) hk hd (EvP.val0 ok.rh (hv.sta fun a o e zz => k a o e) q)
set_option tactic.hygienic true in
theorem Sm.bits {i : Int} (h : Sm i) : Builtin.Int.intBits i ≤ 64 := by
  unfold Sm at h
  unfold Builtin.Int.intBits
  split
  · lia
  · rename_i h0
    have h0' : i.natAbs ≠ 0 := by simpa using h0
    have : i.natAbs.log2 < 63 := (Nat.log2_lt h0').mpr h
    lia
end
end Mine
set_option tactic.hygienic false
open PySem PySem.W PySem.Calls PyProof PyProof.Rows PySem.SeqAt AutoSeq1
set_option maxRecDepth 100000
namespace Mine
section
variable {c : Cx} {n : Nat} {env : Env} {m : Lo} {H H' : Hp} {A : Around} {s s' s'' : Shared}
theorem fdiv_pos {i j : Int} (h : 0 < j) : i.fdiv j = i / j := by
  exact Int.fdiv_eq_ediv_of_nonneg _ (by lia)
theorem fmod_pos {i j : Int} (h : 0 < j) : i.fmod j = i % j := by
  exact Int.fmod_eq_emod_of_nonneg _ (by lia)
theorem flat_toArray {α : Type} : ∀ (k : Nat) (l : List α) (acc : Array α), List.foldl (fun x1 x2 => x1 ++ x2) acc (List.replicate k l.toArray) = (acc.toList ++ (List.replicate k l).flatten).toArray
  | 0, l, acc => by simp
  | k + 1, l, acc => by
    rw [List.replicate_succ, List.foldl_cons, flat_toArray k, List.replicate_succ, List.flatten_cons]
    simp
theorem VRs.flat {h : Heap} {l : List V} {vs : List Value} (x : VRs h l vs) : ∀ k : Nat, VRs h (List.replicate k l).flatten (List.replicate k vs).flatten
  | 0 => by simp; exact .nil
  | k + 1 => by rw [List.replicate_succ, List.replicate_succ, List.flatten_cons, List.flatten_cons]; exact x.append (VRs.flat x k)
theorem noFill_tuple_mul' : fillsNumberSlot (.type "tuple") "mul" = pure false :=
  PySem.fillsNumberSlot_seq (id := "tuple.__mul__") (r := some (.builtin "tuple.__rmul__")) F.slot_tuple_mul.lookup (by decide +kernel) F.slot_tuple_rmul.lookup (by decide +kernel)
theorem repeat_tuple' : seqRepeat? (.type "tuple") = pure (some (.builtin "tuple.__mul__")) := by
  unfold seqRepeat?
  rw [PySem.seqSlot_of (T := "tuple") (name := "__mul__") (id := "tuple.__mul__") F.slot_tuple_mul.lookup (by decide +kernel), PySem.seqSlot_of (T := "tuple") (name := "__rmul__") (id := "tuple.__rmul__") F.slot_tuple_rmul.lookup (by decide +kernel)]
  rfl
theorem rmul_int_tuple (a : Int) (t : Tok) (l : Addr) (items : Array Value) (n : Nat) (dd : Option Addr) (sl : Array (Option Value)) :
    Meets (Builtin.«int.__rmul__» ⟨[.int a t, .ref l], []⟩) (fun zz R s => s.heap.get? l = some { cls := .type "tuple", dict := dd, data := .seq items n, slots := sl } ∧ R (.ok (.ret Value.notImplemented)) s) :=
  .of_wp fun prog w A R s h => by obtain ⟨hp, g, d, tk, os⟩ := s; obtain ⟨hl, h⟩ := h; wp_walk; exact ⟨_, rfl, h⟩
theorem mul_tuple_int (l : Addr) (items : Array Value) (n : Nat) (dd : Option Addr) (sl : Array (Option Value)) (x : Int) (u : Tok) (h1 : items.size = 1) (h2 : 2 ≤ x) (h3 : x ≤ 1000) :
    Meets (Builtin.«tuple.__mul__» ⟨[.ref l, .int x u], []⟩) (fun zz R s => s.heap.get? l = some { cls := .type "tuple", dict := dd, data := .seq items n, slots := sl } ∧
      R (.ok (.ret (Value.ref s.heap.objs.size))) { s with heap := s.heap.push { cls := Value.type "tuple", data := Data.seq (List.foldl (fun x1 x2 => x1 ++ x2) #[] (List.replicate x.toNat items)) }, toks := s.toks }) :=
  .of_wp fun prog w A R s h => by
    obtain ⟨hp, g, d, tk, os⟩ := s; obtain ⟨hl, h⟩ := h
    have f1 := AutoSeq1.idx_int
    have he : items.isEmpty = false := by simp [Array.isEmpty, h1]
    wp_walk
    rw [if_neg (by simp; lia)]
    wp_walk using wpAny_loadPart' hl
    rw [if_neg (by simp [he]; lia)]
    wp_walk
    rw [if_neg (by simp [he]; lia)]
    wp_walk
    rw [if_neg (by rw [h1]; lia)]
    wp_walk
    rw [if_neg (by rw [h1]; simp [Builtin.Tuple.tupleTooMany, sizeLine]; lia)]
    wp_walk
    refine wpAny_ite_false (decide_eq_false (Nat.not_lt.mpr ?_)) ?_
    · rw [size_joined, h1, sizeLine_eq]; simp; lia
    wp_walk
    exact ⟨_, rfl, h⟩
set_option tactic.hygienic true in
theorem bi_bin (op : Operator) {Q : V → Hp → Prop} : Bi c n env m (binaryOp op) (fun a b => binQ op a b Q) Q := by
  intro H A s v v' u u' ok rv ru q
  cases (q)
  · rename_i q; cases rv; cases ru
    exact wpAny_add_int (EvP.val ok.rh _ (.int _ _) q)
  · rename_i q; cases rv; cases ru
    exact PyProof.Rows.sub_int (EvP.val ok.rh _ (.int _ _) q)
  · rename_i q; cases rv; cases ru
    obtain ⟨hs, q⟩ := q
    exact mul_int (EvP.val ok.rh _ (.int _ _) q) (hs.elim (fun h => IntMulOk.of_left h.bits) (fun h => IntMulOk.of_right h.bits))
  · rename_i q; cases rv; cases ru
    obtain ⟨⟨h0, h1⟩, q⟩ := q
    rw [← fdiv_pos h0] at q
    exact PyProof.Rows.floordiv_int (by lia) (EvP.val ok.rh _ (.int _ _) q) (.inl (noPylong_small (by lia)))
  · rename_i q; cases rv; cases ru
    obtain ⟨⟨h0, h1⟩, q⟩ := q
    rw [← fmod_pos h0] at q
    exact PyProof.Rows.mod_int' (by lia) (EvP.val ok.rh _ (.int _ _) q)
  · rename_i q; cases rv; cases ru
    obtain ⟨⟨h0, h1, h2⟩, q⟩ := q
    exact PyProof.Rows.pow_int_small h0 (by lia) (by unfold Sm at h2; lia) (EvP.val ok.rh _ (.int _ _) q)
  · rename_i q -- list + list
    rename_i a b
    cases rv; cases ru
    obtain ⟨la, lb, ea, eb, hz, q⟩ := q
    obtain ⟨vs, ⟨k, ho⟩, r1⟩ := ok.rh.obj _ _ ea
    obtain ⟨ws, ⟨k2, ho2⟩, r2⟩ := ok.rh.obj _ _ eb
    have e : vs.toArray ++ ws.toArray = (vs ++ ws).toArray := by simp
    refine concat_meets ⟨_, ho, rfl⟩ ⟨_, ho2, rfl⟩ noFill_list_add seq_list_add PySem.F.slot_list_add PySem.F.entry_list_add (PySem.F.args_list_add_2 _ _) (list_addW _ _ vs.toArray ws.toArray k k2 none none #[] #[] (by
      have := r1.length; have := r2.length; rw [sizeLine_eq]; simp; lia)) ⟨ho, ho2, ?_⟩
    rw [e]
    exact EvP.lst ok.rh s.toks (r1.append r2) q
  · rename_i q -- tuple + tuple
    rename_i la lb
    refine VR.tupE rv fun vs ta it rva => ?_
    refine VR.tupE ru fun ws tb jt rvb => ?_
    obtain ⟨hz, q⟩ := q
    obtain ⟨⟨cls, dd, data, sl⟩, ho, hc, k, hd⟩ := id it
    obtain ⟨⟨cls2, dd2, data2, sl2⟩, ho2, hc2, k2, hd2⟩ := id jt
    simp only at hc hd hc2 hd2
    subst hc hd hc2 hd2
    have e : vs.toArray ++ ws.toArray = (vs ++ ws).toArray := by simp
    by_cases hv : vs = []
    · refine concat_meets ⟨_, ho, rfl⟩ ⟨_, ho2, rfl⟩ noFill_tuple_add seq_tuple_add PySem.F.slot_tuple_add PySem.F.entry_tuple_add (PySem.F.args_tuple_add_2 _ _)
        (tuple_addW0 ta tb vs.toArray ws.toArray k k2 dd dd2 sl sl2 (by simp [hv])) ⟨ho, ho2, ?_⟩
      subst hv; cases rva
      exact EvP.val0 ok.rh (.tup jt rvb) q
    · by_cases hw : ws = []
      · refine concat_meets ⟨_, ho, rfl⟩ ⟨_, ho2, rfl⟩ noFill_tuple_add seq_tuple_add PySem.F.slot_tuple_add PySem.F.entry_tuple_add (PySem.F.args_tuple_add_2 _ _)
          (tuple_addW1 ta tb vs.toArray ws.toArray k k2 dd dd2 sl sl2 (by simpa using hv) (by simp [hw])) ⟨ho, ho2, ?_⟩
        subst hw; cases rvb
        exact EvP.val0 ok.rh (.tup it rva) (by simpa using q)
      · refine concat_meets ⟨_, ho, rfl⟩ ⟨_, ho2, rfl⟩ noFill_tuple_add seq_tuple_add PySem.F.slot_tuple_add PySem.F.entry_tuple_add (PySem.F.args_tuple_add_2 _ _)
          (tuple_addW2 ta tb vs.toArray ws.toArray k k2 dd dd2 sl sl2 (by simpa using hv) (by simpa using hw) (by
            have := rva.length; have := rvb.length; rw [List.size_toArray, List.size_toArray, sizeLine_eq]; lia)) ⟨ho, ho2, ?_⟩
        rw [e]
        exact EvP.tup ok.rh s.toks (rva.append rvb) q
  · rename_i q -- tuple * int
    rename_i la k
    refine VR.tupE rv fun vs ta it rva => ?_
    cases ru
    obtain ⟨⟨h2, h1, h3⟩, q⟩ := q
    obtain ⟨⟨cls, dd, data, sl⟩, ho, hc, kk, hd⟩ := id it
    simp only at hc hd
    subst hc hd
    refine wpAny_binaryOp_repeat_ref (T := "tuple") (U := "int") (by decide) ⟨_, ho, rfl⟩ (fun s' => typeIs_int s' k _) noFill_tuple_mul' F.fills_int_mul F.slot_int_rmul repeat_tuple' F.slot_int_index.lookup
      (call_meets F.slot_int_rmul (typeIs_int s k _) F.entry_int_rmul (F.args_int_rmul_2 _ _) (rmul_int_tuple k _ ta vs.toArray kk dd sl)
        ⟨ho, rfl, ⟨_, ho, rfl⟩, call_meets F.slot_tuple_mul ⟨_, ho, rfl⟩ F.entry_tuple_mul (F.args_tuple_mul_2 _ _) (mul_tuple_int ta vs.toArray kk dd sl k _ (by have := rva.length; simp; lia) h2 h3) ⟨ho, ?_⟩⟩)
    rw [flat_toArray]
    exact EvP.tup ok.rh s.toks (by simpa using rva.flat k.toNat) q
  · rename_i q -- list * int
    rename_i a k
    cases rv; cases ru
    obtain ⟨la, ea, ⟨h0, h1, h3⟩, q⟩ := q
    obtain ⟨vs, ⟨kk, ho⟩, r1⟩ := ok.rh.obj _ _ ea
    have hl := r1.length
    refine wpAny_binaryOp_repeat_ref (T := "list") (U := "int") (by decide) ⟨_, ho, rfl⟩ (fun s' => typeIs_int s' k _) noFill_list_mul F.fills_int_mul F.slot_int_rmul repeat_list F.slot_int_index.lookup
      (call_meets F.slot_int_rmul (typeIs_int s k _) F.entry_int_rmul (F.args_int_rmul_2 _ _) (int___rmul___int_list k _ a vs.toArray kk)
        ⟨ho, rfl, ⟨_, ho, rfl⟩, call_meets F.slot_list_mul ⟨_, ho, rfl⟩ F.entry_list_mul (F.args_list_mul_2 _ _)
          (AutoListH.list___mul___list_int_3 a vs.toArray kk k _ (by simp [Builtin.List.listFitsIndex]; lia) (by simp [hl, h1]; lia) (by simp [Builtin.List.listTooLong, sizeLine, hl, h1]; lia)) ⟨ho, ?_⟩⟩)
    have he : vs.toArray.isEmpty = false := by
      cases vs with
      | nil => simp at hl; lia
      | cons _ _ => rfl
    rw [he]
    simp only [Bool.false_eq_true, if_false]
    rw [flat_toArray]
    exact EvP.lst ok.rh s.toks (by simpa using r1.flat k.toNat) q
end
end Mine
set_option tactic.hygienic false
open PySem PySem.W PySem.Calls PyProof PyProof.Rows PySem.SeqAt
set_option maxRecDepth 100000
namespace Mine
section
variable {K : Type} [DecidableEq K]
theorem look_zip {h : Heap} : ∀ (es : List (K × V)) (vs : List Value), VRs h (es.map (fun zz => zz.2)) vs → ∀ k, (lk es k = none ∧ valueAt ((es.map (fun zz => zz.1)).zip vs) k = none) ∨
    ∃ v v', lk es k = some v ∧ valueAt ((es.map (fun zz => zz.1)).zip vs) k = some v' ∧ VR h v v' := by
  intro es
  induction es with
  | nil => exact fun zz zz k => .inl ⟨rfl, rfl⟩
  | cons p r ih =>
    intro vs x k
    obtain ⟨a, v⟩ := p
    refine VRs.consE x fun v' zz x y => ?_
    by_cases q : a = k
    · subst q
      exact .inr ⟨v, v', by simp [lk], by simp [valueAt], x⟩
    · rcases ih _ y k with ⟨p, p'⟩ | ⟨u, u', p, p', z⟩
      · exact .inl ⟨by simp [lk, q, p], by simp only [valueAt, List.map_cons, List.zip_cons_cons, List.find?_cons, q, decide_false] at p' ⊢; exact p'⟩
      · exact .inr ⟨u, u', by simp [lk, q, p], by simp only [valueAt, List.map_cons, List.zip_cons_cons, List.find?_cons, q, decide_false] at p' ⊢; exact p', z⟩
theorem look_atKey {h : Heap} : ∀ (es : List (List Int × V)) (xs : List (List Int × Addr × Value)), xs.map (fun zz => zz.1) = es.map (fun zz => zz.1) → VRs h (es.map (fun zz => zz.2)) (xs.map (fun zz => zz.2.2)) → ∀ k, (lk es k = none ∧ atKey xs k = none) ∨
    ∃ v p, lk es k = some v ∧ atKey xs k = some p ∧ VR h v p.2 := by
  intro es
  induction es with
  | nil =>
    intro xs e _ k
    rw [List.map_eq_nil_iff.mp e]
    exact .inl ⟨rfl, rfl⟩
  | cons p0 r ih =>
    intro xs e x k
    cases xs with
    | nil => simp at e
    | cons q0 xs =>
    obtain ⟨a, v⟩ := p0
    obtain ⟨b, p⟩ := q0
    obtain ⟨x, y⟩ := VRs.uncons x
    simp only [List.map_cons, List.cons.injEq] at e
    obtain ⟨rfl, e⟩ := e
    by_cases q : b = k
    · subst q
      exact .inr ⟨v, p, by simp [lk], by simp [atKey], x⟩
    · rcases ih xs e y k with ⟨p1, p'⟩ | ⟨u, u', p1, p', z⟩
      · exact .inl ⟨by simp [lk, q, p1], by simp only [atKey, List.find?_cons, q, decide_false] at p' ⊢; exact p'⟩
      · exact .inr ⟨u, u', by simp [lk, q, p1], by simp only [atKey, List.find?_cons, q, decide_false] at p' ⊢; exact p', z⟩
end
section
variable {prog : Program} {w : World} {K : Type} [DecidableEq K] {knd : KeyKind prog w K}
theorem DictAt_mapOf {h : Heap} {a : Addr} {kvs : List (K × Value)} {ep : Nat} (x : h.DictAt knd a kvs ep) : h.MapOf knd a (valueAt kvs) := by
  obtain ⟨o, es, ho, hc, hd, hk, hp, hn⟩ := x
  refine ⟨o, es, ep, ho, hc, hd, hk, fun k => ?_⟩
  have := hp.find k
  unfold findBy
  rw [← this]
  obtain ⟨l⟩ := es
  simp
end
section
variable {c : Cx} {n : Nat} {env : Env} {m : Lo} {H H' : Hp} {A : Around} {s s' s'' : Shared}
theorem Ok.not_mods (C : CxOk c) (rh : RH c.prog c.w c.base H s.heap) {a : Addr} {o : O} (e : H a = some o) : (a == sysModules) = false := by
  obtain ⟨ob, eb⟩ := Option.isSome_iff_exists.mp C.mods
  have := (rh.base _ _ eb).2
  rw [beq_eq_false_iff_ne]
  rintro rfl
  rw [this] at e; cases e
set_option tactic.hygienic true in
theorem strsOf_cons {v : V} {r : List V} {xs : List Str} (e : strsOf (v :: r) = some xs) : ∃ y ys, v = .str y ∧ strsOf r = some ys ∧ xs = y :: ys := by
  unfold strsOf at e
  split at e
  · rename_i h; cases h
  · rename_i h
    cases h
    obtain ⟨ys, e1, rfl⟩ := Option.map_eq_some_iff.mp e
    exact ⟨_, ys, rfl, e1, rfl⟩
  · cases e
theorem strsOf_vrs {h : Heap} : ∀ {l : List V} {vs : List Value} {xs : List Str}, VRs h l vs → strsOf l = some xs → vs.length = xs.length ∧ ∀ (i : Nat) (x : Str), xs[i]? = some x → ∃ t, vs[i]? = some (Value.str x t) := by
  intro l
  induction l with
  | nil => intro vs xs r e; simp [strsOf] at e; subst e; exact VRs.nilE r ⟨rfl, fun i x h => by simp at h⟩
  | cons v r ih =>
    intro vs xs q e
    refine VRs.consE q fun zz zz a b => ?_
    obtain ⟨y, ys, rfl, e1, rfl⟩ := strsOf_cons e
    obtain ⟨h1, h2⟩ := ih b e1
    refine VR.strE a fun zz => ?_
    refine ⟨by simp [h1], fun i x hx => ?_⟩
    cases i with
    | zero => simp at hx; subst hx; exact ⟨_, rfl⟩
    | succ i => simpa using h2 i x (by simpa using hx)
theorem strs_mem {h : Heap} : ∀ {l : List V} {vs : List Value} {xs : List Str}, VRs h l vs → strsOf l = some xs → ∀ y ∈ vs, ∃ x t, y = .str x t := by
  intro l vs xs r e y hy
  obtain ⟨i, hi⟩ := List.getElem?_of_mem hy
  obtain ⟨h1, h2⟩ := strsOf_vrs r e
  have hl : i < xs.length := by rw [← h1]; exact (List.getElem?_eq_some_iff.mp hi).1
  obtain ⟨t, ht⟩ := h2 i xs[i] (List.getElem?_eq_getElem hl)
  exact ⟨_, t, Option.some.inj (hi.symm.trans ht)⟩
noncomputable def strEq (x : Str) : Value → Bool
  | .str y _ => y == x
  | _ => false
theorem any_strEq {h : Heap} (x : Str) : ∀ {l : List V} {vs : List Value} {xs : List Str}, VRs h l vs → strsOf l = some xs → vs.any (strEq x) = decide (x ∈ xs) := by
  intro l
  induction l with
  | nil => intro vs xs r e; simp [strsOf] at e; subst e; exact VRs.nilE r (by simp)
  | cons v r ih =>
    intro vs xs q e
    refine VRs.consE q fun zz zz a b => ?_
    obtain ⟨y, ys, rfl, e1, rfl⟩ := strsOf_cons e
    refine VR.strE a fun zz => ?_
    rw [List.any_cons, ih b e1]
    rw [Bool.eq_iff_iff]
    simp only [strEq, Bool.or_eq_true, beq_iff_eq, decide_eq_true_eq, List.mem_cons]
    exact or_congr eq_comm Iff.rfl
theorem any_strEqA {h : Heap} (x : Str) {l : List V} {vs : List Value} {xs : List Str} (a : VRs h l vs) (e : strsOf l = some xs) : vs.toArray.any (strEq x) = decide (x ∈ xs) := by
  rw [← any_strEq x a e]; simp
theorem int_is (prog : Program) (w : World) (i : Int) (t : Tok) : (intKind prog w).is i (.int i t) = true := by simp [intKind, Value.isInt]
theorem str_is (prog : Program) (w : World) (x : Str) (t : Tok) : (PySem.strKind prog w).is x (.str x t) = true := by simp [PySem.strKind, Value.isStrOf]
theorem ints_items {prog : Program} {w : World} {h : Heap} : ∀ {ks : List Int} {vs : List Value}, VRs h (ks.map V.int) vs → ItemsAre (intKind prog w) ks vs := by
  intro ks
  induction ks with
  | nil => exact fun r => VRs.nilE r .nil
  | cons k ks ih => exact fun r => VRs.consE r fun zz zz a b => VR.intE a fun zz => .cons (by simp [intKind, Value.isInt]) (ih b)
theorem tup_key {prog : Program} {w : World} {h : Heap} {ks : List Int} {vs : List Value} {a : Addr} (it : h.IsTuple a vs.toArray) (r : VRs h (ks.map V.int) vs) : IsTupleKey (intKind prog w) h ks a := by
  obtain ⟨o, ho, hc, kk, hd⟩ := it
  exact ⟨o, _, kk, ho, hc, hd, by simpa using ints_items r⟩
theorem eqAt_strEq {A : Around} {s : Shared} {x : Str} {t : Tok} {y : Value} (h : ∃ z u, y = .str z u) : EqAt A s y (.str x t) (strEq x y) := by
  obtain ⟨z, u, rfl⟩ := h
  exact EqAt.str_str z u x t
theorem ok_units (ok : Ok c n env m H A s) : A.units < cLine := by have := ok.room.2.2; lia
set_option tactic.hygienic true in
theorem in_ok (C : CxOk c) {Q : Bool → Hp → Prop} {v u : V} {v' u' : Value} (ok : Ok c (n + 1) env m H A s) (rv : VR s.heap v v') (ru : VR s.heap u u') (q : inQ v u Q H) :
    wpAny (M c) A (compareOp .In v' u') (EvP c (fun r H' => ∃ b, r = .bool b ∧ Q b H') H s) bot s := by
  cases (q)
  · rename_i q; cases rv
    refine VR.tupE ru fun vs ta it rva => ?_
    obtain ⟨xs, e, q⟩ := q
    refine in_tupleAt (strEq _) it (fun y hy => eqAt_strEq (strs_mem rva e y (by simpa using hy))) (EvP.val0 ok.rh (.bool _) ⟨_, rfl, ?_⟩)
    rw [any_strEqA _ rva e]; exact q
  · rename_i q; cases rv; cases ru
    obtain ⟨l, xs, el, e, q⟩ := q
    obtain ⟨vs, hl, rva⟩ := ok.rh.obj _ _ el
    refine in_listAt (strEq _) hl.isList (fun y hy => eqAt_strEq (strs_mem rva e y (by simpa using hy))) (EvP.val0 ok.rh (.bool _) ⟨_, rfl, ?_⟩)
    rw [any_strEqA _ rva e]; exact q
  · rename_i q; cases rv; cases ru
    obtain ⟨es, el, q⟩ := q
    obtain ⟨vs, hd, rva⟩ := ok.rh.obj _ _ el
    refine wpAny_in_of (int_is c.prog c.w _ _) (Ok.not_mods C ok.rh el) (DictAt_mapOf hd) (EvP.val ok.rh _ (.bool _) ⟨_, rfl, ?_⟩)
    rename_i i _ _
    rcases look_zip es vs rva i with ⟨p, p'⟩ | ⟨x, x', p, p', _⟩
    · rw [p']; rw [p] at q; exact q
    · rw [p']; rw [p] at q; exact q
  · rename_i q; rename_i k b
    refine VR.tupE rv fun vs ta it rva => ?_
    cases ru
    obtain ⟨es, ks, el, rfl, q⟩ := q
    obtain ⟨xs, hd, e, rvb⟩ := ok.rh.obj _ _ el
    have hk : IsTupleKey (intKind c.prog c.w) s.heap ks ta := tup_key it rva
    refine wpAny_in_heap (knd := tupleKind (intKind c.prog c.w)) (show A.in1.units < cLine by have := ok.room.2.2; show A.units + 1 < cLine; lia) hk (Ok.not_mods C ok.rh el) hd (EvP.val ok.rh _ (.bool _) ⟨_, rfl, ?_⟩)
    rcases look_atKey es xs e rvb ks with ⟨p, p'⟩ | ⟨x, x', p, p', _⟩
    · rw [p']; rw [p] at q; exact q
    · rw [p']; rw [p] at q; exact q
theorem beq_dec {α : Type} [BEq α] [LawfulBEq α] [DecidableEq α] (a b : α) : (a == b) = decide (a = b) := by rw [Bool.eq_iff_iff]; simp
theorem bne_dec {α : Type} [BEq α] [LawfulBEq α] [DecidableEq α] (a b : α) : (a != b) = !decide (a = b) := by rw [bne, beq_dec]
theorem in_contains {v u : Value} {Q : Value → Shared → Prop} {E : Value → Shared → Prop} (h : wpAny (M c) A (compareOp .In v u) Q E s) : wpAny (M c) A (contains u v) (fun b s' => Q (.bool b) s') E s := by
  intro Γ p hΓ
  have := h Γ p hΓ
  have e : compareOp .In v u = (contains u v >>= fun b => pure (Value.bool b)) := rfl
  rw [e] at this
  rw [Sem.wp_bind'] at this
  exact this
theorem notIn_of_in {v u : Value} {Q : Value → Shared → Prop} {E : Value → Shared → Prop} (h : wpAny (M c) A (compareOp .In v u) (fun r s' => ∃ b : Bool, r = Value.bool b ∧ Q (Value.bool !b) s') E s) : wpAny (M c) A (compareOp .NotIn v u) Q E s := by
  show wpAny _ A (do return .bool (!(← contains u v))) Q E s
  refine wpAny_bind (wpAny_mono (in_contains h) ?_ fun zz zz e => e)
  rintro b s' ⟨b', e, q⟩
  cases e
  exact wpAny_pure q
theorem range_all {xs ys : List Str} (h : xs.length = ys.length) : (List.range xs.length).all (fun i => decide (xs[i]? = ys[i]?)) = decide (xs = ys) := by
  rw [Bool.eq_iff_iff, List.all_eq_true, decide_eq_true_eq]
  constructor
  · intro e
    refine List.ext_getElem? fun i => ?_
    by_cases q : i < xs.length
    · simpa using e i (by simpa using q)
    · rw [List.getElem?_eq_none (by lia), List.getElem?_eq_none (by lia)]
  · rintro rfl; simp
theorem all_strEq {h : Heap} {la lb : List V} {vs ws : List Value} {xs ys : List Str} (ra : VRs h la vs) (rb : VRs h lb ws) (ea : strsOf la = some xs) (eb : strsOf lb = some ys) (A : Around) (s : Shared) :
    ∀ j (h1 : j < vs.toArray.size) (h2 : j < ws.toArray.size), EqAt A.in1 s vs.toArray[j] ws.toArray[j] (decide (xs[j]? = ys[j]?)) := by
  intro j h1 h2
  obtain ⟨l1, p1⟩ := strsOf_vrs ra ea
  obtain ⟨l2, p2⟩ := strsOf_vrs rb eb
  simp only [List.size_toArray] at h1 h2
  obtain ⟨t, e1⟩ := p1 j xs[j] (List.getElem?_eq_getElem (by lia))
  obtain ⟨u, e2⟩ := p2 j ys[j] (List.getElem?_eq_getElem (by lia))
  rw [List.getElem?_eq_getElem h1] at e1
  rw [List.getElem?_eq_getElem h2] at e2
  simp only [List.getElem_toArray]
  rw [Option.some.inj e1, Option.some.inj e2, List.getElem?_eq_getElem (by lia), List.getElem?_eq_getElem (by lia)]
  have := EqAt.str_str (A := A.in1) (s := s) xs[j] t ys[j] u
  rw [beq_dec] at this
  simpa using this
set_option tactic.hygienic true in
theorem eq_ok {Q : Bool → Hp → Prop} {v u : V} {v' u' : Value} (ok : Ok c (n + 1) env m H A s) (rv : VR s.heap v v') (ru : VR s.heap u u') (q : eqQ v u Q H) :
    wpAny (M c) A (compareOp .Eq v' u') (EvP c (fun r H' => ∃ b, r = .bool b ∧ Q b H') H s) bot s ∧ wpAny (M c) A (compareOp .NotEq v' u') (EvP c (fun r H' => ∃ b, r = .bool (!b) ∧ Q b H') H s) bot s := by
  have hu := ok_units ok
  cases (q)
  · rename_i q; cases (rv); cases (ru)
    exact ⟨PyProof.Rows.eq_int (EvP.val0 ok.rh (.bool _) ⟨_, rfl, by rw [beq_dec]; exact q⟩), PyProof.Rows.ne_int (EvP.val0 ok.rh (.bool _) ⟨_, by rw [bne_dec], q⟩)⟩
  · rename_i q; cases (rv); cases (ru)
    exact ⟨PyProof.Rows.eq_str (EvP.val0 ok.rh (.bool _) ⟨_, rfl, by rw [beq_dec]; exact q⟩), PyProof.Rows.ne_str (EvP.val0 ok.rh (.bool _) ⟨_, by rw [bne_dec], q⟩)⟩
  · rename_i q; cases (rv); cases (ru)
    obtain ⟨la, lb, ea, eb, q⟩ := q
    obtain ⟨vs, hl, ra⟩ := ok.rh.obj _ _ ea
    obtain ⟨ws, hb, rb⟩ := ok.rh.obj _ _ eb
    have l1 := ra.length
    have l2 := rb.length
    rcases q with ⟨hne, q⟩ | ⟨rfl, rfl, q⟩ | ⟨xs, ys, e1, e2, q⟩
    · have hs : (vs.toArray.size != ws.toArray.size) = true := by simp; lia
      exact ⟨eq_list_lengthsAt hl.isList hb.isList hs hu (EvP.val0 ok.rh (.bool _) ⟨_, rfl, q⟩), RcNeAt.lists_lengths hl.isList hb.isList hs hu _ _ _ _ (EvP.val0 ok.rh (.bool _) ⟨_, rfl, q⟩)⟩
    · cases (ra); cases (rb)
      exact ⟨eq_listAt (e := fun zz => true) hl.isList hb.isList rfl hu (fun j h1 => absurd h1 (by simp)) (EvP.val0 ok.rh (.bool _) ⟨_, rfl, by simpa using q⟩),
        RcNeAt.lists (e := fun zz => true) hl.isList hb.isList rfl hu (fun j h1 => absurd h1 (by simp)) _ _ _ _ (EvP.val0 ok.rh (.bool _) ⟨_, rfl, by simpa using q⟩)⟩
    · have k1 := (strsOf_vrs ra e1).1
      have k2 := (strsOf_vrs rb e2).1
      by_cases hs : xs.length = ys.length
      · have hz : vs.toArray.size = ws.toArray.size := by simp; lia
        have hall : (List.range vs.toArray.size).all (fun j => decide (xs[j]? = ys[j]?)) = decide (xs = ys) := by rw [show vs.toArray.size = xs.length from by simp; lia]; exact range_all hs
        exact ⟨eq_listAt hl.isList hb.isList hz hu (all_strEq ra rb e1 e2 A s) (EvP.val0 ok.rh (.bool _) ⟨_, rfl, by rw [hall]; exact q⟩),
          RcNeAt.lists hl.isList hb.isList hz hu (all_strEq ra rb e1 e2 A s) _ _ _ _ (EvP.val0 ok.rh (.bool _) ⟨_, rfl, by rw [hall]; exact q⟩)⟩
      · have hs' : (vs.toArray.size != ws.toArray.size) = true := by simp; lia
        have hf : decide (xs = ys) = false := decide_eq_false fun e => hs (by rw [e])
        rw [hf] at q
        exact ⟨eq_list_lengthsAt hl.isList hb.isList hs' hu (EvP.val0 ok.rh (.bool _) ⟨_, rfl, q⟩), RcNeAt.lists_lengths hl.isList hb.isList hs' hu _ _ _ _ (EvP.val0 ok.rh (.bool _) ⟨_, rfl, q⟩)⟩
theorem EvP.map {Q Q' : V → Hp → Prop} {v' : Value} (p : EvP c Q H s v' s') (h : ∀ v H', Q v H' → Q' v H') : EvP c Q' H s v' s' :=
  let ⟨v, H', a, b, d, e⟩ := p; ⟨v, H', a, b, d, h _ _ e⟩
set_option tactic.hygienic true in
theorem bi_cmp (C : CxOk c) (op : CmpOp) {Q : V → Hp → Prop} : Bi c (n + 1) env m (compareOp op) (fun a b => cmpQ op a b Q) Q := by
  intro H A s v v' u u' ok rv ru q
  cases (q)
  · rename_i q; cases rv; cases ru; exact PyProof.Rows.lt_int (EvP.val0 ok.rh (.bool _) q)
  · rename_i q; cases rv; cases ru; exact PyProof.Rows.le_int (EvP.val0 ok.rh (.bool _) q)
  · rename_i q; cases rv; cases ru; exact PyProof.Rows.gt_int (EvP.val0 ok.rh (.bool _) q)
  · rename_i q; cases rv; cases ru; exact PyProof.Rows.ge_int (EvP.val0 ok.rh (.bool _) q)
  · rename_i q; exact wpAny_mono (eq_ok ok rv ru q).1 (fun zz zz p => p.map fun _ _ ⟨b, e, q⟩ => e ▸ q) fun zz zz e => e
  · rename_i q; exact wpAny_mono (eq_ok ok rv ru q).2 (fun zz zz p => p.map fun _ _ ⟨b, e, q⟩ => e ▸ q) fun zz zz e => e
  · rename_i q; exact wpAny_mono (in_ok C ok rv ru q) (fun zz zz p => p.map fun _ _ ⟨b, e, q⟩ => e ▸ q) fun zz zz e => e
  · rename_i q; refine notIn_of_in (wpAny_mono (in_ok C ok rv ru q.2) ?_ fun zz zz e => e)
    rintro r s' ⟨v, H', a, b, d, x, rfl, q⟩
    cases a
    exact ⟨x, rfl, .bool (!x), H', .bool _, b, d, q⟩
  · rename_i q
    cases ru
    rcases q with ⟨rfl, q⟩ | ⟨⟨x, rfl⟩, q⟩
    · cases rv; exact wpAny_is_self rfl (EvP.val0 ok.rh (.bool _) q)
    · cases rv; exact wpAny_is_other rfl (by simp) (EvP.val0 ok.rh (.bool _) q)
  · rename_i q
    cases ru
    rcases q with ⟨rfl, q⟩ | ⟨⟨x, rfl⟩, q⟩
    · cases rv; exact wpAny_isNot_self rfl (EvP.val0 ok.rh (.bool _) q)
    · cases rv; exact wpAny_isNot_other rfl (by simp) (EvP.val0 ok.rh (.bool _) q)
end
end Mine
set_option tactic.hygienic false
open PySem PySem.W PySem.Calls PyProof PyProof.Rows PySem.SeqAt
set_option maxRecDepth 100000
namespace Mine
section
variable {c : Cx} {n : Nat} {env : Env} {m : Lo} {H H' : Hp} {A : Around} {s s' s'' : Shared}
theorem snd_bin {el er : Expr} {l r : X} {op : Operator} {pos : Pos} (hl : Snd c n env el l) (hr : Snd c n env er r) : Snd c n env (.BinOp el op er pos) (.bin op l r) :=
  fun zz zz zz h zz zz ok => wpAny_BinOp (bi_seq hl hr h (bi_bin op) ok)
theorem snd_cmp {el er : Expr} {l r : X} {op : CmpOp} {pos : Pos} (C : CxOk c) (hl : Snd c (n + 1) env el l) (hr : Snd c (n + 1) env er r) (hm : behindInMarks op er = false) :
    Snd c (n + 1) env (.Compare el [op] [er] pos) (.cmp op l r) :=
  fun zz zz zz h zz zz ok => wpAny_Compare1 (bi_seq hl hr h (bi_cmp C op) ok) hm
theorem EvP.truth {K : Bool → Hp → Prop} {v' : Value} (p : EvP c (isB K) H s v' s') : wpAny (M c) A (truthy v') (TsP c K H s) bot s' := by
  obtain ⟨v, H', a, rh, st, b, rfl, q⟩ := p
  cases a
  exact wpAny_truthy_bool ⟨H', rh, st, q⟩
theorem TsP.after {K : Bool → Hp → Prop} {b : Bool} (st : Stp noOwn H s H' s') (p : TsP c K H' s' b s'') : TsP c K H s b s'' :=
  let ⟨H'', b, d, e⟩ := p; ⟨H'', b, st.trans d, e⟩
theorem sndB_val {e : Expr} {x : X} (h : Snd c n env e x) (he : isTrue e env (eval e env) = (do let v ← eval e env; standAt e.pos; holding [v] (truthy v))) : SndB c n env e x :=
  fun zz zz zz q A s ok => wpAny_isTrue_value (wpAny_mono (h _ _ _ q A s ok) (fun zz zz p => p.truth) fun zz zz e => e) he
theorem sndB_cmp {el er : Expr} {l r : X} {op : CmpOp} {pos : Pos} (C : CxOk c) (hl : Snd c (n + 1) env el l) (hr : Snd c (n + 1) env er r) (hm : behindInMarks op er = false) :
    SndB c (n + 1) env (.Compare el [op] [er] pos) (.cmp op l r) :=
  fun zz zz zz q zz zz ok => wpAny_isTrue_Compare1 (wpAny_mono (bi_seq hl hr q (bi_cmp C op) ok) (fun zz zz h1 => wpAny_mono h1 (fun zz zz h2 => wpAny_mono h2 (fun zz zz p => p.truth) fun zz zz e => e) fun zz zz e => e) fun zz zz e => e) hm
theorem sndB_not {e : Expr} {x : X} {pos : Pos} (h : SndB c n env e x) : SndB c n env (.UnaryOp .Not e pos) (.not x) := by
  intro m K H q A s ok
  refine wpAny_isTrue_Not (wpAny_mono (h m (fun r H' => isB K (.bool !r) H') H q A s ok) ?_ fun zz zz e => e)
  rintro b s' ⟨H', rh, st, r, e, k⟩
  cases e
  exact ⟨H', rh, st, k⟩
theorem sndB_and {e f : Expr} {x y : X} {pos : Pos} (h1 : SndB c n env e x) (h2 : SndB c n env f y) : SndB c n env (.BoolOp .And [e, f] pos) (.and x y) := by
  intro m K H q A s ok
  refine wpAny_isTrue_BoolOp (wpAny_allTrue_And_cons (wpAny_mono (h1 m _ H q A s ok) ?_ fun zz zz e => e))
  rintro b s' ⟨H', rh, st, k⟩
  cases b with
  | false =>
    obtain ⟨r, e, k⟩ := k.2 rfl
    cases e
    exact ⟨H', rh, st, k⟩
  | true =>
    refine wpAny_allTrue_And_cons (wpAny_mono (h2 m K H' (k.1 rfl) A s' (ok.step rh st)) ?_ fun zz zz e => e)
    intro b s'' p
    cases b with
    | false => exact p.after st
    | true => exact wpAny_allTrue_And_nil (p.after st)
theorem wpAny_allTrue_Or_nil {Q : Bool → Shared → Prop} {M : Model} {E : Value → Shared → Prop} (h : Q false s) : wpAny M A (allTrue .Or [] env) Q E s := wpAny_pure h
theorem sndB_or {e f : Expr} {x y : X} {pos : Pos} (h1 : SndB c n env e x) (h2 : SndB c n env f y) : SndB c n env (.BoolOp .Or [e, f] pos) (.or x y) := by
  intro m K H q A s ok
  refine wpAny_isTrue_BoolOp (wpAny_allTrue_Or_cons (wpAny_mono (h1 m _ H q A s ok) ?_ fun zz zz e => e))
  rintro b s' ⟨H', rh, st, k⟩
  cases b with
  | true =>
    obtain ⟨r, e, k⟩ := k.1 rfl
    cases e
    exact ⟨H', rh, st, k⟩
  | false =>
    refine wpAny_allTrue_Or_cons (wpAny_mono (h2 m K H' (k.2 rfl) A s' (ok.step rh st)) ?_ fun zz zz e => e)
    intro b s'' p
    cases b with
    | true => exact p.after st
    | false => exact wpAny_allTrue_Or_nil (p.after st)
theorem snd_ite {t a b : Expr} {xt xa xb : X} {pos : Pos} (ht : SndB c n env t xt) (ha : Snd c n env a xa) (hb : Snd c n env b xb) : Snd c n env (.IfExp t a b pos) (.ite xt xa xb) := by
  intro m Q H q A s ok
  refine wpAny_IfExp (wpAny_mono (ht m _ H q A s ok) ?_ fun zz zz e => e)
  rintro r s' ⟨H', rh, st, k⟩
  cases r with
  | true => exact wpAny_mono (ha m Q H' (k.1 rfl) A s' (ok.step rh st)) (fun zz zz p => p.after st) fun zz zz e => e
  | false => exact wpAny_mono (hb m Q H' (k.2 rfl) A s' (ok.step rh st)) (fun zz zz p => p.after st) fun zz zz e => e
inductive EvPs (c : Cx) (Q : List V → Hp → Prop) (H : Hp) (s : Shared) (vs' : List Value) (s' : Shared) : Prop
  | mk (vs : List V) (H' : Hp) : VRs s'.heap vs vs' → RH c.prog c.w c.base H' s'.heap → Stp noOwn H s H' s' → Q vs H' → EvPs c Q H s vs' s'
noncomputable def Snds (c : Cx) (n : Nat) (env : Env) (es : List Expr) (xs : Xs) : Prop :=
  ∀ m Q H, awpL c n xs m Q H → ∀ pos A s, Ok c n env m H A s → wpAny (M c) A (spliced (backTo pos (starEach es env))) (EvPs c Q H s) bot s
theorem snds_nil : Snds c n env [] .nil := fun zz zz zz q zz zz zz ok => spliced_none ⟨[], _, .nil, ok.rh, Stp.refl, q⟩
theorem snds_cons {e : Expr} {es : List Expr} {x : X} {xs : Xs} (h1 : Snd c n env e x) (h2 : Snds c n env es xs) (he : starEach (e :: es) env = (false, eval e env) :: starEach es env) : Snds c n env (e :: es) (.cons x xs) := by
  intro m Q H q pos A s ok
  rw [he]
  show wpAny _ A (spliced ((false, eval e env) :: backTo pos (starEach es env))) _ _ s
  refine spliced_cons (wpAny_mono (h1 m _ H q A s ok) ?_ fun zz zz e => e)
  rintro v' s1 ⟨v, H1, r1, rh1, st1, q1⟩
  refine wpAny_mono (h2 m _ H1 q1 pos A s1 (ok.step rh1 st1)) ?_ fun zz zz e => e
  rintro vs' s2 ⟨vs, H2, r2, rh2, st2, q2⟩
  exact ⟨v :: vs, H2, .cons (r1.sta st2.sta) r2, rh2, st1.trans st2, q2⟩
theorem snd_tup {es : List Expr} {xs : Xs} {k : Nat} {pos : Pos} (h : Snds c n env es xs) : Snd c n env (.Tuple es k pos) (.tup xs) := by
  intro m Q H q A s ok
  refine Tuple_ (wpAny_mono (h m _ H q pos A s ok) ?_ fun zz zz e => e)
  rintro vs' s' ⟨vs, H', r, rh, st, hz, q⟩
  have := r.length
  exact wpAny_newTuple ((EvP.tup rh s'.toks r q).after st) (by rw [sizeLine_eq]; lia)
theorem snd_lst {es : List Expr} {xs : Xs} {pos : Pos} (h : Snds c n env es xs) : Snd c n env (.List es pos) (.lst xs) := by
  intro m Q H q A s ok
  refine List_ (wpAny_mono (h m _ H q pos A s ok) ?_ fun zz zz e => e)
  rintro vs' s' ⟨vs, H', r, rh, st, hz, q⟩
  have := r.length
  exact wpAny_newList ((EvP.lst rh s'.toks r q).after st) (by rw [sizeLine_eq]; lia)
theorem sub_ops (slice : Expr) (o i : Value) : ∃ ops, PySem.subscripted slice false o i = operate ops (getItem o i) := by
  cases slice with
  | Slice a b u => cases u <;> exact ⟨_, rfl⟩
  | _ => exact ⟨_, rfl⟩
theorem sub_ok {T id : String} {value slice : Expr} {o i : Value} {Q : Value → Shared → Prop} {E : Value → Shared → Prop} (hT : s.TypeIs o T) (hl : typeLookup (.type T) "__getitem__" = pure (some (.builtin id)))
    (hg : wpAny (M c) A (getItem o i) Q E s) : wpAny (M c) A (subscriptTail value slice o i) Q E s := by
  obtain ⟨ops, e⟩ := sub_ops slice o i
  exact tail_any hT hl hg e
theorem ok_in1 (ok : Ok c (n + 1) env m H A s) : A.in1.units < cLine := by have := ok.room.2.2; show A.units + 1 < cLine; lia
set_option tactic.hygienic true in
theorem bi_sub (C : CxOk c) {value slice : Expr} {Q : V → Hp → Prop} : Bi c (n + 1) env m (subscriptTail value slice) (fun a b => subQ a b Q) Q := by
  intro H A s v v' u u' ok rv ru q
  cases (q)
  · rename_i q; cases rv; cases ru
    rcases q with ⟨l, x, el, h0, h1, hx, q⟩ | ⟨es, x, el, hx, q⟩
    · obtain ⟨vs, hl, rva⟩ := ok.rh.obj _ _ el
      obtain ⟨x', e', r⟩ := rva.get hx
      exact sub_ok hl.isList.typeIs slot_list_getitem.lookup (wpAny_getItem_list hl.isList h0 (by lia) (by simpa using e') (EvP.val0 ok.rh r q))
    · obtain ⟨vs, hd, rva⟩ := ok.rh.obj _ _ el
      rename_i a i _
      rcases look_zip es vs rva i with ⟨p, p'⟩ | ⟨y, y', p, p', r⟩
      · rw [p] at hx; cases hx
      · rw [p] at hx; cases hx
        exact sub_ok (DictAt_mapOf hd).typeIs slot_dict_getitem.lookup (wpAny_getItem_of (int_is c.prog c.w i _) (DictAt_mapOf hd) p' (EvP.val ok.rh _ r q))
  · rename_i q; cases rv; cases ru
    obtain ⟨es, x, el, hx, q⟩ := q
    obtain ⟨vs, hd, rva⟩ := ok.rh.obj _ _ el
    rename_i a i _
    rcases look_zip es vs rva i with ⟨p, p'⟩ | ⟨y, y', p, p', r⟩
    · rw [p] at hx; cases hx
    · rw [p] at hx; cases hx
      exact sub_ok (DictAt_mapOf hd).typeIs slot_dict_getitem.lookup (wpAny_getItem_of (str_is c.prog c.w i _) (DictAt_mapOf hd) p' (EvP.val ok.rh _ r q))
  · rename_i q; cases rv
    refine VR.tupE ru fun ws ta it rvb => ?_
    obtain ⟨es, ks, x, el, rfl, hx, q⟩ := q
    obtain ⟨xs, hd, e, rva⟩ := ok.rh.obj _ _ el
    rcases look_atKey es xs e rva ks with ⟨p, p'⟩ | ⟨y, y', p, p', r⟩
    · rw [p] at hx; cases hx
    · rw [p] at hx; cases hx
      exact sub_ok hd.typeIs slot_dict_getitem.lookup (wpAny_getItem_heap (knd := tupleKind (intKind c.prog c.w)) (ok_in1 ok) (tup_key it rvb) hd p' (EvP.val ok.rh _ r q))
  · rename_i q; refine VR.tupE rv fun ws ta it rvb => ?_
    cases ru
    obtain ⟨x, h0, h1, hx, q⟩ := q
    obtain ⟨x', e', r⟩ := rvb.get hx
    have hlt : _ < _ := (List.getElem?_eq_some_iff.mp e').1
    rename_i i _
    have hj : seqIndex? i ws.toArray.size = some i.toNat := seqIndex_of h0 (by simp; lia)
    exact sub_ok (show IsTup s.heap ta ws.toArray from it).typeIs slot_tuple_getitem.lookup (PyProof.Rows.getItem_tuple it (by lia) (by lia) hj (by simpa using e') (EvP.val0 ok.rh r q))
  · rename_i q; cases rv; cases ru
    obtain ⟨ch, h0, h1, hx, q⟩ := q
    rename_i x i _ _
    have hlt : i.toNat < x.cps.size := (Array.getElem?_eq_some_iff.mp hx).1
    have hj : seqIndex? i x.length = some i.toNat := seqIndex_of h0 (by show i < (x.cps.size : Nat); lia)
    exact sub_ok (typeIs_str s x _) slot_str_getitem.lookup (PyProof.Rows.getItem_str (by simp; lia) (by rw [hj]; exact hx) (EvP.val ok.rh _ (.str _ _) q))
theorem snd_sub {eo ei : Expr} {o i : X} {pos : Pos} (C : CxOk c) (ho : Snd c (n + 1) env eo o) (hi : Snd c (n + 1) env ei i) : Snd c (n + 1) env (.Subscript eo ei pos) (.sub o i) :=
  fun zz zz zz h zz zz ok => Subscript_ (bi_seq ho hi h (bi_sub C) ok)
end
end Mine
set_option tactic.hygienic false
open PySem PySem.W PySem.Calls PyProof PyProof.Rows PySem.SeqAt
set_option maxRecDepth 100000
namespace Mine
section
variable {c : Cx} {n : Nat} {env : Env} {m : Lo} {H H' : Hp} {A : Around} {s s' s'' : Shared}
noncomputable def Kp (c : Cx) (f : Value) : Prop := ∀ (h : Heap), (∀ b o, c.base.get? b = some o → h.get? b = some o) → ∃ k, (k = Keeper.frame ∨ k = Keeper.machine ∨ k = Keeper.boundFrame) ∧ Looks (M c) h (keeperOf f) k
theorem kp_builtin (i : String) : Kp c (.builtin i) := fun zz zz => ⟨.machine, .inr (.inl rfl), Looks.of_pure rfl⟩
theorem kp_type (i : String) : Kp c (.type i) := fun zz zz => ⟨.machine, .inr (.inl rfl), Looks.of_pure rfl⟩
theorem kp_K (C : CxOk c) {f : Value} (h : keepIn c.K f = true) : Kp c f := fun zz k => keeps_K h _ (C.kin.keeps k)
noncomputable def starred (e : Expr) : Bool := Nat.beq e.ctorIdx 22
noncomputable def plainArgs (es : List Expr) : Bool := es.all fun e => !starred e
theorem starEach_plain {e : Expr} (r : List Expr) (h : starred e = false) : starEach (e :: r) env = (false, eval e env) :: starEach r env := by
  cases e <;> first | rfl | exact absurd (show true = false from h) (by decide)
theorem plain_cons {e : Expr} {r : List Expr} (h : plainArgs (e :: r) = true) : starEach (e :: r) env = (false, eval e env) :: starEach r env ∧ plainArgs r = true := by
  simp only [plainArgs, List.all_cons, Bool.and_eq_true, Bool.not_eq_true'] at h
  exact ⟨starEach_plain r h.1, h.2⟩
theorem plain_any {pos : Pos} : ∀ {es : List Expr}, plainArgs es = true → (backTo pos (starEach es env)).any (fun zz => zz.1) = false
  | [], _ => rfl
  | e :: r, h => by
    rw [(plain_cons (env := env) h).1]
    show (false || (backTo pos (starEach r env)).any (fun zz => zz.1)) = false
    rw [plain_any (plain_cons (env := env) h).2]; rfl
theorem call_seq {f : Value} {first : List Value} {es : List Expr} {xs : Xs} {pos : Pos} {P : List V → Hp → Prop} {Q : V → Hp → Prop} (hk : Kp c f) (hp : plainArgs es = true) (hx : es = [] → xs = .nil) (h2 : Snds c n env es xs) (h : awpL c n xs m P H) (ok : Ok c n env m H A s)
    (k : ∀ vs vs' H1 s1, Ok c n env m H1 A s1 → Stp noOwn H s H1 s1 → VRs s1.heap vs vs' → P vs H1 → wpAny (M c) A (call f (first ++ vs')) (EvP c Q H1 s1) bot s1) :
    wpAny (M c) A (callWith pos f first (backTo pos (starEach es env)) []) (EvP c Q H s) bot s := by
  have hb : ∀ {s1 : Shared} {H1 : Hp}, Ok c n env m H1 A s1 → ∀ b o, c.base.get? b = some o → s1.heap.get? b = some o := fun ok b o e => (ok.rh.base b o e).1
  refine callWith_of (P := fun h => ∀ b o, c.base.get? b = some o → h.get? b = some o) (by rw [plain_any hp]; rfl) hk ?_
  have main := h2 m P H h pos A s ok
  have tail : ∀ vs' s', EvPs c P H s vs' s' → (∀ b o, c.base.get? b = some o → s'.heap.get? b = some o) ∧ wpAny (M c) A (call f (first ++ vs') []) (EvP c Q H s) bot s' := by
    rintro vs' s' ⟨vs, H1, r, rh, st, q⟩
    have ok1 := ok.step rh st
    exact ⟨hb ok1, wpAny_mono (k vs vs' H1 s' ok1 st r q) (fun zz zz p => p.after st) fun zz zz e => e⟩
  cases es with
  | nil =>
    refine evalArgs_nil3 ?_
    obtain rfl := hx rfl
    have : EvPs c P H s [] s := ⟨[], H, .nil, ok.rh, Stp.refl, h⟩
    exact tail [] s this
  | cons e r =>
    rw [(plain_cons (env := env) hp).1] at main ⊢
    exact evalArgs_plain (wpAny_mono main (fun vs s' p => tail vs s' p) fun zz zz e => e)
theorem call_name {id : Str} {p pos : Pos} {es : List Expr} {Q : Value → Shared → Prop} {E : Value → Shared → Prop} (h : wpAny (M c) A (eval (.Name id p) env) (fun f s₁ => wpAny (M c) A (callWith pos f [] (backTo pos (starEach es env)) []) Q E s₁) E s) :
    wpAny (M c) A (eval (.Call (.Name id p) es [] pos) env) Q E s := wpAny_Call_Name_kw h
theorem fn_ev {id : Str} {p pos : Pos} {es : List Expr} {xs : Xs} {f : Value} {P : List V → Hp → Prop} {Q : V → Hp → Prop} (C : CxOk c) (E : EnvOk env) (hg : c.glo id = some f) (hk : env.kindOf id = some .globalImplicit)
    (hd : (id == ("__debug__" : Str)) = false) (hf : Kp c f) (hp : plainArgs es = true) (hx : es = [] → xs = .nil) (h2 : Snds c n env es xs) (h : awpL c n xs m P H)
    (k : ∀ vs vs' H1 A s1, Ok c n env m H1 A s1 → VRs s1.heap vs vs' → P vs H1 → wpAny (M c) A (call f vs') (EvP c Q H1 s1) bot s1) : EvOK c n env m (.Call (.Name id p) es [] pos) Q H := by
  intro A s ok
  refine call_name (glo_load E ((C.glo _ _ hg).keeps fun b o e => (ok.rh.base b o e).1) hk hd ?_)
  exact call_seq hf hp hx h2 h ok fun vs vs' H1 s1 ok1 zz r q => k vs vs' H1 A s1 ok1 r q
structure Bnm (c : Cx) (env : Env) (id : Str) (f : Value) : Prop where
  glo : c.glo id = some f
  kind : env.kindOf id = some .globalImplicit
  dbg : (id == ("__debug__" : Str)) = false
  keep : Kp c f
theorem fn1 {id : Str} {p pos : Pos} {e : Expr} {x : X} {f : Value} {q : V → (V → Hp → Prop) → Hp → Prop} (C : CxOk c) (E : EnvOk env) (B : Bnm c env id f) (hp : starred e = false) (hs : Snd c n env e x)
    (k : ∀ m Q, Un c n env m (fun v => call f [v]) (fun a => q a Q) Q) : ∀ m Q H, awp c n x m (fun a => q a Q) H → EvOK c n env m (.Call (.Name id p) [e] [] pos) Q H := by
  intro m Q H h
  refine fn_ev (xs := .cons x .nil) (P := fun vs H' => match vs with | [a] => q a Q H' | _ => False) C E B.glo B.kind B.dbg B.keep (by simp [plainArgs, hp]) (fun h => nomatch h) (snds_cons hs snds_nil (starEach_plain [] hp)) h ?_
  intro vs vs' H1 A s1 ok r hq
  cases r with
  | nil => exact hq.elim
  | cons a b =>
    cases b with
    | cons _ _ => exact hq.elim
    | nil => exact k m Q H1 A s1 _ _ ok a hq
theorem fn2 {id : Str} {p pos : Pos} {e e2 : Expr} {x y : X} {f : Value} {q : V → V → (V → Hp → Prop) → Hp → Prop} (C : CxOk c) (E : EnvOk env) (B : Bnm c env id f) (hp : starred e = false) (hp2 : starred e2 = false) (hs : Snd c n env e x) (hs2 : Snd c n env e2 y)
    (k : ∀ m Q, Bi c n env m (fun v u => call f [v, u]) (fun a b => q a b Q) Q) : ∀ m Q H, awp c n x m (fun a => awp c n y m (fun b => q a b Q)) H → EvOK c n env m (.Call (.Name id p) [e, e2] [] pos) Q H := by
  intro m Q H h
  refine fn_ev (xs := .cons x (.cons y .nil)) (P := fun vs H' => match vs with | [a, b] => q a b Q H' | _ => False) C E B.glo B.kind B.dbg B.keep (by simp [plainArgs, hp, hp2]) (fun h => nomatch h)
    (snds_cons hs (snds_cons hs2 snds_nil (starEach_plain [] hp2)) (starEach_plain _ hp)) h ?_
  intro vs vs' H1 A s1 ok r hq
  cases r with
  | nil => exact hq.elim
  | cons a b =>
    cases b with
    | nil => exact hq.elim
    | cons b d =>
      cases d with
      | cons _ _ => exact hq.elim
      | nil => exact k m Q H1 A s1 _ _ _ _ ok a b hq
theorem size_int {vs : List Value} {l : List V} (h : vs.length = l.length) : ((vs.toArray.size : Nat) : Int) = (l.length : Int) := by simp [h]
theorem len_dictT {d : Addr} {xs : List (List Int × Addr × Value)} {prog : Program} {w : World} {A : Around} {E : Value → Shared → Prop} {Q : Value → Shared → Prop} (hd : (d == sysModules) = false) (hm : s.heap.DictOfH (tupleKind (intKind prog w)) d xs) (hfit : (xs.length : Int) < 2 ^ 63)
    (h : Q (.int xs.length (s.toks + 1)) { s with toks := s.toks + 1 + 1 }) : wpAny (model prog w) A (call (.builtin "len") [.ref d]) Q E s := by
  refine Calls.call_function_entry kind_len plain_len entry_len (args_len1 _) ?_
  obtain ⟨o, es, ep, ho, hc, hdat, hk, hp, hn⟩ := id hm
  unfold Builtin.«len»
  refine wpAny_bind (m := oneArg "len" _) (wpAny_pure ?_)
  refine wpAny_bind (m := callSpecial? (.ref d) (Str.ofString "__len__")) (wpAny_callSpecial?_slot (name := Str.ofString "__len__") hm.typeIs F.slot_dict_len
    (wpAny_call_entry F.slot_dict_len hm.typeIs F.entry_dict_len ?_ (F.args_dict_len_1 _)))
  show wpAny _ _ (dictSize d >>= _) _ _ s
  unfold dictSize
  refine wpAny_bind (wpAny_bind (wpAny_dictEntries ho hdat (wpAny_pure ?_)))
  show wpAny _ _ (Builtin.Dict.pendingCount d >>= _) _ _ s
  refine wpAny_bind (wpAny_pendingCount_other hd ?_)
  refine wpAny_ret_mkInt ?_
  have : es.size = xs.length := size_of_entries hk
  rw [Nat.add_zero, this]
  refine wpAny_bind (wpAny_holding (wpAny_pure ?_))
  refine wpAny_bind (wpAny_letGo ?_)
  show wpAny _ _ (if ((xs.length : Nat) : Int) < 0 then _ else _) _ _ _
  rw [if_neg (by lia)]
  show wpAny _ _ (if ((xs.length : Nat) : Int) ≥ 2 ^ 63 then _ else _) _ _ _
  rw [if_neg (by lia)]
  exact wpAny_bind (wpAny_mkInt (wpAny_pure ⟨_, rfl, h⟩))
set_option tactic.hygienic true in
theorem un_len (C : CxOk c) {Q : V → Hp → Prop} : Un c n env m (fun v => call (.builtin "len") [v]) (fun a => lenQ a Q) Q := by
  intro H A s v v' ok rv q
  have big : (100000 : Int) < 2 ^ 63 := by decide
  cases (q)
  · rename_i q; refine VR.tupE rv fun vs ta it rva => ?_
    obtain ⟨hz, q⟩ := q
    have := rva.length
    exact PyProof.Rows.len_tuple it (by simp; lia) (EvP.val ok.rh _ (.int _ _) (by rw [size_int this]; exact q))
  · rename_i q; cases rv
    obtain ⟨hz, q⟩ := q
    exact PyProof.Rows.len_str (by show ¬ ((_ : Str).cps.size : Int) ≥ 2 ^ 63; lia) (EvP.val ok.rh _ (.int _ _) q)
  · rename_i q; cases rv
    rcases q with ⟨l, el, hz, q⟩ | ⟨es, el, hz, q⟩ | ⟨es, el, hz, q⟩
    · obtain ⟨vs, hl, rva⟩ := ok.rh.obj _ _ el
      have := rva.length
      exact call_len_list hl.isList (by simp; lia) (EvP.val ok.rh _ (.int _ _) (by rw [size_int this]; exact q))
    · obtain ⟨vs, hd, rva⟩ := ok.rh.obj _ _ el
      have := rva.length
      have e : ((es.map (fun zz => zz.1)).zip vs).length = es.length := by simp at this ⊢; lia
      exact call_len_dict (Ok.not_mods C ok.rh el) hd.dictOf (by rw [e]; lia) (EvP.val ok.rh _ (.int _ _) (by rw [e]; exact q))
    · obtain ⟨xs, hd, e, rva⟩ := ok.rh.obj _ _ el
      have e2 : xs.length = es.length := by simpa using congrArg List.length e
      exact len_dictT (Ok.not_mods C ok.rh el) hd (by rw [e2]; lia) (EvP.val ok.rh _ (.int _ _) (by rw [e2]; exact q))
theorem un_range1 {Q : V → Hp → Prop} : Un c n env m (fun v => call (.type "range") [v]) (fun a H' => ∃ i, a = .int i ∧ i < 100000 ∧ -100000 < i ∧ Q (.rng 0 i) H') Q := by
  rintro H A s v v' ok rv ⟨i, rfl, h1, h2, q⟩
  cases rv
  exact call_range_1 ⟨.rng 0 i, H, .rng ⟨by decide, by decide, h2, h1⟩ (Heap.get?_push_size _ rfl), ok.rh.push _, Stp.push _ _, q⟩
theorem bi_range2 {Q : V → Hp → Prop} : Bi c n env m (fun v u => call (.type "range") [v, u]) (fun a b H' => ∃ i j, a = .int i ∧ b = .int j ∧ (i < 100000 ∧ -100000 < i ∧ j < 100000 ∧ -100000 < j) ∧ Q (.rng i j) H') Q := by
  rintro H A s v v' u u' ok rv ru ⟨i, j, rfl, rfl, h, q⟩
  cases rv; cases ru
  exact call_range_2 ⟨.rng i j, H, .rng ⟨h.2.1, h.1, h.2.2.2, h.2.2.1⟩ (Heap.get?_push_size _ rfl), ok.rh.push _, Stp.push _ _, q⟩
set_option tactic.hygienic true in
theorem un_list {Q : V → Hp → Prop} : Un c n env m (fun v => call (.type "list") [v]) (fun a => listQ a Q) Q := by
  intro H A s v v' ok rv q
  cases (q)
  · rename_i q; refine VR.tupE rv fun vs ta it rva => ?_
    obtain ⟨hz, q⟩ := q
    obtain ⟨o, ho, hc, k, hd⟩ := it
    have := rva.length
    exact call_list_seq ta (.inr rfl) ho hc hd (fun h' c' hk hD => EvP.lstG ok.rh s.toks hk size_free ⟨c', hD⟩ rva q) (by rw [sizeLine_eq]; simp; lia)
  · rename_i q; cases rv
    obtain ⟨l, el, hz, q⟩ := q
    obtain ⟨vs, ⟨k, ho⟩, rva⟩ := ok.rh.obj _ _ el
    have := rva.length
    exact call_list_seq _ (.inl rfl) ho rfl rfl (fun h' c' hk hD => EvP.lstG ok.rh s.toks hk size_free ⟨c', hD⟩ rva q) (by rw [sizeLine_eq]; simp; lia)
theorem un_tuple {Q : V → Hp → Prop} : Un c n env m (fun v => call (.type "tuple") [v]) (fun a => tupleQ a Q) Q := by
  rintro H A s v v' ok rv ⟨a, l, rfl, el, hz, q⟩
  cases rv
  obtain ⟨vs, hl, rva⟩ := ok.rh.obj _ _ el
  have := rva.length
  exact PySem.call_tuple_list hl.isList (fun h' hk => EvP.tupG ok.rh s.toks (fun a o e => Heap.get?_push_of_some _ (hk a o e)) ⟨_, Heap.get?_push_size _ rfl, rfl, 0, rfl⟩ rva q) (by rw [sizeLine_eq]; simp; lia)
theorem un_abs {Q : V → Hp → Prop} : Un c n env m (fun v => call (.builtin "abs") [v]) (fun a H' => ∃ i, a = .int i ∧ Q (.int i.natAbs) H') Q := by
  rintro H A s v v' ok rv ⟨i, rfl, q⟩
  cases rv
  exact PyProof.Rows.call_abs_int fun u tk => EvP.val ok.rh _ (.int _ _) (by rw [show (if i < 0 then -i else i) = (i.natAbs : Int) from by split <;> lia]; exact q)
end
end Mine
set_option tactic.hygienic false
open PySem PySem.W PySem.Calls PyProof PyProof.Rows PySem.SeqAt
set_option maxRecDepth 100000
namespace Mine
section
variable {c : Cx} {n : Nat} {env : Env} {m : Lo} {H H' : Hp} {A : Around} {s s' s'' : Shared}
noncomputable def MForm (env : Env) (o : Expr) (name : Str) (apos : Pos) (args : List Expr) (pos : Pos) : Prop :=
  ∃ pl : Sem Bool, eval (.Call (.Attribute o name apos) args [] pos) env = (do
      let ov ← eval o env
      standAt apos.atName
      let (f, first) ← holding [ov] (getMethod ov name pl)
      callWith pos f first (backTo pos (starEach args env)) [])
theorem bm_ev {eo : Expr} {ox : X} {name : Str} {apos pos : Pos} {es : List Expr} {xs : Xs} {T id : String} {guard : V → Hp → Prop} {P : V → List V → Hp → Prop} {Q : V → Hp → Prop}
    (mf : MForm env eo name apos es pos) (ho : Snd c n env eo ox) (hp : plainArgs es = true) (hx : es = [] → xs = .nil) (h2 : Snds c n env es xs)
    (pa : PlainAttrs T) (slot : Slot T name id) (hty : typeOf (.builtin id) = pure (.type "method_descriptor"))
    (hm : ∀ H1 (s1 : Shared) a a', RH c.prog c.w c.base H1 s1.heap → VR s1.heap a a' → guard a H1 → s1.TypeIs a' T ∧ ∀ b, a' = .ref b → ∃ o, s1.heap.get? b = some o ∧ o.dict = none)
    (k : ∀ a a' vs vs' H1 A s1, Ok c n env m H1 A s1 → VR s1.heap a a' → VRs s1.heap vs vs' → P a vs H1 → wpAny (M c) A (call (.builtin id) (a' :: vs')) (EvP c Q H1 s1) bot s1)
    (h : awp c n ox m (fun a H1 => guard a H1 ∧ awpL c n xs m (P a) H1) H) : EvOK c n env m (.Call (.Attribute eo name apos) es [] pos) Q H := by
  intro A s ok
  obtain ⟨pl, he⟩ := mf
  refine MethodCall_ (pl := pl) ?_ he
  refine wpAny_mono (ho _ _ _ h A s ok) ?_ fun zz zz e => e
  rintro a' s1 ⟨a, H1, r1, rh1, st1, g, q1⟩
  have ok1 := ok.step rh1 st1
  obtain ⟨hT, hd⟩ := hm H1 s1 a a' rh1 r1 g
  refine getMethod_builtin hT pa slot hty hd ?_
  refine wpAny_mono (call_seq (first := [a']) (kp_builtin id) hp hx h2 q1 ok1 fun vs vs' H2 s2 ok2 st2 r2 q2 => ?_) (fun zz zz p => p.after st1) fun zz zz e => e
  exact k a a' vs vs' H2 A s2 ok2 (r1.sta st2.sta) r2 q2
theorem isL_ty {a : V} {a' : Value} (rh : RH c.prog c.w c.base H s.heap) (r : VR s.heap a a') (g : isL a H) : s.TypeIs a' "list" ∧ ∀ b, a' = .ref b → ∃ o, s.heap.get? b = some o ∧ o.dict = none := by
  obtain ⟨b, l, rfl, e⟩ := g
  cases r
  obtain ⟨vs, ⟨k, ho⟩, _⟩ := rh.obj _ _ e
  exact ⟨⟨_, ho, rfl⟩, fun b' q => by cases q; exact ⟨_, ho, rfl⟩⟩
theorem isD_ty {a : V} {a' : Value} (rh : RH c.prog c.w c.base H s.heap) (r : VR s.heap a a') (g : isD a H) : s.TypeIs a' "dict" ∧ ∀ b, a' = .ref b → ∃ o, s.heap.get? b = some o ∧ o.dict = none := by
  obtain ⟨b, rfl, ⟨es, e⟩ | ⟨es, e⟩⟩ := g
  · cases r
    obtain ⟨vs, hd, _⟩ := rh.obj _ _ e
    exact ⟨(DictAt_mapOf hd).typeIs, (DictAt_mapOf hd).noDict⟩
  · cases r
    obtain ⟨xs, hd, _⟩ := rh.obj _ _ e
    exact ⟨hd.typeIs, fun b' q => by cases q; exact dictOfH_noDict hd _ rfl⟩
theorem isS_ty {a : V} {a' : Value} (_rh : RH c.prog c.w c.base H s.heap) (r : VR s.heap a a') (g : isS a H) : s.TypeIs a' "str" ∧ ∀ b, a' = .ref b → ∃ o, s.heap.get? b = some o ∧ o.dict = none := by
  obtain ⟨x, rfl⟩ := g
  cases r
  exact ⟨typeIs_str s x _, fun b' q => by cases q⟩
theorem EvP.setL {Q : V → Hp → Prop} {v : V} {v' : Value} {a : Addr} {l₀ l : List V} {h' : Heap} {vs : List Value} (rh : RH c.prog c.w c.base H s.heap) (t : Nat) (e : H a = some (.list l₀)) (hs : Heap.SameBut a s.heap h') (hl : h'.PlainList a vs.toArray)
    (r : VRs s.heap l vs) (rv : VR s.heap v v') (q : Q v (H.put a (.list l))) : EvP c Q H s v' { s with heap := h', toks := t } := by
  obtain ⟨ob, eob, nst⟩ := (rh.obj _ _ e).not_still
  have sta : Sta s.heap h' := Sta.but hs.extBut eob nst
  obtain ⟨k, ho⟩ := id hl
  exact ⟨v, _, rv.sta sta, rh.set (o := .list l) e (by intro _; simp) (by intros; simp) hs ⟨vs, hl, r.sta sta⟩, Stp.set _ _ t e eob nst hs (by rw [ho]; rfl) (fun zz h => nomatch h), q⟩
theorem EvP.setD {Q : V → Hp → Prop} {v : V} {v' : Value} {a : Addr} {es₀ es : List (Int × V)} {h' : Heap} {vs : List Value} (rh : RH c.prog c.w c.base H s.heap) (t : Nat) (e : H a = some (.dictI es₀)) (hs : Heap.SameBut a s.heap h')
    (hl : h'.DictAt (intKind c.prog c.w) a ((es.map (fun zz => zz.1)).zip vs) es.length) (r : VRs s.heap (es.map (fun zz => zz.2)) vs) (rv : VR s.heap v v') (q : Q v (H.put a (.dictI es))) : EvP c Q H s v' { s with heap := h', toks := t } := by
  obtain ⟨ob, eob, nst⟩ := (rh.obj _ _ e).not_still
  have sta : Sta s.heap h' := Sta.but hs.extBut eob nst
  obtain ⟨o, _, ho, _⟩ := id hl
  exact ⟨v, _, rv.sta sta, rh.set (o := .dictI es) e (by intro _; simp) (by intros; simp) hs ⟨vs, hl, r.sta sta⟩, Stp.set _ _ t e eob nst hs (by rw [ho]; rfl) (fun zz h => nomatch h), q⟩
noncomputable def a1 (P : V → Hp → Prop) : List V → Hp → Prop
  | [a], H => P a H
  | _, _ => False
noncomputable def a2 (P : V → V → Hp → Prop) : List V → Hp → Prop
  | [a, b], H => P a b H
  | _, _ => False
theorem one_arg {vs : List V} {vs' : List Value} {h : Heap} {P : V → Hp → Prop} (r : VRs h vs vs') (p : a1 P vs H) : ∃ a a', vs = [a] ∧ vs' = [a'] ∧ VR h a a' ∧ P a H := by
  cases r with
  | nil => exact p.elim
  | cons a b =>
    cases b with
    | cons _ _ => exact p.elim
    | nil => exact ⟨_, _, rfl, rfl, a, p⟩
theorem two_args {vs : List V} {vs' : List Value} {h : Heap} {P : V → V → Hp → Prop} (r : VRs h vs vs') (p : a2 P vs H) : ∃ a a' b b', vs = [a, b] ∧ vs' = [a', b'] ∧ VR h a a' ∧ VR h b b' ∧ P a b H := by
  cases r with
  | nil => exact p.elim
  | cons a b =>
    cases b with
    | nil => exact p.elim
    | cons b d =>
      cases d with
      | cons _ _ => exact p.elim
      | nil => exact ⟨_, _, _, _, rfl, rfl, a, b, p⟩
theorem snd_append {eo ee : Expr} {o x : X} {apos pos : Pos} (mf : MForm env eo "append" apos [ee] pos) (ho : Snd c n env eo o) (hx : Snd c n env ee x) (hp : starred ee = false) :
    Snd c n env (.Call (.Attribute eo "append" apos) [ee] [] pos) (.append o x) := by
  intro m Q H h
  refine bm_ev (xs := .cons x .nil) (guard := isL) (P := fun a => a1 fun b => appendQ a b Q) mf ho (by simp [plainArgs, hp]) (fun h => nomatch h) (snds_cons hx snds_nil (starEach_plain [] hp))
    F.plainAttrs_list F.slot_list_append F.type_list_append (fun zz zz zz zz => isL_ty) ?_ h
  intro a a' vs vs' H1 A s1 ok ra rvs hq
  obtain ⟨b, b', rfl, rfl, rb, l, l0, rfl, el, hz, q⟩ := one_arg rvs hq
  cases ra
  obtain ⟨ws, ⟨k, hl⟩, rl⟩ := ok.rh.obj _ _ el
  have hlen := rl.length
  refine append_at hl (fun h' hs hn => EvP.setL (vs := ws ++ [b']) ok.rh s1.toks el hs ⟨k + 1, ?_⟩ (rl.append (.cons rb .nil)) .none q) (by rw [sizeLine_eq]; simp; lia)
  rw [hn]; simp
theorem erase_last (l : List Value) (v : Value) : ((l ++ [v]).toArray.eraseIdxIfInBounds ((l ++ [v]).toArray.size - 1)) = l.toArray := by
  have : (l ++ [v]).eraseIdx l.length = l := by rw [List.eraseIdx_append_of_length_le (Nat.le_refl _)]; simp
  simp [Array.eraseIdxIfInBounds, this]
theorem VRs.snoc {h : Heap} {l : List V} {v : V} {vs : List Value} (x : VRs h (l ++ [v]) vs) : ∃ ws w, vs = ws ++ [w] ∧ VRs h l ws ∧ VR h v w := by
  obtain ⟨k₁, l₁, rfl, a, b⟩ := VRs.split x
  cases b with
  | cons b d => cases d; exact ⟨_, _, rfl, a, b⟩
theorem update_seq_at {h : Heap} {a : Addr} {xs : Array Value} {n : Nat} {sl} {dd} (f : Array Value → Array Value) (ho : h.get? a = some { cls := .type "list", dict := dd, data := .seq xs n, slots := sl }) :
    ∃ k, (h.update a (Obj.mapSeq f)).get? a = some { cls := .type "list", dict := dd, data := .seq (f xs) k, slots := sl } :=
  ⟨_, Heap.get?_update_self _ ho (by rfl)⟩
theorem snd_pop {eo : Expr} {o : X} {apos pos : Pos} (mf : MForm env eo "pop" apos [] pos) (ho : Snd c n env eo o) : Snd c n env (.Call (.Attribute eo "pop" apos) [] [] pos) (.pop o) := by
  intro m Q H h
  refine bm_ev (xs := .nil) (guard := isL) (P := fun a vs H1 => match vs with | [] => popQ a Q H1 | _ => False) mf ho rfl (fun zz => rfl) snds_nil F.plainAttrs_list F.slot_list_pop F.type_list_pop (fun zz zz zz zz => isL_ty) ?_ h
  intro a a' vs vs' H1 A s1 ok ra rvs hq
  cases rvs with
  | cons _ _ => exact hq.elim
  | nil =>
    obtain ⟨l, l0, v, rfl, el, hz, q⟩ := hq
    cases ra
    obtain ⟨ws, ⟨k, hl⟩, rl⟩ := ok.rh.obj _ _ el
    obtain ⟨us, u, rfl, r1, r2⟩ := rl.snoc
    have hlen := r1.length
    refine call_meets F.slot_list_pop ⟨_, hl, rfl⟩ F.entry_list_pop (F.args_list_pop_1 _) (PySem.MeetsSeq.list_pop_last l _ k u (by simp) (by rw [sizeLine_eq]; simp; lia)) ⟨hl, ?_⟩
    obtain ⟨k', hk'⟩ := update_seq_at (fun xs => xs.eraseIdxIfInBounds ((us ++ [u]).toArray.size - 1)) hl
    rw [erase_last] at hk'
    exact EvP.setL (vs := us) ok.rh s1.toks el (Heap.SameBut.update ..) ⟨k', hk'⟩ r1 r2 q
theorem snd_extend {eo ee : Expr} {o x : X} {apos pos : Pos} (mf : MForm env eo "extend" apos [ee] pos) (ho : Snd c n env eo o) (hx : Snd c n env ee x) (hp : starred ee = false) :
    Snd c n env (.Call (.Attribute eo "extend" apos) [ee] [] pos) (.extend o x) := by
  intro m Q H h
  refine bm_ev (xs := .cons x .nil) (guard := isL) (P := fun a => a1 fun b => extendQ a b Q) mf ho (by simp [plainArgs, hp]) (fun h => nomatch h) (snds_cons hx snds_nil (starEach_plain [] hp))
    F.plainAttrs_list F.slot_list_extend F.type_list_extend (fun zz zz zz zz => isL_ty) ?_ h
  intro a a' vs vs' H1 A s1 ok ra rvs hq
  obtain ⟨b, b', rfl, rfl, rb, l, l0, d, k, rfl, rfl, hne, el, ek, hz, q⟩ := one_arg rvs hq
  cases ra; cases rb
  obtain ⟨ws, ⟨k1, hl⟩, rl⟩ := ok.rh.obj _ _ el
  obtain ⟨us, ⟨k2, hu⟩, ru⟩ := ok.rh.obj _ _ ek
  have hlen := rl.length
  have hlen2 := ru.length
  refine call_meets F.slot_list_extend ⟨_, hl, rfl⟩ F.entry_list_extend (F.args_list_extend_2 _ _)
    (AutoSeq1.list_extend_list_list_0 l ws.toArray k1 d us.toArray k2 (by simp [Builtin.List.listTooLong, sizeLine]; lia) (by rw [sizeLine_eq]; simp; lia) (by rw [sizeLine_eq]; simp; lia)) ⟨hl, hu, ?_⟩
  obtain ⟨k', hk'⟩ := update_seq_at (fun x => x ++ us.toArray) hl
  exact EvP.setL (vs := ws ++ us) ok.rh s1.toks el (Heap.SameBut.update ..) ⟨k', by rw [hk']; simp⟩ (rl.append ru) .none q
theorem strEqL {h : Heap} {l : List V} {vs : List Value} {xs : List Str} (y : Str) (r : VRs h l vs) (e : strsOf l = some xs) : ∀ i : Nat, (vs[i]?).map (strEq y) = (xs[i]?).map fun x => decide (x = y) := by
  obtain ⟨h1, h2⟩ := strsOf_vrs r e
  intro i
  cases q : xs[i]? with
  | none =>
    have : vs[i]? = none := by rw [List.getElem?_eq_none_iff] at q ⊢; lia
    rw [this]; rfl
  | some x =>
    obtain ⟨t, e1⟩ := h2 i x q
    rw [e1]
    simp [strEq, beq_dec]
theorem snd_index {eo ee : Expr} {o x : X} {apos pos : Pos} (mf : MForm env eo "index" apos [ee] pos) (ho : Snd c n env eo o) (hx : Snd c n env ee x) (hp : starred ee = false) :
    Snd c n env (.Call (.Attribute eo "index" apos) [ee] [] pos) (.index o x) := by
  intro m Q H h
  refine bm_ev (xs := .cons x .nil) (guard := isL) (P := fun a => a1 fun b => indexQ a b Q) mf ho (by simp [plainArgs, hp]) (fun h => nomatch h) (snds_cons hx snds_nil (starEach_plain [] hp))
    F.plainAttrs_list F.slot_list_index F.type_list_index (fun zz zz zz zz => isL_ty) ?_ h
  intro a a' vs vs' H1 A s1 ok ra rvs hq
  obtain ⟨b, b', rfl, rfl, rb, l, l0, xs, y, i, rfl, el, hxs, rfl, hi, hz, q⟩ := one_arg rvs hq
  cases ra; cases rb
  obtain ⟨ws, ⟨k1, hl⟩, rl⟩ := ok.rh.obj _ _ el
  obtain ⟨hlen, _⟩ := strsOf_vrs rl hxs
  have eqv := strEqL y rl hxs
  obtain ⟨hlt, hit, hno⟩ := List.findIdx?_eq_some_iff_getElem.mp hi
  have at' : ∀ j (h1 : j < ws.length) (h2 : j < xs.length), strEq y ws[j] = decide (xs[j] = y) := fun j h1 h2 => by
    have := eqv j
    rw [List.getElem?_eq_getElem h1, List.getElem?_eq_getElem h2] at this
    simpa using this
  refine call_meets F.slot_list_index ⟨_, hl, rfl⟩ F.entry_list_index (F.args_list_index_2 _ _)
    (list_indexAt l ws.toArray k1 none #[] _ (strEq y) i (by simp; lia) (by lia) (by
      simp only [List.getElem_toArray]; rw [at' i (by lia) hlt]; simpa using hit) fun j hj hji => by
      simp only [List.getElem_toArray]; rw [at' j (by simpa using hj) (by lia)]; simpa using hno j hji)
    ⟨hl, fun v hv => eqAt_strEq (strs_mem rl hxs v (by simpa using hv)), ?_⟩
  exact EvP.val ok.rh _ (.int _ _) q
theorem strs_are {h : Heap} : ∀ {l : List V} {vs : List Value} {xs : List Str}, VRs h l vs → strsOf l = some xs → StrsAre vs xs
  | [], _, xs, .nil, e => by simp [strsOf] at e; subst e; exact .nil
  | v :: r, _, xs, .cons a b, e => by
    obtain ⟨y, ys, rfl, e1, rfl⟩ := strsOf_cons e
    cases a
    exact .cons _ _ (strs_are b e1)
theorem glue_nil : ∀ (l : List Str) (acc : Array Nat), l.foldl (fun acc p => acc ++ (⟨#[]⟩ : Str).cps ++ p.cps) acc = (acc.toList ++ l.flatMap fun x => x.cps.toList).toArray
  | [], acc => by simp
  | x :: r, acc => by
    rw [List.foldl_cons, glue_nil r]
    simp
theorem join_empty (xs : List Str) : Txt.join ⟨#[]⟩ xs = ⟨(xs.flatMap fun x => x.cps.toList).toArray⟩ := by
  show Builtin.Str.glued ⟨#[]⟩ xs = _
  unfold Builtin.Str.glued
  congr 1
  rw [glue_nil]
  cases xs with
  | nil => rfl
  | cons x r => simp
theorem snd_join {eo ee : Expr} {o x : X} {apos pos : Pos} (mf : MForm env eo "join" apos [ee] pos) (ho : Snd c n env eo o) (hx : Snd c n env ee x) (hp : starred ee = false) :
    Snd c n env (.Call (.Attribute eo "join" apos) [ee] [] pos) (.join o x) := by
  intro m Q H h
  refine bm_ev (xs := .cons x .nil) (guard := isS) (P := fun a => a1 fun b => joinQ a b Q) mf ho (by simp [plainArgs, hp]) (fun h => nomatch h) (snds_cons hx snds_nil (starEach_plain [] hp))
    F.plainAttrs_str F.slot_str_join F.type_str_join (fun zz zz zz zz => isS_ty) ?_ h
  intro a a' vs vs' H1 A s1 ok ra rvs hq
  obtain ⟨b, b', rfl, rfl, rb, l, l0, xs, rfl, rfl, el, hxs, hz, q⟩ := one_arg rvs hq
  cases ra; cases rb
  obtain ⟨ws, hl, rl⟩ := ok.rh.obj _ _ el
  have hs : StrsAre ws xs := strs_are rl hxs
  refine join_list hl.isList (by simpa using hs) ?_ fun t' k => ?_
  · show (xs.map (fun x => x.cps.size)).sum + xs.length * 0 ≤ _
    lia
  · exact EvP.val ok.rh _ (.str _ _) (by rw [join_empty]; exact q)
set_option tactic.hygienic true in
theorem snd_get {eo ek ed : Expr} {o k d : X} {apos pos : Pos} (C : CxOk c) (mf : MForm env eo "get" apos [ek, ed] pos) (ho : Snd c (n + 1) env eo o) (hk : Snd c (n + 1) env ek k) (hd : Snd c (n + 1) env ed d) (hp : starred ek = false) (hp2 : starred ed = false) :
    Snd c (n + 1) env (.Call (.Attribute eo "get" apos) [ek, ed] [] pos) (.get o k d) := by
  intro m Q H h
  refine bm_ev (xs := .cons k (.cons d .nil)) (guard := isD) (P := fun a => a2 fun b e => getQ a b e Q) mf ho (by simp [plainArgs, hp, hp2]) (fun h => nomatch h) (snds_cons hk (snds_cons hd snds_nil (starEach_plain [] hp2)) (starEach_plain _ hp))
    F.plainAttrs_dict F.slot_dict_get F.type_dict_get (fun zz zz zz zz => isD_ty) ?_ h
  intro a a' vs vs' H1 A s1 ok ra rvs hq
  obtain ⟨kv, kv', dv, dv', rfl, rfl, rk, rd, q⟩ := two_args rvs hq
  cases (q)
  · rename_i q; cases ra; cases rk
    obtain ⟨es, el, q⟩ := q
    obtain ⟨ws, hm, rl⟩ := ok.rh.obj _ _ el
    rename_i b i _
    refine call_meetsIn F.slot_dict_get (DictAt_mapOf hm).typeIs F.entry_dict_get (F.args_dict_get_3 _ _ _) (meets_dict_get_default (intKind c.prog c.w) b (int_is c.prog c.w i _) (Ok.not_mods C ok.rh el) dv') ⟨_, DictAt_mapOf hm, ?_⟩
    rcases look_zip es ws rl i with ⟨p, p'⟩ | ⟨x, x', p, p', r⟩
    · rw [p'] ; rw [p] at q; exact EvP.val ok.rh _ rd q
    · rw [p'] ; rw [p] at q; exact EvP.val ok.rh _ r q
  · rename_i q; rename_i b ki
    refine VR.tupE rk fun us ta it rva => ?_
    cases ra
    obtain ⟨es, ks, el, rfl, q⟩ := q
    obtain ⟨xs, hm, e, rl⟩ := ok.rh.obj _ _ el
    refine call_meetsIn F.slot_dict_get hm.typeIs F.entry_dict_get (F.args_dict_get_3 _ _ _) (meetsH_dict_get_default (tupleKind (intKind c.prog c.w)) b ta (Ok.not_mods C ok.rh el) dv')
      ⟨tupleKind_room_in1 (by have := ok.room.2.2; lia), ks, xs, tup_key it rva, hm, ?_⟩
    rcases look_atKey es xs e rl ks with ⟨p, p'⟩ | ⟨x, x', p, p', r⟩
    · rw [p'] ; rw [p] at q; exact EvP.val ok.rh _ rd q
    · rw [p'] ; rw [p] at q; exact EvP.val ok.rh _ r q
section
variable {prog : Program} {w : World} {K : Type} [DecidableEq K] {knd : KeyKind prog w K} {E : Value → Shared → Prop}
theorem dictSet_at {d : Addr} {kvs : List (K × Value)} {ep : Nat} {k : K} {key v : Value} {Q : Unit → Shared → Prop} (hkey : knd.is k key = true) (hm : s.heap.DictAt knd d kvs ep) (hsz : kvs.length ≤ sizeLine)
    (hQ : ∀ h', h'.DictAt knd d (stored kvs k v) (if kvs.any (fun kv => kv.1 = k) then ep else ep + 1) → Heap.SameBut d s.heap h' → Q () { s with heap := h', toks := s.toks + 1 }) :
    wpAny (model prog w) A (dictSet d key v) Q E s := by
  obtain ⟨o, es, ho, hc, hd, hk, hp, hn⟩ := hm
  have hes : es.size ≤ sizeLine := by
    have e1 := hp.length
    have e2 : es.toList.length = es.size := by simp
    lia
  unfold dictSet
  try with_reducible refine wpAny_holding ?_
  refine wpAny_bind (knd.pyHash hkey ?_)
  unfold dictSetHashed
  try with_reducible refine wpAny_holding ?_
  refine wpAny_bind (wpAny_dictFind_of (s := { s with toks := s.toks + 1 }) hkey ho hd hk ?_)
  have hidx : (es.findIdx? fun e => knd.is k e.key) = kvs.findIdx? fun kv => decide (kv.1 = k) := by
    rw [← hp.findIdx k]; obtain ⟨l⟩ := es; simp
  cases hi : es.findIdx? fun e => knd.is k e.key with
  | some i =>
    have hany := any_of_findIdx_some (hidx ▸ hi)
    rw [if_pos hany] at hQ
    refine wpAny_bind (wpAny_rule (wpAny_bind (wpAny_updateDict (s := { s with toks := s.toks + 1 }) ho hd (wpAny_point (hQ _ ⟨_, _, Heap.get?_update_self _ ho (Obj.isFreed_of_dict (Obj.data_mapDict hd _)),
      hc.mapDict _, Obj.data_mapDict hd _, hk.modify _ _, ?_, ?_⟩ (Heap.SameBut.update ..))))))
    · rw [stored, if_pos hany]
      have hl : (es.toList.findIdx? fun e => knd.is k e.key) = some i := by rw [← hi]; obtain ⟨l⟩ := es; simp
      have := hp.modify hn hl v
      obtain ⟨l⟩ := es
      simpa using this
    · rw [stored, if_pos hany, keys_map_store]; exact hn
  | none =>
    have hnot : k ∉ kvs.map (fun zz => zz.1) := not_mem_of_findIdx_none (hidx ▸ hi)
    have hany : ¬ (kvs.any fun kv => decide (kv.1 = k)) = true := by
      rw [List.any_eq_true]; rintro ⟨kv, hkv, he⟩
      exact hnot (List.mem_map.mpr ⟨kv, hkv, of_decide_eq_true he⟩)
    rw [if_neg hany] at hQ
    refine wpAny_bind (wpAny_rule (wpAny_updateDictKeys (hz := hes) (s := { s with toks := s.toks + 1 }) ho hd (hQ _ ⟨_, _, Heap.get?_update_self _ ho (Obj.isFreed_of_dict (Obj.data_mapDictKeys hd _)),
      hc.mapDictKeys _, Obj.data_mapDictKeys hd _, hk.push hkey _, ?_, ?_⟩ (Heap.SameBut.update ..))))
    · rw [stored, if_neg hany]
      have := hp.append hkey (knd.hash k) v
      obtain ⟨l⟩ := es
      simpa using this
    · rw [stored, if_neg hany, List.map_append, List.nodup_append]
      refine ⟨hn, by simp, fun a ha b hb e => ?_⟩
      simp only [List.map_cons, List.map_nil, List.mem_singleton] at hb
      subst hb
      exact hnot (e ▸ ha)
theorem setItem_at {d : Addr} {kvs : List (K × Value)} {ep : Nat} {k : K} {key v : Value} {Q : Unit → Shared → Prop} (hkey : knd.is k key = true) (hm : s.heap.DictAt knd d kvs ep) (hsz : kvs.length ≤ sizeLine)
    (hQ : ∀ h', h'.DictAt knd d (stored kvs k v) (if kvs.any (fun kv => kv.1 = k) then ep else ep + 1) → Heap.SameBut d s.heap h' → Q () { s with heap := h', toks := s.toks + 1 }) :
    wpAny (model prog w) A (setItem (.ref d) key v) Q E s := by
  have hT := hm.dictOf.typeIs
  unfold setItem
  try with_reducible refine wpAny_holding ?_
  refine wpAny_bind (wpAny_sequenceKey hT (by decide) ?_)
  refine wpAny_bind (wpAny_callSpecial?_slot (name := Str.ofString "__setitem__") hT slot_dict_setitem
    (wpAny_call_entry slot_dict_setitem hT entry_dict_setitem ?_ (args_dict_setitem _ _ _)))
  show wpAny _ _ (Builtin.Dict.notOrdered "__setitem__" ⟨[.ref d, key, v], []⟩ >>= _) _ _ s
  refine wpAny_bind (wpAny_notOrdered_dict hT ?_)
  show wpAny _ _ (dictSet d key v >>= _) _ _ s
  exact wpAny_bind (dictSet_at hkey hm hsz fun h' hm' hs' => wpAny_pure ⟨.none, rfl, wpAny_pure (hQ h' hm' hs')⟩)
theorem dictSetDefault_at {d : Addr} {kvs : List (K × Value)} {ep : Nat} {k : K} {key dflt : Value} {Q : Value → Shared → Prop} (hkey : knd.is k key = true) (hm : s.heap.DictAt knd d kvs ep) (hsz : kvs.length ≤ sizeLine)
    (h1 : ∀ v, valueAt kvs k = some v → Q v { s with toks := s.toks + 1 })
    (h2 : valueAt kvs k = none → ∀ h', h'.DictAt knd d (kvs ++ [(k, dflt)]) (ep + 1) → Heap.SameBut d s.heap h' → Q dflt { s with heap := h', toks := s.toks + 1 }) :
    wpAny (model prog w) A (dictSetDefault d key dflt) Q E s := by
  have hmap := DictAt_mapOf hm
  obtain ⟨o, es, ho, hc, hd, hk, hp, hn⟩ := hm
  have hes : es.size ≤ sizeLine := by
    have e1 := hp.length
    have e2 : es.toList.length = es.size := by simp
    lia
  have hf : ∀ x, findBy knd.is es x = valueAt kvs x := by
    obtain ⟨o', es', ep', ho', _, hd', _, hf⟩ := hmap
    rw [ho] at ho'; cases ho'
    rw [hd] at hd'; cases hd'
    exact hf
  unfold dictSetDefault
  try with_reducible refine wpAny_holding ?_
  refine wpAny_bind (knd.pyHash hkey ?_)
  refine wpAny_bind (wpAny_dictFind_of (s := { s with toks := s.toks + 1 }) hkey ho hd hk ?_)
  have hidx : (es.findIdx? fun e => knd.is k e.key) = kvs.findIdx? fun kv => decide (kv.1 = k) := by
    rw [← hp.findIdx k]; obtain ⟨l⟩ := es; simp
  cases hi : es.findIdx? fun e => knd.is k e.key with
  | some i =>
    have hfk : valueAt kvs k = (es[i]?).map (fun zz => zz.val) := by rw [← hf k, findBy_of_findIdx?, hi]
    refine wpAny_bind (wpAny_dictEntries (s := { s with toks := s.toks + 1 }) ho hd ?_)
    cases he : es[i]? with
    | none =>
      exfalso
      have hlt : i < es.size := (Array.findIdx?_eq_some_iff_findIdx_eq.mp hi).1
      rw [Array.getElem?_eq_getElem hlt] at he
      exact nomatch he
    | some e =>
      rw [he] at hfk
      exact wpAny_bind (wpAny_rule (wpAny_pure (h1 e.val hfk)))
  | none =>
    have hfk : valueAt kvs k = none := by rw [← hf k, findBy_of_findIdx?, hi]
    have hnot : k ∉ kvs.map (fun zz => zz.1) := not_mem_of_findIdx_none (hidx ▸ hi)
    refine wpAny_bind (wpAny_rule (wpAny_bind (wpAny_updateDictKeys (hz := hes) (s := { s with toks := s.toks + 1 }) ho hd (wpAny_pure (h2 hfk _ ⟨_, _, Heap.get?_update_self _ ho (Obj.isFreed_of_dict (Obj.data_mapDictKeys hd _)),
      hc.mapDictKeys _, Obj.data_mapDictKeys hd _, hk.push hkey _, ?_, ?_⟩ (Heap.SameBut.update ..))))))
    · have := hp.append hkey (knd.hash k) dflt
      obtain ⟨l⟩ := es
      simpa using this
    · rw [List.map_append, List.nodup_append]
      refine ⟨hn, by simp, fun a ha b hb e => ?_⟩
      simp only [List.map_cons, List.map_nil, List.mem_singleton] at hb
      subst hb
      exact hnot (e ▸ ha)
theorem meets_setdefault_at {k : K} {key : Value} (d : Addr) (hkey : knd.is k key = true) (hd : (d == sysModules) = false) (dflt : Value) :
    MeetsIn prog w (Builtin.«dict.setdefault» ⟨[.ref d, key, dflt], []⟩) (fun zz R s => ∃ kvs ep, s.heap.DictAt knd d kvs ep ∧ kvs.length ≤ sizeLine ∧
      (∀ v, valueAt kvs k = some v → R (.ok (.ret v)) { s with toks := s.toks + 1 }) ∧
      (valueAt kvs k = none → ∀ h', h'.DictAt knd d (kvs ++ [(k, dflt)]) (ep + 1) → Heap.SameBut d s.heap h' → R (.ok (.ret dflt)) { s with heap := h', toks := s.toks + 1 })) :=
  .of_wp fun A R s ⟨kvs, ep, hm, hz, h1, h2⟩ => by
    unfold Builtin.«dict.setdefault»
    refine wpAny_bind ?_
    unfold Builtin.Dict.keyAndDefault
    refine wpAny_bind (wpAny_notOrdered_dict hm.dictOf.typeIs ?_)
    show wpAny _ _ (pure (d, key, some dflt)) _ _ s
    refine wpAny_pure ?_
    show wpAny _ _ (if (d == sysModules) = true then _ else (dictSetDefault d key dflt >>= _)) _ _ s
    rw [if_neg (by rw [hd]; exact Bool.false_ne_true)]
    exact wpAny_bind (dictSetDefault_at hkey hm hz (fun v hv => wpAny_pure ⟨v, rfl, h1 v hv⟩) fun hn h' hm' hs' => wpAny_pure ⟨dflt, rfl, h2 hn h' hm' hs'⟩)
end
theorem zip_app {α β : Type} {l : List α} {k : List β} (h : k.length = l.length) (a : α) (b : β) : l.zip k ++ [(a, b)] = (l ++ [a]).zip (k ++ [b]) := by
  rw [List.zip_append h.symm]; rfl
theorem snd_setd {eo ek ed : Expr} {o k d : X} {apos pos : Pos} (C : CxOk c) (mf : MForm env eo "setdefault" apos [ek, ed] pos) (ho : Snd c n env eo o) (hk : Snd c n env ek k) (hd : Snd c n env ed d) (hp : starred ek = false) (hp2 : starred ed = false) :
    Snd c n env (.Call (.Attribute eo "setdefault" apos) [ek, ed] [] pos) (.setd o k d) := by
  intro m Q H h
  refine bm_ev (xs := .cons k (.cons d .nil)) (guard := isD) (P := fun a => a2 fun b e => setdQ a b e Q) mf ho (by simp [plainArgs, hp, hp2]) (fun h => nomatch h) (snds_cons hk (snds_cons hd snds_nil (starEach_plain [] hp2)) (starEach_plain _ hp))
    F.plainAttrs_dict F.slot_dict_setdefault F.type_dict_setdefault (fun zz zz zz zz => isD_ty) ?_ h
  intro a a' vs vs' H1 A s1 ok ra rvs hq
  obtain ⟨kv, kv', dv, dv', rfl, rfl, rk, rd, b, i, es, rfl, rfl, el, hz, q⟩ := two_args rvs hq
  cases ra; cases rk
  obtain ⟨ws, hm, rl⟩ := ok.rh.obj _ _ el
  have hlen := rl.length
  refine call_meetsIn F.slot_dict_setdefault hm.dictOf.typeIs F.entry_dict_setdefault (F.args_dict_setdefault_3 _ _ _) (meets_setdefault_at (knd := intKind c.prog c.w) b (int_is c.prog c.w i _) (Ok.not_mods C ok.rh el) dv')
    ⟨_, _, hm, by rw [sizeLine_eq]; simp; lia, fun v hv => ?_, fun hv h' hm' hs' => ?_⟩
  · rcases look_zip es ws rl i with ⟨p, p'⟩ | ⟨x, x', p, p', r⟩
    · rw [p'] at hv; cases hv
    · rw [p'] at hv; cases hv
      rw [p] at q; exact EvP.val ok.rh _ r q
  · rcases look_zip es ws rl i with ⟨p, p'⟩ | ⟨x, x', p, p', r⟩
    · rw [p] at q
      refine EvP.setD (es := es ++ [(i, dv)]) (vs := ws ++ [dv']) ok.rh _ el hs' ?_ ?_ rd q
      · rw [zip_app (by simp at hlen ⊢; lia)] at hm'
        simpa using hm'
      · simpa using rl.append (.cons rd .nil)
    · rw [p'] at hv; cases hv
end
end Mine
set_option tactic.hygienic false
open PySem PySem.W PySem.Calls PyProof PyProof.Rows PySem.SeqAt
set_option maxRecDepth 100000
namespace Mine
section
variable {c : Cx} {n : Nat} {env : Env} {m : Lo} {H H' : Hp} {A : Around} {s s' s'' : Shared}
theorem EvP.lst2 {Q : V → Hp → Prop} {l : List V} {vs : List Value} {ob : Obj} (rh : RH c.prog c.w c.base H s.heap) (t : Nat) (r : VRs s.heap l vs) (q : ∀ d, H d = none → Q (.ref d) (H.put d (.list l))) :
    EvP c Q H s (.ref (s.heap.push ob).objs.size) { s with heap := (s.heap.push ob).push { cls := .type "list", data := .seq vs.toArray 0 }, toks := t } :=
  (EvP.lst (s := { s with heap := s.heap.push ob }) (rh.push ob) t (r.sta (Sta.push _ _)) q).after (Stp.push ob s.toks)
set_option tactic.hygienic true in
theorem snd_cutTo {eo ei : Expr} {o i : X} {p pos : Pos} (ho : Snd c n env eo o) (hi : Snd c n env ei i) : Snd c n env (.Subscript eo (.Slice none (some ei) none p) pos) (.cutTo o i) := by
  intro m Q H h A s ok
  refine Subscript_ (wpAny_mono (ho _ _ _ h A s ok) ?_ fun zz zz e => e)
  rintro o' s1 ⟨ov, H1, r1, rh1, st1, q1⟩
  have ok1 := ok.step rh1 st1
  refine wpAny_Slice (evalPart_none_step (evalPart_some_step (wpAny_mono (hi _ _ _ q1 A s1 ok1) ?_ fun zz zz e => e)))
  rintro i' s2 ⟨iv, H2, r2, rh2, st2, q2⟩
  refine evalPart_none_step ?_
  have st := st1.trans st2
  have r1' := r1.sta st2.sta
  cases (q2)
  · rename_i q2; cases r1'; cases r2
    obtain ⟨l, el, hz, h0, q⟩ := q2
    obtain ⟨vs, hl, rl⟩ : ∃ vs : List Value, s2.heap.PlainList _ vs.toArray ∧ VRs s2.heap l vs := el.elim (fun e => rh2.obj _ _ e) (fun e => rh2.obj _ _ e)
    have hlen := rl.length
    rename_i a k u
    refine sub_ok (Heap.IsList.typeIs (s := { s2 with heap := s2.heap.push _ }) (hl.isList.push _)) slot_list_getitem.lookup
      (wpAny_getItem_list_slice (hl.isList.push _) (Heap.IsSliceOf.new ..) .none (.int k u) .none (by simp) ?_ (by rw [sizeLine_eq]; simp; lia))
    rw [show k = (k.toNat : Int) by lia, slicePick_upto']
    exact (EvP.lst2 rh2 s2.toks (rl.take k.toNat) q).after st
  · rename_i q2; cases r1'; cases r2
    obtain ⟨⟨hz, rfl⟩, q⟩ := q2
    rename_i x t u
    refine sub_ok (typeIs_str _ x t) slot_str_getitem.lookup (wpAny_getItem_str_slice (l := none) (u := some (1, u)) (st := none) ⟨_, Heap.get?_push_size _ rfl, rfl, rfl⟩ rfl ?_)
    have e : (Builtin.Str.strSliceIndices none (some 1) 1 x.length).length = x.length := by
      show (Builtin.Str.strSliceIndices none (some 1) 1 x.cps.size).length = x.cps.size
      rw [hz]; decide
    unfold sliceMade
    rw [if_pos (by unfold slicePicked; simpa using e)]
    exact ((EvP.val0 (s := { s2 with heap := s2.heap.push _ }) (rh2.push _) (.str x t) q).after (Stp.push _ s2.toks)).after st
set_option tactic.hygienic true in
theorem snd_cutFrom {eo ei : Expr} {o i : X} {p pos : Pos} (ho : Snd c n env eo o) (hi : Snd c n env ei i) : Snd c n env (.Subscript eo (.Slice (some ei) none none p) pos) (.cutFrom o i) := by
  intro m Q H h A s ok
  refine Subscript_ (wpAny_mono (ho _ _ _ h A s ok) ?_ fun zz zz e => e)
  rintro o' s1 ⟨ov, H1, r1, rh1, st1, q1⟩
  have ok1 := ok.step rh1 st1
  refine wpAny_Slice (evalPart_some_step (wpAny_mono (hi _ _ _ q1 A s1 ok1) ?_ fun zz zz e => e))
  rintro i' s2 ⟨iv, H2, r2, rh2, st2, q2⟩
  refine evalPart_none_step (evalPart_none_step ?_)
  have st := st1.trans st2
  have r1' := r1.sta st2.sta
  cases (q2)
  · rename_i q2; cases r1'; cases r2
    obtain ⟨l, el, hz, h0, q⟩ := q2
    obtain ⟨vs, hl, rl⟩ := rh2.obj _ _ el
    have hlen := rl.length
    rename_i a k u
    refine sub_ok (Heap.IsList.typeIs (s := { s2 with heap := s2.heap.push _ }) (hl.isList.push _)) slot_list_getitem.lookup
      (wpAny_getItem_list_slice (hl.isList.push _) (Heap.IsSliceOf.new ..) (.int k u) .none .none (by simp) ?_ (by rw [sizeLine_eq]; simp; lia))
    rw [show k = (k.toNat : Int) by lia, slicePick_from']
    exact (EvP.lst2 rh2 s2.toks (rl.drop k.toNat) q).after st
theorem snd_neg {i : Int} {k : Nat} {p pos : Pos} : Snd c n env (.UnaryOp .USub (.Constant (.int i) k p) pos) (.neg i) := by
  intro m Q H q A s ok
  refine wpAny_UnaryOp ?_
  show wpAny _ A (constValue env (.int i)) _ _ s
  exact wpAny_mkInt (PySem.P.neg_int ((EvP.val (s := { s with toks := s.toks + 1 }) ok.rh _ (.int _ _) q).after (Stp.toks _)))
set_option tactic.hygienic true in
theorem snd_rev {eo : Expr} {o : X} {p p1 p2 pos : Pos} {k : Nat} (ho : Snd c n env eo o) : Snd c n env (.Subscript eo (.Slice none none (some (.UnaryOp .USub (.Constant (.int 1) k p1) p2)) p) pos) (.rev o) := by
  intro m Q H h A s ok
  refine Subscript_ (wpAny_mono (ho _ _ _ h A s ok) ?_ fun zz zz e => e)
  rintro o' s1 ⟨ov, H1, r1, rh1, st1, q1⟩
  have ok1 := ok.step rh1 st1
  refine wpAny_Slice (evalPart_none_step (evalPart_none_step (evalPart_some_step ?_)))
  refine wpAny_mono (snd_neg m (fun v H2 => v = .int (-1) ∧ H2 = H1) H1 ⟨rfl, rfl⟩ A s1 ok1) ?_ fun zz zz e => e
  rintro i' s2 ⟨iv, H2, r2, rh2, st2, rfl, rfl⟩
  have st := st1.trans st2
  have r1' := r1.sta st2.sta
  obtain ⟨a, l, rfl, el, hz, q⟩ := q1
  cases r1'; cases r2
  obtain ⟨vs, hl, rl⟩ := rh2.obj _ _ el
  have hlen := rl.length
  rename_i u
  refine sub_ok (Heap.IsList.typeIs (s := { s2 with heap := s2.heap.push _ }) (hl.isList.push _)) slot_list_getitem.lookup
    (wpAny_getItem_list_slice (hl.isList.push _) (Heap.IsSliceOf.new ..) .none .none (.int (-1) u) (by simp) ?_ (by rw [sizeLine_eq]; simp; lia))
  rw [krv_pick]
  exact (EvP.lst2 rh2 s2.toks rl.reverse q).after st
theorem isStr_key {e : DictEntry} {x : Str} {t : Tok} (h : e.key = .str x t) (y : Str) : e.key.isStr y = decide (x = y) := by
  rw [h]
  show (x == y) = _
  rw [beq_dec]
theorem FsR.getL {P : Params} {h : Heap} {f : Str} : ∀ {fs : List (Str × V)} {es : List DictEntry}, FsR P h fs es →
    (lk fs f = none ∧ PySem.W.getL f es = some none) ∨ ∃ v v', lk fs f = some v ∧ PySem.W.getL f es = some (some v') ∧ VR h v v' ∧ handedIn v' = true := by
  intro fs es hh
  induction hh with
  | nil => exact .inl ⟨rfl, rfl⟩
  | @cons x v fs e es t a b d r ih =>
    by_cases q : x = f
    · subst q
      refine .inr ⟨v, e.val, by simp [lk], ?_, b, d⟩
      unfold PySem.W.getL
      rw [List.find?_cons, isStr_key a, decide_eq_true rfl]
    · have e1 : lk ((x, v) :: fs) f = lk fs f := by simp [lk, q]
      have e2 : PySem.W.getL f (e :: es) = PySem.W.getL f es := by
        unfold PySem.W.getL
        rw [List.find?_cons, isStr_key a, decide_eq_false q]
        have : e.refKey = false := by unfold DictEntry.refKey; rw [a]
        simp [this]
      rw [e1, e2]; exact ih
theorem FsR.put {P : Params} {h : Heap} {f : Str} {v : V} {v' : Value} {hs : Int} {t : Tok} (rv : VR h v v') (hv : handedIn v' = true) : ∀ {fs : List (Str × V)} {es : List DictEntry}, FsR P h fs es →
    FsR P h (putF fs f v) (putL f hs (.str f t) v' es) := by
  intro fs es hh
  induction hh with
  | nil => exact .cons rfl rv hv .nil
  | @cons x u fs e es t a b d r ih =>
    by_cases q : x = f
    · subst q
      simp only [putF, putL, isStr_key a, decide_true, if_true]
      exact .cons a rv hv r
    · simp only [putF, putL, isStr_key a, q, decide_false, if_false, Bool.false_eq_true]
      exact .cons a b d ih
theorem FsR.length {P : Params} {h : Heap} : ∀ {fs : List (Str × V)} {es : List DictEntry}, FsR P h fs es → es.length = fs.length := by
  intro fs es hh
  induction hh with
  | nil => rfl
  | cons _ _ _ _ ih => simp [ih]
theorem putF_length (f : Str) (v : V) : ∀ fs : List (Str × V), (putF fs f v).length ≤ fs.length + 1
  | [] => by simp [putF]
  | (x, u) :: r => by
    unfold putF
    split
    · simp
    · simpa using putF_length f v r
noncomputable def AForm (env : Env) (o : Expr) (f : Str) (pos : Pos) : Prop := eval (.Attribute o f pos) env = (do
      let ov ← eval o env
      standAt pos.atName
      let r ← holding [ov] (getAttr ov f true)
      letTemporaryGo o ov r
      pure r)
theorem RH.inst {a C dx : Addr} {fs : List (Str × V)} (rh : RH c.prog c.w c.base H s.heap) (e : H a = some (.inst C dx fs)) :
    ∃ sl es k, InstAt s.heap a ⟨.ref C, some dx, .plain, sl⟩ C (some (dictOf es k)) ∧ FsR c.w.params s.heap fs es := by
  obtain ⟨⟨sl, h1⟩, es, k, h2, r⟩ := rh.obj _ _ e
  exact ⟨sl, es, k, ⟨h1, rfl, rfl, h2⟩, r⟩
theorem kin_of (C : CxOk c) (rh : RH c.prog c.w c.base H s.heap) : c.K.In s.heap := C.kin.keeps fun b o e => (rh.base b o e).1
theorem snd_attr {eo : Expr} {o : X} {f : Str} {pos : Pos} (C : CxOk c) (af : AForm env eo f pos) (ho : Snd c n env eo o) : Snd c n env (.Attribute eo f pos) (.attr o f) := by
  intro m Q H h A s ok
  refine Attribute_any_ (wpAny_mono (ho _ _ _ h A s ok) ?_ fun zz zz e => e) af
  rintro o' s1 ⟨ov, H1, r1, rh1, st1, a, Cl, dx, fs, v, rfl, el, hf, hl, q⟩
  cases r1
  obtain ⟨sl, es, k, I, fr⟩ := RH.inst rh1 el
  obtain ⟨hg, hh, ⟨attr, ha, hn⟩, _⟩ := C.fld _ _ hf
  rcases FsR.getL (f := f) fr with ⟨p, _⟩ | ⟨u, u', p, p', r, hd⟩
  · rw [p] at hl; cases hl
  · rw [p] at hl; cases hl
    exact get_value (kin_of C rh1) I (plainGet_of hg).1 (findObj_own hh ha hn p') hd ((EvP.val rh1 _ r q).after st1)
theorem snd_meth {eo : Expr} {o : X} {f : Str} {apos pos : Pos} {es : List Expr} {xs : Xs} (C : CxOk c) (mf : MForm env eo f apos es pos) (ho : Snd c n env eo o) (hp : plainArgs es = true) (hx : es = [] → xs = .nil) (h2 : Snds c n env es xs) :
    Snd c n env (.Call (.Attribute eo f apos) es [] pos) (.meth o f xs) := by
  intro m Q H h A s ok
  obtain ⟨pl, he⟩ := mf
  refine MethodCall_ (pl := pl) ?_ he
  refine wpAny_mono (ho _ _ _ h A s ok) ?_ fun zz zz e => e
  rintro o' s1 ⟨ov, H1, r1, rh1, st1, a, Cl, dx, fs, g, rfl, el, hl, hm, q1⟩
  cases r1
  have ok1 := ok.step rh1 st1
  obtain ⟨sl, es', k, I, fr⟩ := RH.inst rh1 el
  obtain ⟨hg, hf, ht, hk⟩ := C.mth _ _ _ hm
  have hl' : PySem.W.getL f es' = some none := by
    rcases FsR.getL (f := f) fr with ⟨_, p⟩ | ⟨u, u', p, _⟩
    · exact p
    · rw [p] at hl; cases hl
  refine method_fn (kin_of C rh1) I (plainGet_of hg).1 (plainGet_of hg).2 hf (beq_iff_eq.mp ht) (by show (lookIn f (dictOf es' k)).map _ = _; rw [lookIn_dict, hl']; rfl) ?_
  refine wpAny_mono (call_seq (first := [.ref a]) (kp_K C hk) hp hx h2 q1 ok1 fun vs vs' H2 s2 ok2 st2 r2 q2 => ?_) (fun zz zz p => p.after st1) fun zz zz e => e
  refine wpAny_call (codeAny_mono (q2 A s2 (.ref g) (.ref a :: vs') ok2.room ok2.rh (.fn _) (.cons (.ref a) r2)) ?_)
  rintro r s3 ⟨v', rfl, p⟩
  exact p
theorem snd_call {id : Str} {p pos : Pos} {es : List Expr} {xs : Xs} {f : Value} (C : CxOk c) (E : EnvOk env) (B : Bnm c env id f) (hp : plainArgs es = true) (hx : es = [] → xs = .nil) (h2 : Snds c n env es xs) :
    Snd c n env (.Call (.Name id p) es [] pos) (.call (.glob id (.fn f)) xs) := by
  intro m Q H h
  refine fn_ev (P := fun vs => CallOK c n (.fn f) vs Q) C E B.glo B.kind B.dbg B.keep hp hx h2 h fun vs vs' H1 A s1 ok r q => ?_
  refine wpAny_call (codeAny_mono (q A s1 f vs' ok.room ok.rh (.fn _) r) ?_)
  rintro r s3 ⟨v', rfl, p⟩
  exact p
theorem are_ints {h : Heap} : ∀ {ks : List Int} {vs : List Value}, IntsAre vs ks → VRs h (ks.map V.int) vs
  | _, _, .nil => .nil
  | _, _, .cons n t r => .cons (.int n t) (are_ints r)
theorem ints_ptw : ∀ (us : List Value) (ks : List Int), us.length = ks.length → (∀ (j : Nat) (v : Value), us[j]? = some v → ∃ k t, ks[j]? = some k ∧ v = .int k t) → IntsAre us ks
  | [], [], _, _ => .nil
  | u :: us, k :: ks, e, h => by
    obtain ⟨k', t, e1, rfl⟩ := h 0 u rfl
    cases e1
    exact .cons _ _ (ints_ptw us ks (by simpa using e) fun j v hj => h (j + 1) v hj)
theorem un_sorted (C : CxOk c) {Q : V → Hp → Prop} : Un c n env m (fun v => call (.builtin "sorted") [v]) (fun a => sortedQ a Q) Q := by
  rintro H A s v v' ok rv ⟨a, es, rfl, el, hz, q⟩
  cases rv
  obtain ⟨vs, hd, rl⟩ := ok.rh.obj _ _ el
  have hlen := rl.length
  have hl2 : vs.length = es.length := by simpa using hlen
  refine Calls.call_function_entry kind_sorted plain_sorted entry_sorted (args_sorted1 _) ?_
  unfold Builtin.«sorted»
  refine wpAny_bind (m := PySem.checkCount "sorted" 1 1 _) (wpAny_pure ?_)
  refine wpAny_bind (kdu_collect (A := A.in1) (kdl_dict (Ok.not_mods C ok.rh el)) ok.room.1 hd (by rw [sizeLine_eq]; simp; lia) fun h' tk acc hk hacc => ?_)
  have hal : acc.toList.length = es.length := by rw [Array.length_toList, hacc.1]; simp; lia
  refine wpAny_bind (wpAny_newList ?_ (by rw [hal, sizeLine_eq]; lia))
  have hoL : (h'.push (seqObj "list" acc.toList.toArray 0)).get? h'.objs.size = some (seqObj "list" acc.toList.toArray 0) := Heap.get?_push_size _ rfl
  have hI : IntsAre acc.toList (es.map (fun zz => zz.1)) := by
    refine ints_ptw _ _ (by simp [hal]) fun j u hu => ?_
    obtain ⟨k, x, e1, e2⟩ := hacc.2 j u (by rw [← Array.getElem?_toList]; exact hu)
    obtain ⟨t, rfl⟩ := Value.isInt_shape e2
    rw [List.getElem?_zip_eq_some] at e1
    exact ⟨k, t, e1.1, rfl⟩
  refine wpAny_bind (wpAny_holding (wpAny_call_entry slot_list_sort ⟨_, hoL, rfl⟩ entry_list_sort (list_sort_tree hoL hI (by rw [hal]; exact hz) fun out ns' a1 a2 a3 => ⟨_, rfl, ?_⟩) (args_list_sort _)))
  refine wpAny_pure ⟨_, rfl, ?_⟩
  obtain ⟨e, he⟩ := sortedHeap_at (out := out) hoL
  have hlt : ∀ b o, h'.get? b = some o → b < h'.objs.size := fun b o e => Heap.lt_size e
  refine EvP.lstG ok.rh _ (fun b o eb => ?_) ?_ ⟨e, he⟩ (are_ints a1) fun d hd => q d ns' a2 a3 hd
  · have hb := hk b o eb
    rw [sortedHeap_old (Nat.ne_of_lt (hlt _ _ hb)) (by rw [size_push']; exact Nat.lt_succ_of_lt (hlt _ _ hb))]
    exact Heap.get?_push_of_some _ hb
  · cases qq : s.heap.get? h'.objs.size with
    | none => rfl
    | some o => exact absurd (hlt _ _ (hk _ _ qq)) (Nat.lt_irrefl _)
end
end Mine
set_option tactic.hygienic false
open PySem PySem.W PySem.Calls PyProof PyProof.Rows PySem.SeqAt
set_option maxRecDepth 100000
namespace Mine
section
variable {K : Type} [DecidableEq K]
theorem any_iff_lk (es : List (K × V)) (vs : List Value) (h : vs.length = es.length) (k : K) : ((es.map (fun zz => zz.1)).zip vs).any (fun kv => decide (kv.1 = k)) = es.any (fun e => decide (e.1 = k)) := by
  induction es generalizing vs with
  | nil => rfl
  | cons e es ih =>
    cases vs with
    | nil => simp at h
    | cons v vs => simp [ih vs (by simpa using h)]
theorem put_zip {h : Heap} {k : K} {v : V} {v' : Value} (rv : VR h v v') : ∀ (es : List (K × V)) (vs : List Value), VRs h (es.map (fun zz => zz.2)) vs →
    ∃ ws, ((es.map (fun zz => zz.1)).zip vs).map (fun kv => if kv.1 = k then (kv.1, v') else kv) = ((es.map (fun e => if e.1 = k then (e.1, v) else e)).map (fun zz => zz.1)).zip ws ∧
      VRs h ((es.map (fun e => if e.1 = k then (e.1, v) else e)).map (fun zz => zz.2)) ws
  | [], _, .nil => ⟨[], rfl, .nil⟩
  | (a, u) :: r, _, .cons (v' := u') x y => by
    obtain ⟨ws, e, z⟩ := put_zip (k := k) rv r _ y
    by_cases q : a = k
    · subst q
      refine ⟨v' :: ws, ?_, ?_⟩
      · simpa using e
      · simp only [List.map_cons, if_true]; exact .cons rv z
    · refine ⟨u' :: ws, ?_, ?_⟩
      · simp only [List.map_cons, List.zip_cons_cons, if_neg q]; rw [e]
      · simp only [List.map_cons, if_neg q]; exact .cons x z
theorem putI_stored {h : Heap} {k : K} {v : V} {v' : Value} (rv : VR h v v') (es : List (K × V)) (vs : List Value) (r : VRs h (es.map (fun zz => zz.2)) vs) :
    ∃ ws, stored ((es.map (fun zz => zz.1)).zip vs) k v' = ((putI es k v).map (fun zz => zz.1)).zip ws ∧ VRs h ((putI es k v).map (fun zz => zz.2)) ws ∧
      (if ((es.map (fun zz => zz.1)).zip vs).any (fun kv => decide (kv.1 = k)) then es.length else es.length + 1) = (putI es k v).length := by
  have hl : vs.length = es.length := by simpa using r.length
  unfold stored putI
  rw [any_iff_lk es vs hl k]
  by_cases q : es.any (fun e => decide (e.1 = k)) = true
  · rw [if_pos q, if_pos q, if_pos q]
    obtain ⟨ws, e, z⟩ := put_zip (k := k) rv es vs r
    exact ⟨ws, e, z, by simp⟩
  · rw [if_neg q, if_neg q, if_neg q]
    exact ⟨vs ++ [v'], by rw [zip_app (by simp [hl])]; simp, by simpa using r.append (.cons rv .nil), by simp⟩
theorem put_heap {h : Heap} {k : List Int} {a : Addr} {v : V} {v' : Value} (rv : VR h v v') : ∀ (es : List (List Int × V)) (xs : List (List Int × Addr × Value)), xs.map (fun zz => zz.1) = es.map (fun zz => zz.1) → VRs h (es.map (fun zz => zz.2)) (xs.map (fun zz => zz.2.2)) →
    (xs.map (putAt k v')).map (fun zz => zz.1) = (es.map (fun e => if e.1 = k then (e.1, v) else e)).map (fun zz => zz.1) ∧
      VRs h ((es.map (fun e => if e.1 = k then (e.1, v) else e)).map (fun zz => zz.2)) ((xs.map (putAt k v')).map (fun zz => zz.2.2))
  | [], [], _, _ => ⟨rfl, .nil⟩
  | [], _ :: _, e, _ => by simp at e
  | _ :: _, [], e, _ => by simp at e
  | (b, u) :: r, (b', p) :: xs, e, .cons x y => by
    simp only [List.map_cons, List.cons.injEq] at e
    obtain ⟨rfl, e⟩ := e
    obtain ⟨e1, z⟩ := put_heap (k := k) (a := a) rv r xs e y
    by_cases q : b' = k
    · subst q
      refine ⟨?_, ?_⟩
      · simp only [List.map_cons, putAt, if_true]; rw [e1]
      · simp only [List.map_cons, putAt, if_true]; exact .cons rv z
    · refine ⟨?_, ?_⟩
      · simp only [List.map_cons, putAt, if_neg q]; rw [e1]
      · simp only [List.map_cons, putAt, if_neg q]; exact .cons x z
theorem atKey_any (es : List (List Int × V)) (xs : List (List Int × Addr × Value)) (e : xs.map (fun zz => zz.1) = es.map (fun zz => zz.1)) (k : List Int) : (atKey xs k).isSome = es.any (fun x => decide (x.1 = k)) := by
  induction es generalizing xs with
  | nil => cases xs with
    | nil => rfl
    | cons => simp at e
  | cons x es ih =>
    cases xs with
    | nil => simp at e
    | cons y xs =>
      simp only [List.map_cons, List.cons.injEq] at e
      have := ih xs e.2
      unfold atKey at this ⊢
      simp only [List.find?_cons, List.any_cons, e.1]
      by_cases q : x.1 = k
      · simp [q]
      · simp only [q, decide_false, Bool.false_or]; exact this
theorem putI_storedH {h : Heap} {k : List Int} {a : Addr} {v : V} {v' : Value} (rv : VR h v v') (es : List (List Int × V)) (xs : List (List Int × Addr × Value)) (e : xs.map (fun zz => zz.1) = es.map (fun zz => zz.1)) (r : VRs h (es.map (fun zz => zz.2)) (xs.map (fun zz => zz.2.2))) :
    (storedH xs k a v').map (fun zz => zz.1) = (putI es k v).map (fun zz => zz.1) ∧ VRs h ((putI es k v).map (fun zz => zz.2)) ((storedH xs k a v').map (fun zz => zz.2.2)) := by
  unfold storedH putI
  rw [atKey_any es xs e k]
  by_cases q : es.any (fun e => decide (e.1 = k)) = true
  · rw [if_pos q, if_pos q]
    exact put_heap (a := a) rv es xs e r
  · rw [if_neg q, if_neg q]
    exact ⟨by simp [e], by simpa using r.append (.cons rv .nil)⟩
end
section
variable {prog : Program} {w : World} {K : Type} [DecidableEq K] {knd : KeyKind prog w K} {A : Around} {E : Value → Shared → Prop}
theorem DictAt_new (h : Heap) : (h.push { cls := .type "dict", data := .dict #[] }).DictAt knd h.objs.size [] 0 := by
  exact ⟨_, #[], Heap.get?_push_size _ rfl, ⟨rfl, rfl, rfl⟩, rfl, fun zz he => by simp at he, .nil, List.nodup_nil⟩
theorem stored_new {kvs : List (K × Value)} {k : K} {v : Value} (h : k ∉ kvs.map (fun zz => zz.1)) : stored kvs k v = kvs ++ [(k, v)] ∧ kvs.any (fun kv => decide (kv.1 = k)) = false := by
  have : kvs.any (fun kv => decide (kv.1 = k)) = false := by
    rw [List.any_eq_false]
    intro x hx e
    exact h (List.mem_map.mpr ⟨x, hx, of_decide_eq_true e⟩)
  exact ⟨by unfold stored; rw [this]; rfl, this⟩
theorem storeAll_at {d : Addr} : ∀ (vs : List (Value × Value)) (kvs acc : List (K × Value)) (s : Shared) (Q : PUnit → Shared → Prop), Carries knd vs kvs → ((acc ++ kvs).map (fun zz => zz.1)).Nodup → s.heap.DictAt knd d acc acc.length → acc.length + kvs.length ≤ sizeLine →
    (∀ h' t, h'.DictAt knd d (acc ++ kvs) (acc ++ kvs).length → Heap.SameBut d s.heap h' → Q PUnit.unit { s with heap := h', toks := t }) →
    wpAny (model prog w) A (storeAll d vs) Q E s
  | [], [], acc, s, Q, _, _, hm, _, hQ => by
    unfold storeAll
    rw [List.forIn_nil]
    exact wpAny_pure (hQ s.heap s.toks (by simpa using hm) (Heap.SameBut.refl _ _))
  | (key, v) :: vs, (k, v') :: kvs, acc, s, Q, hc, hn, hm, hsz, hQ => by
    obtain ⟨hkey, rfl, hc'⟩ := hc
    rw [List.length_cons] at hsz
    unfold storeAll
    rw [List.forIn_cons]
    have hk : k ∉ acc.map (fun zz => zz.1) := by
      rw [List.map_append, List.nodup_append] at hn
      intro hx
      exact hn.2.2 _ hx _ (by simp) rfl
    obtain ⟨e1, e2⟩ := stored_new (v := v) hk
    refine wpAny_bind (wpAny_bind (dictSet_at hkey hm (by lia) fun h₁ hm₁ hs₁ => wpAny_pure ?_))
    rw [e1, e2] at hm₁
    refine storeAll_at vs kvs (acc ++ [(k, v)]) _ Q hc' (by simpa using hn) (by simpa using hm₁) (by simp; lia) fun h' t hm' hs' => ?_
    exact hQ h' t (by simpa using hm') (hs₁.trans hs')
  | [], _ :: _, _, _, _, hc, _, _, _, _ => hc.elim
  | _ :: _, [], _, _, _, hc, _, _, _, _ => hc.elim
end
section
variable {c : Cx} {n : Nat} {env : Env} {m : Lo} {H H' : Hp} {A : Around} {s s' s'' : Shared}
noncomputable def flatP : List (Value × Value) → List Value
  | [] => []
  | (k, v) :: r => k :: v :: flatP r
noncomputable def PSnd (c : Cx) (n : Nat) (env : Env) (ks : List (Option Expr)) (vs : List Expr) (xs : Xs) : Prop :=
  ∀ m Q H, awpL c n xs m Q H → ∀ pos A s, Ok c n env m H A s → wpAny (M c) A (evalPairs (pairTrees ks vs env pos)) (fun ps => EvPs c Q H s (flatP ps)) bot s
theorem psnd_nil : PSnd c n env [] [] .nil := fun zz zz zz q zz zz zz ok => evalPairs_nil ⟨[], _, .nil, ok.rh, Stp.refl, q⟩
theorem psnd_cons {k v : Expr} {ks : List (Option Expr)} {vs : List Expr} {x y : X} {xs : Xs} (h1 : Snd c n env k x) (h2 : Snd c n env v y) (h3 : PSnd c n env ks vs xs) : PSnd c n env (some k :: ks) (v :: vs) (.cons x (.cons y xs)) := by
  intro m Q H q pos A s ok
  refine pairTrees_cons_walk (wpAny_mono (h1 m _ H q A s ok) ?_ fun zz zz e => e)
  rintro v1' s1 ⟨v1, H1, r1, rh1, st1, q1⟩
  have ok1 := ok.step rh1 st1
  refine wpAny_mono (h2 m _ H1 q1 A s1 ok1) ?_ fun zz zz e => e
  rintro v2' s2 ⟨v2, H2, r2, rh2, st2, q2⟩
  have ok2 := ok1.step rh2 st2
  refine wpAny_mono (h3 m _ H2 q2 pos A s2 ok2) ?_ fun zz zz e => e
  rintro ps s3 ⟨vs, H3, r3, rh3, st3, q3⟩
  exact ⟨v1 :: v2 :: vs, H3, .cons (r1.sta (st2.trans st3).sta) (.cons (r2.sta st3.sta) r3), rh3, (st1.trans st2).trans st3, q3⟩
theorem EvP.fill {Q : V → Hp → Prop} {o : O} {ob ob2 : Obj} {h' : Heap} (t : Nat) (hob : ob.isFreed = false) (rh : RH c.prog c.w c.base H s.heap) (st : Stp noOwn H { s with heap := s.heap.push ob } H' s')
    (rh' : RH c.prog c.w c.base H' s'.heap) (e : s'.heap.get? s.heap.objs.size = some ob2) (nst : ¬ Still ob2) (hs : Heap.SameBut s.heap.objs.size s'.heap h') (k : OR c.prog c.w h' s.heap.objs.size o)
    (hl : (h'.get? s.heap.objs.size).isSome = true) (hi : ∀ C dx fs, o ≠ .inst C dx fs) (q : Q (.ref s.heap.objs.size) (H'.put s.heap.objs.size o)) :
    EvP c Q H s (.ref s.heap.objs.size) { s' with heap := h', toks := t } := by
  have hH : H s.heap.objs.size = none := rh.none_size
  have hb : c.base.get? s.heap.objs.size = none := rh.base_none size_free
  have st0 : Stp noOwn H s H { s with heap := s.heap.push ob } := Stp.push ob s.toks
  have st2 : Stp noOwn H s H' s' := st0.trans st
  have hH' : H' s.heap.objs.size = none := (st.some (by rw [Heap.get?_push_size _ hob]; rfl) hH).2
  have ne : ∀ a ob, s.heap.get? a = some ob → a ≠ s.heap.objs.size := fun a ob e => Nat.ne_of_lt (Heap.lt_size e)
  refine ⟨_, _, .ref _, (rh'.own hH' hb e nst hs.extBut).show o hH' hb hi k, ⟨fun a x ex h0 h1 => ?_, fun a h => ?_, st2.sta.trans (Sta.but hs.extBut e nst), fun a h => ?_, ?_, fun a l x e1 e2 => ?_⟩, q⟩
  · exact (hs.2 a (ne _ _ ex)).trans (st2.keep a x ex h0 h1)
  · by_cases z : a = s.heap.objs.size
    · subst z; exact .inr size_free
    · rw [Hp.put_ne z] at h; exact st2.new a h
  · obtain ⟨x, ex⟩ := Option.isSome_iff_exists.mp h
    show (h'.get? a).isSome = true
    rw [hs.2 a (ne _ _ ex)]; exact st2.live a h
  · exact rest_trans st2.rest rfl
  · obtain ⟨p, q⟩ := st2.ro a l x e1 e2
    exact ⟨by rw [Hp.put_ne (ne _ _ e2)]; exact p, (hs.2 a (ne _ _ e2)).trans q⟩
theorem carriesI {h : Heap} : ∀ (es : List (Int × V)) (l : List V) (ps : List (Value × Value)), VRs h l (flatP ps) → pairUp l = es.map (fun e => (.int e.1, e.2)) → l.length = 2 * es.length →
    ∃ vs, Carries (intKind c.prog c.w) ps ((es.map (fun zz => zz.1)).zip vs) ∧ VRs h (es.map (fun zz => zz.2)) vs
  | [], l, [], _, _, _ => ⟨[], trivial, .nil⟩
  | [], l, _ :: _, r, _, e => by
    obtain rfl : l = [] := by simpa using e
    cases (r)
  | (i, v) :: es, l, ps, r, e, hl => by
    match l, ps, r with
    | [], _, _ => simp at hl
    | [_], _, _ => simp at hl; lia
    | _ :: _ :: l, (k, v') :: ps, .cons a (.cons b r) =>
      simp only [pairUp, List.map_cons, List.cons.injEq, Prod.mk.injEq] at e
      obtain ⟨⟨rfl, rfl⟩, e⟩ := e
      cases a
      obtain ⟨vs, hc, hr⟩ := carriesI es l ps r e (by simp at hl; lia)
      exact ⟨v' :: vs, ⟨int_is c.prog c.w i _, rfl, hc⟩, .cons b hr⟩
theorem carriesS {h : Heap} : ∀ (es : List (Str × V)) (l : List V) (ps : List (Value × Value)), VRs h l (flatP ps) → pairUp l = es.map (fun e => (.str e.1, e.2)) → l.length = 2 * es.length →
    ∃ vs, Carries (strKind c.prog c.w) ps ((es.map (fun zz => zz.1)).zip vs) ∧ VRs h (es.map (fun zz => zz.2)) vs
  | [], l, [], _, _, _ => ⟨[], trivial, .nil⟩
  | [], l, _ :: _, r, _, e => by
    obtain rfl : l = [] := by simpa using e
    cases (r)
  | (i, v) :: es, l, ps, r, e, hl => by
    match l, ps, r with
    | [], _, _ => simp at hl
    | [_], _, _ => simp at hl; lia
    | _ :: _ :: l, (k, v') :: ps, .cons a (.cons b r) =>
      simp only [pairUp, List.map_cons, List.cons.injEq, Prod.mk.injEq] at e
      obtain ⟨⟨rfl, rfl⟩, e⟩ := e
      cases a
      obtain ⟨vs, hc, hr⟩ := carriesS es l ps r e (by simp at hl; lia)
      exact ⟨v' :: vs, ⟨str_is c.prog c.w i _, rfl, hc⟩, .cons b hr⟩
theorem pairUp_len : ∀ (ps : List (Value × Value)) (l : List V) {h : Heap}, VRs h l (flatP ps) → l.length = 2 * (pairUp l).length
  | [], _, _, .nil => rfl
  | (k, v) :: ps, _, _, .cons a (.cons b r) => by
    have := pairUp_len ps _ r
    simp only [List.length_cons, pairUp]; lia
theorem zip_keys {α : Type} {l : List α} {vs : List Value} (h : vs.length = l.length) : (l.zip vs).map (fun zz => zz.1) = l := by
  induction l generalizing vs with
  | nil => cases vs <;> rfl
  | cons a l ih =>
    cases vs with
    | nil => simp at h
    | cons v vs => simp [ih (by simpa using h)]
theorem snd_dct0 {k : Nat} {pos : Pos} : Snd c n env (.Dict [] [] pos) (.dct k .nil) := by
  intro m Q H h A s ok
  refine wpAny_Dict_empty ?_
  have push : ∀ o : O, (∀ C dx fs, o ≠ .inst C dx fs) → OR c.prog c.w (s.heap.push { cls := .type "dict", data := .dict #[] }) s.heap.objs.size o → (∀ d, H d = none → Q (.ref d) (H.put d o)) →
      EvP c Q H s (.ref s.heap.objs.size) { s with heap := s.heap.push { cls := .type "dict", data := .dict #[] } } := fun o hi k q =>
    ⟨_, _, .ref _, ok.rh.new _ o hi k, Stp.put _ s.toks _, q _ ok.rh.none_size⟩
  replace h : dctQ k (pairUp []) Q H := h
  unfold dctQ at h
  split at h
  · obtain ⟨es, e, _, _, q⟩ := h
    obtain rfl : es = [] := by simpa [pairUp] using e.symm
    exact push (.dictI []) (by intros; simp) ⟨[], DictAt_new _, .nil⟩ q
  · obtain ⟨es, e, _, _, q⟩ := h
    obtain rfl : es = [] := by simpa [pairUp] using e.symm
    exact push (.dictS []) (by intros; simp) ⟨[], DictAt_new _, .nil⟩ q
  · obtain ⟨_, q⟩ := h
    exact push (.dictT []) (by intros; simp) ⟨[], Heap.DictOfH.new _, rfl, .nil⟩ q
theorem not_still_dictAt {K : Type} [DecidableEq K] {prog : Program} {w : World} {knd : KeyKind prog w K} {h : Heap} {a kvs ep} (x : h.DictAt knd a kvs ep) : ∃ ob, h.get? a = some ob ∧ ¬ Still ob :=
  let ⟨_, _, e, _, d, _⟩ := x; ⟨_, e, not_still_dict d⟩
theorem snd_dct {ks : List (Option Expr)} {vs : List Expr} {xs : Xs} {k : Nat} {pos : Pos} (hall : ks.all (fun zz => zz.isSome) = true) (hl : ks.length = vs.length) (h0 : ks ≠ []) (hlen : ks.length ≤ 15) (hk : k < 2) (hs : PSnd c n env ks vs xs) :
    Snd c n env (.Dict ks vs pos) (.dct k xs) := by
  intro m Q H h A s ok
  have ok0 : Ok c n env m H A { s with heap := s.heap.push { cls := .type "dict", data := .dict #[] } } := ok.step (ok.rh.push _) (Stp.push _ s.toks)
  refine wpAny_Dict_any hall hl h0 hlen (wpAny_mono (hs m _ H h pos A _ ok0) ?_ fun zz zz e => e)
  rintro ps s1 ⟨l, H1, r, rh1, st1, q⟩
  have hg : s1.heap.get? s.heap.objs.size = some { cls := .type "dict", data := .dict #[] } := st1.keep _ _ (Heap.get?_push_size _ rfl) ok.rh.none_size id
  have hn : ¬ Still { cls := .type "dict", data := .dict #[] } := not_still_dict rfl
  have at0 : ∀ {K : Type} [DecidableEq K] {knd : KeyKind c.prog c.w K}, s1.heap.DictAt knd s.heap.objs.size [] 0 := fun {K} _ {knd} => ⟨_, #[], hg, ⟨rfl, rfl, rfl⟩, rfl, fun zz he => by simp at he, .nil, List.nodup_nil⟩
  have hH1 : H1 s.heap.objs.size = none := (st1.some (by rw [Heap.get?_push_size _ rfl]; rfl) ok.rh.none_size).2
  match k, hk with
  | 0, _ =>
    obtain ⟨es, e, hnd, hz, q⟩ := q
    obtain ⟨ws, hc, hr⟩ := carriesI (c := c) es l ps r e (by rw [pairUp_len ps l r, e]; simp)
    have hw : ws.length = (es.map (fun zz => zz.1)).length := by simpa using hr.length
    refine storeAll_at (knd := intKind c.prog c.w) ps _ [] s1 _ hc (by simpa [zip_keys hw] using hnd) at0 (by rw [sizeLine_eq]; simp; lia) fun h' t hm hsb => ?_
    simp only [List.nil_append, List.length_zip] at hm
    obtain ⟨_, e2, _⟩ := not_still_dictAt hm
    refine EvP.fill (o := .dictI es) t rfl ok.rh st1 rh1 hg hn hsb ⟨ws, ?_, hr.sta (Sta.but hsb.extBut hg hn)⟩ (by rw [e2]; rfl) (by intros; simp) (q _ hH1)
    have : min (es.map (fun zz => zz.1)).length ws.length = es.length := by rw [hw]; simp
    rw [this] at hm; exact hm
  | 1, _ =>
    obtain ⟨es, e, hnd, hz, q⟩ := q
    obtain ⟨ws, hc, hr⟩ := carriesS (c := c) es l ps r e (by rw [pairUp_len ps l r, e]; simp)
    have hw : ws.length = (es.map (fun zz => zz.1)).length := by simpa using hr.length
    refine storeAll_at (knd := strKind c.prog c.w) ps _ [] s1 _ hc (by simpa [zip_keys hw] using hnd) at0 (by rw [sizeLine_eq]; simp; lia) fun h' t hm hsb => ?_
    simp only [List.nil_append, List.length_zip] at hm
    obtain ⟨_, e2, _⟩ := not_still_dictAt hm
    refine EvP.fill (o := .dictS es) t rfl ok.rh st1 rh1 hg hn hsb ⟨ws, ?_, hr.sta (Sta.but hsb.extBut hg hn)⟩ (by rw [e2]; rfl) (by intros; simp) (q _ hH1)
    have : min (es.map (fun zz => zz.1)).length ws.length = es.length := by rw [hw]; simp
    rw [this] at hm; exact hm
theorem un_toInt {Q : V → Hp → Prop} : Un c n env m (fun v => call (.type "int") [v]) (fun a H' => ∃ i, a = .int i ∧ Q (.int i) H') Q := by
  rintro H A s v v' ok rv ⟨i, rfl, q⟩
  cases rv
  exact call_int_int (EvP.val0 ok.rh (.int _ _) q)
end
end Mine
set_option tactic.hygienic false
open PySem PySem.W PySem.Calls PyProof PyProof.Rows PySem.SeqAt
set_option maxRecDepth 100000
namespace Mine
section
variable {c : Cx} {n : Nat} {env : Env} {m m' : Lo} {H H' H₀ : Hp} {A : Around} {s s' s'' : Shared}
noncomputable def FlR (h : Heap) : Fl → Flow → Prop
  | .next, .next => True
  | .ret v, .ret v' => VR h v v'
  | _, _ => False
inductive StP (c : Cx) (env : Env) (Q : Fl → Lo → Hp → Prop) (H : Hp) (s : Shared) (f : Flow) (s' : Shared) : Prop
  | mk (fl : Fl) (m' : Lo) (H' : Hp) : FlR s'.heap fl f → RH c.prog c.w c.base H' s'.heap → FrM c env m' s'.heap → Stp (Own env) H s H' s' → Q fl m' H' → StP c env Q H s f s'
theorem StP.after {Q : Fl → Lo → Hp → Prop} {f : Flow} (st : Stp (Own env) H s H' s') (p : StP c env Q H' s' f s'') : StP c env Q H s f s'' :=
  let ⟨fl, m', H'', a, b, d, e, q⟩ := p; ⟨fl, m', H'', a, b, d, st.trans e, q⟩
noncomputable def SndS (c : Cx) (n : Nat) (env : Env) (st : Stmt) (x : S) : Prop :=
  ∀ m Q H, swp c n x Q m H → ∀ A s, Ok c n env m H A s → wpAny (M c) A (exec st env) (StP c env Q H s) bot s
noncomputable def SndSs (c : Cx) (n : Nat) (env : Env) (st : List Stmt) (x : Ss) : Prop :=
  ∀ m Q H, swps c n x Q m H → ∀ A s, Ok c n env m H A s → wpAny (M c) A (execs st env) (StP c env Q H s) bot s
theorem Ok.stepO (ok : Ok c n env m H A s) (rh : RH c.prog c.w c.base H' s'.heap) (fr : FrM c env m' s'.heap) (st : Stp (Own env) H s H' s') : Ok c n env m' H' A s' := by
  refine ⟨ok.room, rh, fr, fun a h => ?_⟩
  obtain ⟨h1, h2, h3⟩ := ok.free a h
  refine ⟨st.live a h1, ?_, h3⟩
  cases q : H' a with
  | none => rfl
  | some x =>
    rcases st.new a (by rw [q]; simp) with z | z
    · exact absurd h2 z
    · rw [z] at h1; cases h1
theorem snds_s_nil : SndSs c n env [] .nil := fun zz zz zz q zz zz ok => wpAny_execs_nil ⟨.next, _, _, trivial, ok.rh, ok.fr, Stp.refl, q⟩
theorem snds_s_cons {st : Stmt} {sts : List Stmt} {x : S} {xs : Ss} (h1 : SndS c n env st x) (h2 : SndSs c n env sts xs) : SndSs c n env (st :: sts) (.cons x xs) := by
  intro m Q H q A s ok
  refine wpAny_execs_cons (wpAny_mono (h1 m _ H q A s ok) ?_ fun zz zz e => e)
  rintro f s1 ⟨fl, m1, H1, r1, rh1, fr1, st1, q1⟩
  match fl, f, r1 with
  | .next, .next, _ => exact wpAny_mono (h2 m1 Q H1 q1 A s1 (ok.stepO rh1 fr1 st1)) (fun zz zz p => p.after st1) fun zz zz e => e
  | .ret v, .ret v', r => exact ⟨.ret v, m1, H1, r, rh1, fr1, st1, q1⟩
theorem stp_own {s : Shared} {h' : Heap} {a : Addr} {ob : Obj} (t : Nat) (ha : Own env a) (e : s.heap.get? a = some ob) (nst : ¬ Still ob) (hs : Heap.SameBut a s.heap h') (hl : (h'.get? a).isSome = true) (hn : H a = none) :
    Stp (Own env) H s H { s with heap := h', toks := t } :=
  ⟨fun b o eb zz nb => (hs.2 b (fun q => nb (q ▸ ha))).trans eb, fun zz h => .inl h, Sta.but hs.extBut e nst, fun b hb => by
    by_cases q : b = a
    · subst q; exact hl
    · show (h'.get? b).isSome = true
      rw [hs.2 b q]; exact hb, rfl, fun b l o e1 e2 => ⟨e1, (hs.2 b (by rintro rfl; rw [hn] at e1; cases e1)).trans e2⟩⟩
theorem store_ok (C : CxOk c) (E : EnvOk env) {i : Nat} {v : V} {v' : Value} {Q : Unit → Shared → Prop} {E' : Value → Shared → Prop} (ok : Ok c n env m H A s) (hk : env.kindOf (c.nm i) = some .local ∨ env.kindOf (c.nm i) = some .cell) (rv : VR s.heap v v')
    (k : ∀ s', RH c.prog c.w c.base H s'.heap → FrM c env (m.put i v) s'.heap → Stp (Own env) H s H s' → Sta s.heap s'.heap → Q () s') : wpAny (M c) A (storeName env (c.nm i) v') Q E' s := by
  obtain ⟨m', ns, hm⟩ := ok.fr.ns
  rcases hk with hk | hk
  · refine wpAny_storeName_local hk ns (fun h' hn hs => ?_) (by rw [E.kind]; rfl)
    obtain ⟨o, es, ep, ho, hd, _⟩ := id ns
    have nst : ¬ Still o := not_still_dict hd
    obtain ⟨_, h2, h3⟩ := ok.free env.locals (.inl rfl)
    have sta : Sta s.heap h' := Sta.but hs.extBut ho nst
    have hl : (h'.get? env.locals).isSome = true := by obtain ⟨o, _, _, e, _⟩ := hn; rw [e]; rfl
    refine k _ (ok.rh.own h2 h3 ho nst hs.extBut) ⟨⟨_, hn, fun j u hj e => ?_⟩, fun j kk hj hc => ?_⟩ (stp_own _ (.inl rfl) ho nst hs hl h2) sta
    · by_cases q : j = i
      · subst q
        simp only [Lo.put, if_true, Option.some.injEq] at e ⊢
        subst e
        exact ⟨v', rfl, rv.sta sta⟩
      · simp only [Lo.put, if_neg q] at e
        obtain ⟨u', e', r⟩ := hm j u hj e
        exact ⟨u', by rw [if_neg (fun z => q (C.inj _ _ z))]; exact e', r.sta sta⟩
    · obtain ⟨a, ov, hl, ⟨oc, hoc, hdc⟩, hv⟩ := ok.fr.cel j kk hj hc
      have ne : a ≠ env.locals := by rintro rfl; rw [ho] at hoc; cases hoc; rw [hd] at hdc; cases hdc
      have nj : j ≠ i := by rintro rfl; rw [hk] at hj; cases hj; rcases hc with hc | hc <;> cases hc
      refine ⟨a, ov, hl, ⟨oc, (hs.2 a ne).trans hoc, hdc⟩, fun u e => ?_⟩
      simp only [Lo.put, if_neg nj] at e
      obtain ⟨u', e', r⟩ := hv u e
      exact ⟨u', e', r.sta sta⟩
  · obtain ⟨a, ov, hl, hc, hv⟩ := ok.fr.cel i _ hk (.inl rfl)
    refine wpAny_storeName_cell E.kind hk hl hc (fun h' hc' hs => ?_)
    obtain ⟨o, ho, hd⟩ := hc
    have nst : ¬ Still o := not_still_cell hd
    have own : Own env a := .inr ⟨_, mem_of_lookup hl⟩
    obtain ⟨_, h2, h3⟩ := ok.free a own
    have sta : Sta s.heap h' := Sta.but hs.extBut ho nst
    have hl' : (h'.get? a).isSome = true := by obtain ⟨o, e, _⟩ := hc'; rw [e]; rfl
    refine k _ (ok.rh.own h2 h3 ho nst hs.extBut) ⟨⟨m', ?_, fun j u hj e => ?_⟩, fun j kk hj hcj => ?_⟩ (stp_own s.toks own ho nst hs hl' h2) sta
    · obtain ⟨oL, es, ep, hoL, hdL, r⟩ := ns
      have ne : env.locals ≠ a := by rintro rfl; rw [ho] at hoL; cases hoL; rw [hd] at hdL; cases hdL
      exact ⟨oL, es, ep, (hs.2 _ ne).trans hoL, hdL, r⟩
    · have nj : j ≠ i := by rintro rfl; rw [hk] at hj; cases hj
      simp only [Lo.put, if_neg nj] at e
      obtain ⟨u', e', r⟩ := hm j u hj e
      exact ⟨u', e', r.sta sta⟩
    · obtain ⟨b, ov', hlb, ⟨ob, hob, hdb⟩, hvb⟩ := ok.fr.cel j kk hj hcj
      by_cases q : j = i
      · subst q
        rw [hl] at hlb; cases hlb
        exact ⟨a, some v', hl, hc', fun u e => by simp only [Lo.put, if_true, Option.some.injEq] at e; subst e; exact ⟨v', rfl, rv.sta sta⟩⟩
      · have ne : b ≠ a := by
          rintro rfl
          exact q (C.inj _ _ (E.apart _ _ _ (mem_of_lookup hlb) (mem_of_lookup hl)))
        refine ⟨b, ov', hlb, ⟨ob, (hs.2 b ne).trans hob, hdb⟩, fun u e => ?_⟩
        simp only [Lo.put, if_neg q] at e
        obtain ⟨u', e', r⟩ := hvb u e
        exact ⟨u', e', r.sta sta⟩
theorem s_asg {x : Str} {p pos : Pos} {e : Expr} {i : Nat} {ex : X} (C : CxOk c) (E : EnvOk env) (he : Snd c n env e ex) (hx : x = c.nm i) (hk : env.kindOf x = some .local ∨ env.kindOf x = some .cell)
    (hs : swapsWith e (some (.Name x p)) pos.line env = pure false) : SndS c n env (.Assign [.Name x p] e pos) (.asg i ex) := by
  intro m Q H q A s ok
  subst hx
  refine wpAny_Assign_Name (wpAny_mono (he m _ H q A s ok) ?_ fun zz zz e => e) hs
  rintro v' s1 ⟨v, H1, r1, rh1, st1, q1⟩
  have ok1 := ok.step rh1 st1
  refine store_ok C E ok1 hk r1 fun s2 rh2 fr2 st2 zz => ?_
  exact ⟨.next, _, _, trivial, rh2, fr2, st1.lo.trans st2, q1⟩
theorem s_expr {e : Expr} {pos : Pos} {ex : X} (he : Snd c n env e ex) (hi : interactive env = false) (hs : swapsWith e none pos.line env = pure false) : SndS c n env (.Expr e pos) (.expr ex) := by
  intro m Q H q A s ok
  refine wpAny_Expr (wpAny_mono (he m _ H q A s ok) ?_ fun zz zz e => e) hi hs
  rintro v' s1 ⟨v, H1, r1, rh1, st1, rfl, q1⟩
  cases r1
  exact ⟨.next, _, _, trivial, rh1, (ok.step rh1 st1).fr, st1.lo, q1⟩
theorem s_ret {e : Expr} {pos : Pos} {ex : X} (he : Snd c n env e ex) : SndS c n env (.Return (some e) pos) (.ret ex) := by
  intro m Q H q A s ok
  refine wpAny_Return_some (wpAny_mono (he m _ H q A s ok) ?_ fun zz zz e => e)
  rintro v' s1 ⟨v, H1, r1, rh1, st1, q1⟩
  exact ⟨.ret v, _, _, r1, rh1, (ok.step rh1 st1).fr, st1.lo, q1⟩
theorem s_iff {t : Expr} {a b : List Stmt} {pos : Pos} {tx : X} {ax bx : Ss} (ht : SndB c n env t tx) (ha : SndSs c n env a ax) (hb : SndSs c n env b bx) : SndS c n env (.If t a b pos) (.iff tx ax bx) := by
  intro m Q H q A s ok
  refine wpAny_If (wpAny_mono (ht m _ H q A s ok) ?_ fun zz zz e => e)
  rintro r s1 ⟨H1, rh1, st1, k1⟩
  have ok1 := ok.step rh1 st1
  cases r with
  | true => exact wpAny_mono (ha m Q H1 (k1.1 rfl) A s1 ok1) (fun zz zz p => p.after st1.lo) fun zz zz e => e
  | false => exact wpAny_mono (hb m Q H1 (k1.2 rfl) A s1 ok1) (fun zz zz p => p.after st1.lo) fun zz zz e => e
theorem s_bad {st : Stmt} : SndS c n env st .bad := fun zz zz zz q => q.elim
theorem unpack_two {ta : Addr} {x y : Value} {k : Nat} {Q : List Value → Shared → Prop} {E : Value → Shared → Prop} (it : s.heap.IsTuple ta [x, y].toArray) (hk : k = 2) (hh : A.handled = none)
    (hq : ∀ h', Heap.ExtBut s.heap.objs.size s.heap h' → Q [x, y] { s with heap := h' }) : wpAny (M c) A (unpackItems (.ref ta) k none) Q E s := by
  have h := wpAny_unpackItems_tuple (prog := c.prog) (w := c.w) (E := E) (Q := Q) hh it (by simpa using hq)
  have e : ([x, y].toArray).size = k := by rw [hk]; rfl
  rw [e] at h
  exact h
theorem s_asg2 {x y : Str} {p p2 tp vp pos : Pos} {k k2 : Nat} {ea eb : Expr} {i j : Nat} {ax bx : X} (C : CxOk c) (E : EnvOk env) (ha : Snd c n env ea ax) (hb : Snd c n env eb bx) (hx : x = c.nm i) (hy : y = c.nm j)
    (hkx : env.kindOf x = some .local ∨ env.kindOf x = some .cell) (hky : env.kindOf y = some .local ∨ env.kindOf y = some .cell) (hpa : starred ea = false) (hpb : starred eb = false)
    (hw : swappedStores [.Tuple [.Name x p, .Name y p2] k tp] (.Tuple [ea, eb] k2 vp) env = pure (some [x, y])) :
    SndS c n env (.Assign [.Tuple [.Name x p, .Name y p2] k tp] (.Tuple [ea, eb] k2 vp) pos) (.asg2 i j ax bx) := by
  intro m Q H q A s ok
  subst hx; subst hy
  have hsnd : Snds c n env [ea, eb] (.cons ax (.cons bx .nil)) := snds_cons ha (snds_cons hb snds_nil (starEach_plain [] hpb)) (starEach_plain _ hpa)
  refine Assign_Tuple_swapped (wpAny_mono (snd_tup (pos := vp) (k := k2) hsnd m (fun v H' => ∃ a b, v = .tup [a, b] ∧ Q .next ((m.put j b).put i a) H') H ?_ A s ok) ?_ fun zz zz e => e) rfl hw
  · show awp c n ax m (fun a => awp c n bx m fun b H' => ([a, b] : List V).length ≤ 100000 ∧ _) H
    have : ∀ a b H', (([a, b] : List V).length ≤ 100000 ∧ ∃ a' b', V.tup [a, b] = .tup [a', b'] ∧ Q .next ((m.put j b').put i a') H') = Q .next ((m.put j b).put i a) H' := by
      intro a b H'
      refine propext ⟨?_, fun q => ⟨by simp, a, b, rfl, q⟩⟩
      rintro ⟨_, a', b', e, q⟩
      cases e; exact q
    simp only [this]
    exact q
  rintro v' s1 ⟨v, H1, r1, rh1, st1, a, b, rfl, q1⟩
  have ok1 := ok.step rh1 st1
  refine VR.tup2E r1 fun ta va vb it ra rb => ?_
  refine unpack_two it rfl ok.room.1 fun h2 he2 => ?_
  have k2' : ∀ b o, s1.heap.get? b = some o → h2.get? b = some o := fun b o e => he2 b o (Nat.ne_of_lt (Heap.lt_size e)) e
  have st2 : Stp noOwn H1 s1 H1 { s1 with heap := h2 } := Stp.grow s1.toks k2'
  have ok2 : Ok c n env m H1 A { s1 with heap := h2 } := ok1.step (rh1.grow k2') st2
  show wpAny _ _ (assignInOrder [bindName env (c.nm j), bindName env (c.nm i)] [_, _]) _ _ _
  refine assignInOrder_cons (wpAny_bindName ?_)
  refine store_ok C E ok2 hky (rb.sta st2.sta) fun s3 rh3 fr3 st3 sta3 => ?_
  have ok3 := ok2.stepO rh3 fr3 st3
  refine assignInOrder_cons (wpAny_bindName ?_)
  refine store_ok C E ok3 hkx ((ra.sta st2.sta).sta sta3) fun s4 rh4 fr4 st4 zz => ?_
  refine assignInOrder_nil ?_
  exact ⟨.next, _, _, trivial, rh4, fr4, ((st1.trans st2).lo.trans st3).trans st4, q1⟩
end
end Mine
set_option tactic.hygienic false
open PySem PySem.W PySem.Calls PyProof PyProof.Rows PySem.SeqAt
set_option maxRecDepth 100000
namespace Mine
section
variable {c : Cx} {n : Nat} {env : Env} {m m' : Lo} {H H' H₀ : Hp} {A : Around} {s s' s'' : Shared}
theorem osa_at {prog : Program} {w : World} {K : Frag} {A : Around} {s : Shared} {x C dx : Addr} {sl} {name : Str} {tk : Tok} {v : Value} {R : Result → Shared → Prop} {es : List DictEntry} {k : Nat} (X : K.In s.heap)
    (I : InstAt s.heap x ⟨.ref C, some dx, .plain, sl⟩ C (some (dictOf es k))) (hp : plainOver K C = true) (ht : takerIn K C name = some none) (hh : hasDictIn K C = true) (hnr : es.any (fun zz => zz.refKey) = false) (hz : (putL name (PyData.keyHash w.params name) (.str name s.toks) v es).length ≤ 1000)
    (h : ∀ h', h'.get? dx = some (dictOf (putL name (PyData.keyHash w.params name) (.str name s.toks) v es) (putN name es k)) → Heap.SameBut dx s.heap h' → R (.ok (.ret .none)) { s with heap := h', toks := s.toks + 1 }) :
    codeAny (model prog w) A (.call (.builtin "object.__setattr__") ⟨[.ref x, .str name tk, v], []⟩) R s := by
  refine osa_open X I hp ht fun b => ?_
  obtain ⟨cd, hc, hd'⟩ := any_some hh
  obtain ⟨hx, hcl, hn, D⟩ := I
  have e := putName_dict name (PyData.keyHash w.params name) (.str name s.toks) v es k
  have D' : (s.heap.update dx (Obj.putName name (PyData.keyHash w.params name) (.str name s.toks) v)).get? dx = some (dictOf (putL name (PyData.keyHash w.params name) (.str name s.toks) v es) (putN name es k)) := by
    rw [Heap.get?_update_self _ D (by rw [e]; rfl), e]
  refine wpAny_bind (wpAny_pure (wpAny_bind (wpAny_bind (wpAny_loadPart hx (wpAny_bind ((looks_clsIn X hc).here ?_))))))
  rw [hd']
  refine wpAny_pure (a := some dx) (wpAny_bind (wpAny_pure (wpAny_bind ?_)))
  unfold nsSet
  refine wpAny_bind (wpAny_bind (wpAny_askSetting (wpAny_pure (wpAny_bind (wpAny_mkText (wpAny_bind (wpAny_loadPart D ?_)))))))
  have cc : (!es.toArray.any (·.key.isStr name) && es.toArray.any (fun zz => zz.refKey)) = false := by
    rw [← Array.any_toList, ← Array.any_toList]
    simp only [List.any_toArray]
    rw [hnr, Bool.and_false]
  show wpAny _ _ (if aRefKeyMayBeTheName name es.toArray then _ else _) _ _ _
  rw [aRefKeyMayBeTheName_at, cc]
  refine wpAny_updatePart D ?_
  refine wpAny_bind (wpAny_lookBehind D' (pastItsLine_dict (by rw [List.size_toArray, sizeLine_eq]; lia)) ?_)
  exact wpAny_pure (h _ D' (Heap.SameBut.update ..))
theorem FsR.noRef {P : Params} {h : Heap} : ∀ {fs : List (Str × V)} {es : List DictEntry}, FsR P h fs es → es.any (fun zz => zz.refKey) = false
  | _, _, .nil => rfl
  | _, _, .cons (e := e) a _ _ r => by
    have : e.refKey = false := by unfold DictEntry.refKey; rw [a]
    rw [List.any_cons, this, FsR.noRef r]; rfl
theorem RH.setF {h h' : Heap} (x : RH c.prog c.w c.base H h) {a C dx : Addr} {fs fs' : List (Str × V)} {es' : List DictEntry} {k : Nat} (e₀ : H a = some (.inst C dx fs)) (hs : Heap.SameBut dx h h') (hd : h'.get? dx = some (dictOf es' k)) (f : FsR c.w.params h' fs' es') :
    RH c.prog c.w c.base (H.put a (.inst C dx fs')) h' := by
  have ap := x.apart _ _ _ _ e₀
  have ne : a ≠ dx := by rintro rfl; rw [e₀] at ap; cases ap
  obtain ⟨es0, k0, ed⟩ := x.obj _ _ ap
  have t : Sta h h' := Sta.but hs.extBut ed (not_still_dict rfl)
  refine ⟨fun b o' e => ?_, fun b C' dx' fs'' e => ?_, fun b o' e => ?_⟩
  · by_cases q : b = a
    · subst q; rw [Hp.put_self] at e; cases e
      obtain ⟨⟨sl, e1⟩, _⟩ := x.obj _ _ e₀
      exact ⟨⟨sl, (hs.2 _ ne).trans e1⟩, es', k, hd, f⟩
    · rw [Hp.put_ne q] at e
      by_cases qd : b = dx
      · subst qd; rw [ap] at e; cases e; exact ⟨es', k, hd⟩
      · refine (x.obj b o' e).at t (fun ob eb => (hs.2 b qd).trans eb) fun C' dx' fs'' eo ob e2 => (hs.2 dx' ?_).trans e2
        rintro rfl
        subst eo
        have := x.apart _ _ _ _ e
        rw [ap] at this; cases this; exact q rfl
  · by_cases q : b = a
    · subst q; rw [Hp.put_self] at e; cases e
      rw [Hp.put_ne (Ne.symm ne)]; exact ap
    · rw [Hp.put_ne q] at e
      have e' := x.apart _ _ _ _ e
      have : dx' ≠ a := by rintro rfl; rw [e₀] at e'; cases e'
      rw [Hp.put_ne this]; exact e'
  · have hb := x.base b o' e
    have nd : b ≠ dx := by rintro rfl; rw [ap] at hb; cases hb.2
    have na : b ≠ a := by rintro rfl; rw [e₀] at hb; cases hb.2
    exact ⟨(hs.2 b nd).trans hb.1, by rw [Hp.put_ne na]; exact hb.2⟩
theorem stp_setF {own : Addr → Prop} {s : Shared} {h' : Heap} {a C dx : Addr} {fs fs' : List (Str × V)} (x : RH c.prog c.w c.base H s.heap) (t : Nat) (e₀ : H a = some (.inst C dx fs)) (hs : Heap.SameBut dx s.heap h') (hl : (h'.get? dx).isSome = true) :
    Stp own H s (H.put a (.inst C dx fs')) { s with heap := h', toks := t } := by
  have ap := x.apart _ _ _ _ e₀
  obtain ⟨es0, k0, ed⟩ := x.obj _ _ ap
  refine ⟨fun b ob eb e' zz => (hs.2 b (by rintro rfl; rw [ap] at e'; cases e')).trans eb, fun b h => ?_, Sta.but hs.extBut ed (not_still_dict rfl), fun b hb => ?_, rfl, fun b l o e1 e2 => ⟨by
    rw [Hp.put_ne (by rintro rfl; rw [e₀] at e1; cases e1)]; exact e1, (hs.2 b (by rintro rfl; rw [ap] at e1; cases e1)).trans e2⟩⟩
  · by_cases q : b = a
    · subst q; exact .inl (by rw [e₀]; simp)
    · rw [Hp.put_ne q] at h; exact .inl h
  · by_cases q : b = dx
    · subst q; exact hl
    · show (h'.get? b).isSome = true
      rw [hs.2 b q]; exact hb
theorem s_asgAttr {eo e : Expr} {f : Str} {p pos : Pos} {o x : X} (C : CxOk c) (he : Snd c n env e x) (ho : Snd c n env eo o) (hs : swapsWith e (some (.Attribute eo f p)) pos.line env = pure false) :
    SndS c n env (.Assign [.Attribute eo f p] e pos) (.asgAttr o f x) := by
  intro m Q H q A s ok
  refine plainObj_wpAny_Assign_Attribute (wpAny_mono (he m _ H q A s ok) ?_ fun zz zz e => e) hs
  rintro v' s1 ⟨v, H1, r1, rh1, st1, q1⟩
  have ok1 := ok.step rh1 st1
  refine wpAny_mono (ho m _ H1 q1 A s1 ok1) ?_ fun zz zz e => e
  rintro o' s2 ⟨ov, H2, r2, rh2, st2, a, Cl, dx, fs, rfl, el, hf, hz, hv, q2⟩
  have ok2 := ok1.step rh2 st2
  cases r2
  obtain ⟨sl, es, k, I, fr⟩ := RH.inst rh2 el
  obtain ⟨_, hh, _, hset, hp, ht⟩ := C.fld _ _ hf
  have hin : handedIn v' = true := by
    have r1' := r1
    cases r1' <;> first | rfl | exact absurd rfl (hv _)
  have rv := r1.sta st2.sta
  have fl := FsR.put (f := f) (hs := PyData.keyHash c.w.params f) (t := s2.toks + 1) rv hin fr
  refine set_plain (kin_of C rh2) I hset (osa_at (kin_of (s := { s2 with toks := s2.toks + 1 }) C rh2) I hp ht hh fr.noRef ?_ fun h' hd hsb => ?_)
  · have e1 := fl.length
    have e2 := putF_length f v fs
    show (putL f (PyData.keyHash c.w.params f) (.str f (s2.toks + 1)) v' es).length ≤ 1000
    lia
  · have ap := rh2.apart _ _ _ _ el
    obtain ⟨es0, k0, ed⟩ := rh2.obj _ _ ap
    have sta : Sta s2.heap h' := Sta.but hsb.extBut ed (not_still_dict rfl)
    have rh3 := RH.setF rh2 el hsb hd (fl.sta sta)
    have st3 : Stp noOwn H2 s2 (H2.put a (.inst Cl dx (putF fs f v))) { s2 with heap := h', toks := s2.toks + 1 + 1 } := stp_setF rh2 _ el hsb (by rw [hd]; rfl)
    have ok3 := ok2.step rh3 st3
    exact ⟨.next, _, _, trivial, rh3, ok3.fr, ((st1.trans st2).trans st3).lo, q2⟩
theorem wpAny_setItem_plain {l : Addr} {items : Array Value} {k : Int} {t : Tok} {v : Value} {Q : Unit → Shared → Prop} {E : Value → Shared → Prop} (hl : s.heap.PlainList l items) (h0 : 0 ≤ k) (hfit : k < 2 ^ 63) (hn : k < items.size)
    (hQ : ∀ h', h'.PlainList l (items.setIfInBounds k.toNat v) → Heap.SameBut l s.heap h' → Q () { s with heap := h' }) : wpAny (M c) A (setItem (.ref l) (.int k t) v) Q E s := by
  obtain ⟨ne, ho⟩ := id hl
  have hL : s.heap.IsList l items := hl.isList
  unfold setItem
  try with_reducible refine wpAny_holding ?_
  first | refine wpAny_bind (wpAny_pure ?_) | skip
  refine wpAny_bind (wpAny_sequenceKey hL.typeIs (by decide) ?_)
  refine wpAny_bind (wpAny_callSpecial?_slot (name := Str.ofString "__setitem__") hL.typeIs slot_list_setitem (wpAny_call_entry slot_list_setitem hL.typeIs entry_list_setitem ?_ (args_list_setitem _ _ _)))
  show wpAny _ _ (Builtin.List.listSubscript? (.int k t) >>= _) _ _ s
  refine wpAny_bind (wpAny_listSubscript_int (fitsIndex_of h0 hfit) ?_)
  clear hfit
  obtain ⟨j, rfl⟩ := Int.eq_ofNat_of_zero_le h0
  have hj : j < items.size := by lia
  show wpAny _ _ ((seqItemAt l j >>= fun r => pure (r.map (j, ·))) >>= _) _ _ s
  refine wpAny_bind (wpAny_bind (wpAny_seqItemAt ho rfl (wpAny_pure ?_)))
  rw [Array.getElem?_eq_getElem hj]
  show wpAny _ _ (setSeqItemAt l j v >>= _) _ _ s
  obtain ⟨n', hd'⟩ := update_seq_at (fun x => x.setIfInBounds j v) ho
  refine wpAny_bind (wpAny_setSeqItemAt ho rfl ?_)
  first
    | exact wpAny_bind (wpAny_pure (wpAny_pure ⟨.none, rfl, wpAny_pure (hQ _ ⟨n', hd'⟩ (Heap.SameBut.update ..))⟩))
    | exact wpAny_pure ⟨.none, rfl, wpAny_pure (hQ _ ⟨n', hd'⟩ (Heap.SameBut.update ..))⟩
theorem VRs.set {h : Heap} {v : V} {v' : Value} (rv : VR h v v') : ∀ {l : List V} {vs : List Value} (i : Nat), VRs h l vs → VRs h (l.set i v) (vs.set i v')
  | _, _, _, .nil => .nil
  | _, _, 0, .cons _ b => .cons rv b
  | _, _, i + 1, .cons a b => .cons a (VRs.set rv i b)
theorem s_asgSub {eo ek e : Expr} {p pos : Pos} {o k x : X} (_C : CxOk c) (he : Snd c (n + 1) env e x) (ho : Snd c (n + 1) env eo o) (hk : Snd c (n + 1) env ek k) (hs : swapsWith e (some (.Subscript eo ek p)) pos.line env = pure false) :
    SndS c (n + 1) env (.Assign [.Subscript eo ek p] e pos) (.asgSub o k x) := by
  intro m Q H q A s ok
  refine wpAny_Assign_Subscript (wpAny_mono (he m _ H q A s ok) ?_ fun zz zz e => e) hs
  rintro v' s1 ⟨v, H1, r1, rh1, st1, q1⟩
  have ok1 := ok.step rh1 st1
  refine wpAny_mono (ho m _ H1 q1 A s1 ok1) ?_ fun zz zz e => e
  rintro o' s2 ⟨ov, H2, r2, rh2, st2, q2⟩
  have ok2 := ok1.step rh2 st2
  refine wpAny_mono (hk m _ H2 q2 A s2 ok2) ?_ fun zz zz e => e
  rintro k' s3 ⟨kv, H3, r3, rh3, st3, q3⟩
  have ok3 := ok2.step rh3 st3
  have st := (st1.trans st2).trans st3
  have rv := r1.sta (st2.trans st3).sta
  rcases q3 with ⟨a, i, l, rfl, rfl, el, h0, h1, hi, q⟩ | ⟨a, i, es, rfl, rfl, el, hz, q⟩ | ⟨a, ks, es, rfl, rfl, el, hz, q⟩
  · cases r2; cases r3
    obtain ⟨vs, hl, rl⟩ := rh3.obj _ _ el
    have hlen := rl.length
    refine wpAny_setItem_plain hl h0 (by lia) (by simp; lia) fun h' hl' hsb => ?_
    obtain ⟨ob, eob, nst⟩ := (rh3.obj _ _ el).not_still
    have sta : Sta s3.heap h' := Sta.but hsb.extBut eob nst
    have rl' : VRs h' (l.set i.toNat v) (vs.set i.toNat v') := (VRs.set rv i.toNat rl).sta sta
    obtain ⟨kk, hl''⟩ := id hl'
    have rh4 : RH c.prog c.w c.base (H3.put a (.list (l.set i.toNat v))) h' := rh3.set el (by intro _; simp) (by intros; simp) hsb ⟨_, by simpa using hl', rl'⟩
    have st4 : Stp noOwn H3 s3 (H3.put a (.list (l.set i.toNat v))) { s3 with heap := h' } := Stp.set _ _ s3.toks el eob nst hsb (by rw [hl'']; rfl) (fun zz h => nomatch h)
    exact ⟨.next, _, _, trivial, rh4, (ok3.step rh4 st4).fr, (st.trans st4).lo, q⟩
  · cases r2; cases r3
    obtain ⟨vs, hd, rl⟩ := rh3.obj _ _ el
    have hlen := rl.length
    have hl2 : vs.length = es.length := by simpa using hlen
    refine setItem_at (knd := intKind c.prog c.w) (int_is c.prog c.w i _) hd (by rw [sizeLine_eq]; simp; lia) fun h' hd' hsb => ?_
    obtain ⟨ob, eob, nst⟩ := (rh3.obj _ _ el).not_still
    have sta : Sta s3.heap h' := Sta.but hsb.extBut eob nst
    obtain ⟨ws, e1, rw', e2⟩ := putI_stored (k := i) rv es vs rl
    rw [e1, e2] at hd'
    obtain ⟨_, e3, _⟩ := not_still_dictAt hd'
    have rh4 : RH c.prog c.w c.base (H3.put a (.dictI (putI es i v))) h' := rh3.set el (by intro _; simp) (by intros; simp) hsb ⟨_, hd', rw'.sta sta⟩
    have st4 : Stp noOwn H3 s3 (H3.put a (.dictI (putI es i v))) { s3 with heap := h', toks := s3.toks + 1 } := Stp.set _ _ (s3.toks + 1) el eob nst hsb (by rw [e3]; rfl) (fun zz h => nomatch h)
    exact ⟨.next, _, _, trivial, rh4, (ok3.step rh4 st4).fr, (st.trans st4).lo, q⟩
  · cases r2
    refine VR.tupE r3 fun us ta it rk => ?_
    obtain ⟨xs, hd, e, rl⟩ := rh3.obj _ _ el
    have e0 : xs.length = es.length := by simpa using congrArg List.length e
    refine wpAny_setItem_heap (knd := tupleKind (intKind c.prog c.w)) (tupleKind_room_in1 (by have := ok.room.2.2; lia)) (tup_key it rk) hd (fun h' hd' hsb => ?_) (by rw [sizeLine_eq]; lia)
    obtain ⟨ob, eob, nst⟩ := (rh3.obj _ _ el).not_still
    have sta : Sta s3.heap h' := Sta.but hsb.extBut eob nst
    obtain ⟨e1, r1'⟩ := putI_storedH (k := ks) (a := ta) rv es xs e rl
    obtain ⟨_, _, _, e3, _⟩ := id hd'
    have rh4 : RH c.prog c.w c.base (H3.put a (.dictT (putI es ks v))) h' := rh3.set el (by intro _; simp) (by intros; simp) hsb ⟨_, hd', e1, r1'.sta sta⟩
    have st4 : Stp noOwn H3 s3 (H3.put a (.dictT (putI es ks v))) { s3 with heap := h', toks := s3.toks + (tupleKind (intKind c.prog c.w)).draws ks } := Stp.set _ _ _ el eob nst hsb (by rw [e3]; rfl) (fun zz h => nomatch h)
    exact ⟨.next, _, _, trivial, rh4, (ok3.step rh4 st4).fr, (st.trans st4).lo, q⟩
end
end Mine
set_option tactic.hygienic false
open PySem PySem.W PySem.Calls PyProof PyProof.Rows PySem.SeqAt
set_option maxRecDepth 100000
namespace Mine
section
variable {c : Cx} {n : Nat} {env : Env} {m m' : Lo} {H H' H₀ : Hp} {A : Around} {s s' s'' : Shared}
inductive Cur (H₀ : Hp) (h : Heap) (I : Addr) : List V → Option Addr → Nat → Prop
  | list {a l i} : H₀ a = some (.list l) → h.IsListIter I a i → Cur H₀ h I l (some a) i
  | dict {a es i} : H₀ a = some (.dictI es) → h.IsKeyIter I a i es.length es.length → Cur H₀ h I (es.map fun e => V.int e.1) (some a) i
  | tup {l vs ta i} : h.IsTuple ta vs.toArray → VRs h l vs → h.IsTupleIter I ta i → Cur H₀ h I l none i
  | rng {lo hi : Int} {i : Nat} : IsRangeIter h I (lo + (i : Int)) ((hi - lo).toNat - (i : Int)) 1 → Cur H₀ h I ((List.range (hi - lo).toNat).map fun (k : Nat) => V.int (lo + (k : Int))) none i
  | strA {x : Str} {t i} : h.IsStrIter I "str_ascii_iterator" x t i → Cur H₀ h I (x.cps.toList.map fun ch => V.str ⟨#[ch]⟩) none i
  | strW {x : Str} {t i} : h.IsStrIter I "str_iterator" x t i → Cur H₀ h I (x.cps.toList.map fun ch => V.str ⟨#[ch]⟩) none i
theorem Cur.obj {I : Addr} {l src i} {h : Heap} (x : Cur H₀ h I l src i) : ∃ ob, h.get? I = some ob ∧ ¬ Still ob ∧ ∃ T vs, ob.cls = .type T ∧ ob.data = .fields vs ∧ ["enumerate", "zip", "dict_itemiterator", "dict_reverseitemiterator", "odict_iterator", "itertools.zip_longest", "itertools.pairwise"].contains T = false := by
  cases x with
  | list _ h => obtain ⟨o, e, hc, hd⟩ := h; exact ⟨o, e, not_still_cls hc (by decide) (by decide), _, _, hc, hd, by decide⟩
  | dict _ h => obtain ⟨o, e, hc, hd⟩ := h; exact ⟨o, e, not_still_cls hc (by decide) (by decide), _, _, hc, hd, by decide⟩
  | tup _ _ h => obtain ⟨o, e, hc, hd⟩ := h; exact ⟨o, e, not_still_cls hc (by decide) (by decide), _, _, hc, hd, by decide⟩
  | rng h => exact ⟨_, h, not_still_cls rfl (by decide) (by decide), _, _, rfl, rfl, by decide⟩
  | strA h => obtain ⟨o, e, hc, hd⟩ := h; exact ⟨o, e, not_still_cls hc (by decide) (by decide), _, _, hc, hd, by decide⟩
  | strW h => obtain ⟨o, e, hc, hd⟩ := h; exact ⟨o, e, not_still_cls hc (by decide) (by decide), _, _, hc, hd, by decide⟩
theorem Cur.at {I : Addr} {l src i} {h h' : Heap} (x : Cur H₀ h I l src i) (t : Sta h h') (k : ∀ o, h.get? I = some o → h'.get? I = some o) : Cur H₀ h' I l src i := by
  cases x with
  | list e h => obtain ⟨o, a, b⟩ := h; exact .list e ⟨o, k o a, b⟩
  | dict e h => obtain ⟨o, a, b⟩ := h; exact .dict e ⟨o, k o a, b⟩
  | tup e r h => obtain ⟨o, a, b⟩ := h; exact .tup (t.tuple e) (r.sta t) ⟨o, k o a, b⟩
  | rng h => exact .rng (k _ h)
  | strA h => obtain ⟨o, a, b⟩ := h; exact .strA ⟨o, k o a, b⟩
  | strW h => obtain ⟨o, a, b⟩ := h; exact .strW ⟨o, k o a, b⟩
theorem small_of {lo hi : Int} (h : -100000 < lo ∧ lo < 100000 ∧ -100000 < hi ∧ hi < 100000) : Builtin.Range.small lo hi 1 = true ∧ Builtin.Range.rangeSize lo hi 1 = ((hi - lo).toNat : Int) := by
  have e : Builtin.Range.rangeSize lo hi 1 = ((hi - lo).toNat : Int) := by
    unfold Builtin.Range.rangeSize
    simp only [show (1 : Int) > 0 by decide, if_true, Int.ediv_one]
    split <;> lia
  refine ⟨?_, e⟩
  unfold Builtin.Range.small
  rw [e]
  unfold Builtin.Range.rangeFitsLong
  simp only [Bool.and_eq_true, Bool.or_eq_true, beq_iff_eq, decide_eq_true_eq]
  refine ⟨⟨⟨⟨⟨?_, ?_⟩, ?_, ?_⟩, ?_⟩, ?_, ?_⟩, .inr ?_⟩
  all_goals first | lia | (rw [if_pos (by decide)]; simp only [Bool.and_eq_true, decide_eq_true_eq]; lia)
theorem iter_ref {a : Addr} {l : List V} {src : Option Addr} (e : iterQ H (.ref a) = some (l, src)) : (H a = some (.list l) ∧ src = some a) ∨ ∃ es, H a = some (.dictI es) ∧ l = es.map (fun e => .int e.1) ∧ src = some a := by
  unfold iterQ at e
  dsimp only at e
  cases q : H a with
  | none => rw [q] at e; cases (e)
  | some o =>
    rw [q] at e
    cases o with
    | list k => cases (e); exact .inl ⟨rfl, rfl⟩
    | dictI k => cases (e); exact .inr ⟨k, rfl, rfl, rfl⟩
    | _ => cases (e)
set_option tactic.hygienic true in
theorem cur_new {v : V} {v' : Value} {l : List V} {src : Option Addr} {Q : Value → Shared → Prop} {E : Value → Shared → Prop} (C : CxOk c) (rh : RH c.prog c.w c.base H s.heap) (r : VR s.heap v v') (e : iterQ H v = some (l, src))
    (k : ∀ ob, ob.isFreed = false → Cur H (s.heap.push ob) s.heap.objs.size l src 0 → Q (.ref s.heap.objs.size) { s with heap := s.heap.push ob }) : wpAny (M c) A (pyIter v') Q E s := by
  cases v with
  | tup l0 =>
    cases e
    refine VR.tupE r fun vs ta it rva => ?_
    exact wpAny_pyIter_tuple it (k _ rfl (.tup (it.push _) (rva.sta (Sta.push _ _)) ⟨_, Heap.get?_push_size _ rfl, rfl, rfl⟩))
  | rng lo hi =>
    cases e
    cases r with
    | rng b hr =>
    obtain ⟨h1, h2⟩ := small_of b
    refine wpAny_pyIter_range hr h1 (k _ rfl (.rng ?_))
    rw [h2]
    simpa [IsRangeIter] using Heap.get?_push_size _ rfl
  | str x =>
    cases e
    cases r
    rename_i t
    cases ha : x.cps.all (· < 128)
    · exact wpAny_pyIter_wide ha (k _ rfl (.strW ⟨_, Heap.get?_push_size _ rfl, rfl, rfl⟩))
    · exact wpAny_pyIter_ascii ha (k _ rfl (.strA ⟨_, Heap.get?_push_size _ rfl, rfl, rfl⟩))
  | ref a =>
    cases r
    rcases iter_ref e with ⟨el, rfl⟩ | ⟨es, el, rfl, rfl⟩
    · obtain ⟨vs, hl, _⟩ := rh.obj _ _ el
      exact wpAny_pyIter_list hl.isList (k _ rfl (.list el ⟨_, Heap.get?_push_size _ rfl, rfl, rfl⟩))
    · obtain ⟨vs, hd, rl⟩ := rh.obj _ _ el
      have e1 : ((es.map (fun zz => zz.1)).zip vs).length = es.length := by have := rl.length; simp at this ⊢; lia
      refine wpAny_pyIter_dict (Ok.not_mods C rh el) hd ?_
      rw [e1]
      exact k _ rfl (.dict el ⟨_, Heap.get?_push_size _ rfl, rfl, rfl⟩)
  | _ => cases e
theorem cur_item {I : Addr} {v : V} {l : List V} {src : Option Addr} {i : Nat} {Q : Option Value → Shared → Prop} {E : Value → Shared → Prop} (rh : RH c.prog c.w c.base H s.heap) (cu : Cur H₀ s.heap I l src i) (hst : StillAt src H₀ H) (hx : l[i]? = some v)
    (k : ∀ v' h' t, VR h' v v' → Cur H₀ h' I l src (i + 1) → Heap.SameBut I s.heap h' → Q (some v') { s with heap := h', toks := t }) : wpAny (M c) A (pyNext (.ref I)) Q E s := by
  obtain ⟨ob, eob, nst, _⟩ := cu.obj
  have sta : ∀ {h'}, Heap.SameBut I s.heap h' → Sta s.heap h' := fun hs => Sta.but hs.extBut eob nst
  cases cu with
  | @list a _ _ e hi =>
    have el : H a = some (.list l) := (hst a rfl).trans e
    obtain ⟨vs, hl, r⟩ := rh.obj _ _ el
    obtain ⟨v', e', rv⟩ := r.get hx
    exact wpAny_pyNext_list_item hi hl.isList (by simpa using e') fun h' hi' hs => k v' h' s.toks (rv.sta (sta hs)) (.list e hi') hs
  | @dict a es _ e hi =>
    have el : H a = some (.dictI es) := (hst a rfl).trans e
    obtain ⟨vs, hd, r⟩ := rh.obj _ _ el
    have e1 : ((es.map (fun zz => zz.1)).zip vs).length = es.length := by have := r.length; simp at this ⊢; lia
    rw [List.getElem?_map] at hx
    obtain ⟨en, he, rfl⟩ := Option.map_eq_some_iff.mp hx
    obtain ⟨v1, e2, _⟩ := r.get (i := i) (by rw [List.getElem?_map, he]; rfl)
    refine wpAny_pyNext_dict_item (knd := intKind c.prog c.w) (k := en.1) (v := v1) (by rw [e1]; exact hi) hd (by rw [List.getElem?_zip_eq_some]; exact ⟨by rw [List.getElem?_map, he]; rfl, e2⟩) fun key h' hk hi' hs => ?_
    obtain ⟨t, rfl⟩ := Value.isInt_shape hk
    rw [e1] at hi'
    exact k _ h' s.toks (.int _ _) (.dict e hi') hs
  | @tup _ vs ta _ it r hi =>
    obtain ⟨v', e', rv⟩ := r.get hx
    exact wpAny_pyNext_tuple_item hi it (by simpa using e') fun h' hi' hs => k v' h' s.toks (rv.sta (sta hs)) (.tup ((sta hs).tuple it) (r.sta (sta hs)) hi') hs
  | @rng lo hi i hi' =>
    rw [List.getElem?_map] at hx
    obtain ⟨j, he, rfl⟩ := Option.map_eq_some_iff.mp hx
    obtain ⟨hlt, ej⟩ := List.getElem?_eq_some_iff.mp he
    simp only [List.length_range] at hlt
    simp only [List.getElem_range] at ej
    subst ej
    refine wpAny_pyNext_range_item hi' (by lia) fun h' h2 hs => k _ h' _ (.int _ _) (.rng ?_) hs
    rw [show lo + ((i + 1 : Nat) : Int) = lo + (i : Int) + 1 by lia, show ((hi - lo).toNat : Int) - ((i + 1 : Nat) : Int) = (hi - lo).toNat - (i : Int) - 1 by lia]
    exact h2
  | @strA x t _ hi =>
    rw [List.getElem?_map] at hx
    obtain ⟨ch, he, rfl⟩ := Option.map_eq_some_iff.mp hx
    exact wpAny_pyNext_ascii_item hi (c := ch) (by simpa using he) fun h' hi' hs => k _ h' _ (.str _ _) (.strA hi') hs
  | @strW x t _ hi =>
    rw [List.getElem?_map] at hx
    obtain ⟨ch, he, rfl⟩ := Option.map_eq_some_iff.mp hx
    exact wpAny_pyNext_wide_item hi (c := ch) (by simpa using he) fun h' hi' hs => k _ h' _ (.str _ _) (.strW hi') hs
theorem cur_end {I : Addr} {l : List V} {src : Option Addr} {i : Nat} {Q : Option Value → Shared → Prop} {E : Value → Shared → Prop} (hh : A.handled = none) (rh : RH c.prog c.w c.base H s.heap) (cu : Cur H₀ s.heap I l src i) (hst : StillAt src H₀ H) (hx : l.length ≤ i)
    (k : ∀ h' t, Heap.ExtBut I s.heap h' → Q none { s with heap := h', toks := t }) : wpAny (M c) A (pyNext (.ref I)) Q E s := by
  cases cu with
  | @list a _ _ e hi =>
    have el : H a = some (.list l) := (hst a rfl).trans e
    obtain ⟨vs, hl, r⟩ := rh.obj _ _ el
    have := r.length
    exact wpAny_pyNext_list_end hh hi hl.isList (by simp; lia) fun h' he => k h' s.toks he
  | @dict a es _ e hi =>
    have el : H a = some (.dictI es) := (hst a rfl).trans e
    obtain ⟨vs, hd, r⟩ := rh.obj _ _ el
    have e1 : ((es.map (fun zz => zz.1)).zip vs).length = es.length := by have := r.length; simp at this ⊢; lia
    refine wpAny_pyNext_dict_end (knd := intKind c.prog c.w) hh (by rw [e1]; exact hi) hd ?_ fun h' he => k h' s.toks he
    rw [List.getElem?_eq_none_iff, e1]; simpa using hx
  | @tup _ vs ta _ it r hi =>
    have := r.length
    exact wpAny_pyNext_tuple_end hh hi it (by simp; lia) fun h' he => k h' s.toks he
  | @rng lo hi i hi' =>
    simp only [List.length_map, List.length_range] at hx
    exact wpAny_pyNext_range_end hh hi' (by lia) fun h' he => k h' s.toks he
  | @strA x t _ hi =>
    simp only [List.length_map, Array.length_toList] at hx
    exact wpAny_pyNext_ascii_end hh hi (by simp; lia) fun h' he => k h' s.toks he
  | @strW x t _ hi =>
    simp only [List.length_map, Array.length_toList] at hx
    exact wpAny_pyNext_wide_end hh hi (by simp; lia) fun h' he => k h' s.toks he
theorem ownGo (t : Expr) (I : Addr) (v : Value) : letOwnedTupleGo t (.ref I) v = pure () ∨ ∃ (a : Addr) (f : Obj → Sem Unit), letOwnedTupleGo t (.ref I) v = (load I >>= f) ∧
    ∀ o T vs, o.cls = .type T → o.data = .fields vs → ∃ g : Sem Unit, f o = if (["enumerate", "zip", "dict_itemiterator", "dict_reverseitemiterator", "odict_iterator", "itertools.zip_longest", "itertools.pairwise"].contains T && vs[0]? == some (rawInt a)) = true then g else pure () := by
  cases t with
  | Tuple => cases v with
    | ref a => exact .inr ⟨a, _, rfl, fun o T vs e1 e2 => by rw [e1, e2]; exact ⟨_, rfl⟩⟩
    | _ => exact .inl rfl
  | List => cases v with
    | ref a => exact .inr ⟨a, _, rfl, fun o T vs e1 e2 => by rw [e1, e2]; exact ⟨_, rfl⟩⟩
    | _ => exact .inl rfl
  | _ => exact .inl rfl
theorem cur_go {I : Addr} {l : List V} {src : Option Addr} {i : Nat} {target : Expr} {v' : Value} {Q : Unit → Shared → Prop} {E : Value → Shared → Prop} (cu : Cur H₀ s.heap I l src i) (q : Q () s) : wpAny (M c) A (letOwnedTupleGo target (.ref I) v') Q E s := by
  rcases ownGo target I v' with e | ⟨a, f, e, hf⟩
  · rw [e]; exact wpAny_pure q
  · obtain ⟨ob, eob, _, T, vs, hc, hd, hT⟩ := cu.obj
    rw [e]
    refine wpAny_bind (wpAny_load eob ?_)
    obtain ⟨g, e⟩ := hf ob T vs hc hd
    rw [e, hT, Bool.false_and, if_neg (by decide)]
    exact wpAny_pure q
end
end Mine
set_option tactic.hygienic false
open PySem PySem.W PySem.Calls PyProof PyProof.Rows PySem.SeqAt
set_option maxRecDepth 100000
namespace Mine
section
variable {c : Cx} {n : Nat} {env : Env} {m m' : Lo} {H H' H₀ : Hp} {A : Around} {s s' s'' : Shared}
theorem bot_any {α : Type} {M : Model} {t : Sem α} {Q : α → Shared → Prop} {E : Value → Shared → Prop} (h : wpAny M A t Q bot s) : wpAny M A t Q E s := wpAny_mono h (fun zz zz q => q) fun zz zz e => e.elim
theorem s_whl {t : Expr} {b : List Stmt} {pos : Pos} {tx : X} {bx : Ss} (ht : SndB c n env t tx) (hb : SndSs c n env b bx) : SndS c n env (.While t b [] pos) (.whl tx bx) := by
  rintro m Q H ⟨I, ⟨k0, hI⟩, step⟩ A s ok
  refine wpAny_While (codeAny_whileLoop (fun k s' => ∃ m' H', I k m' H' ∧ Ok c n env m' H' A s' ∧ Stp (Own env) H s H' s') ?_ k0 ⟨m, H, hI, ok, Stp.refl⟩)
  rintro k s1 ⟨m1, H1, hI1, ok1, st1⟩
  refine bot_any (wpAny_mono (ht m1 _ H1 (step k m1 H1 hI1) A s1 ok1) ?_ fun zz zz e => e)
  rintro r s2 ⟨H2, rh2, st2, k2⟩
  have ok2 := ok1.step rh2 st2
  have stA := st1.trans st2.lo
  cases r with
  | false =>
    refine wpAny_execs_nil ?_
    exact ⟨.next, _, _, trivial, rh2, ok2.fr, stA, k2.2 rfl⟩
  | true =>
    refine bot_any (wpAny_mono (hb m1 _ H2 (k2.1 rfl) A s2 ok2) ?_ fun zz zz e => e)
    rintro f s3 ⟨fl, m3, H3, r3, rh3, fr3, st3, q3⟩
    match fl, f, r3 with
    | .next, .next, _ =>
      obtain ⟨j, hj, hIj⟩ := q3
      exact ⟨j, hj, m3, H3, hIj, ok2.stepO rh3 fr3 st3, stA.trans st3⟩
    | .ret v, .ret v', r => exact ⟨.ret v, m3, H3, r, rh3, fr3, stA.trans st3, q3⟩
theorem FrM.at {h h' : Heap} (F : FrM c env m h) (t : Sta h h') (k : ∀ a o, Own env a → h.get? a = some o → h'.get? a = some o) : FrM c env m h' := by
  obtain ⟨m', ns, hm⟩ := F.ns
  refine ⟨⟨m', ?_, fun i v kk e => ?_⟩, fun i kk hk hc => ?_⟩
  · obtain ⟨o, es, ep, ho, r⟩ := ns
    exact ⟨o, es, ep, k _ _ (.inl rfl) ho, r⟩
  · obtain ⟨v', e', r⟩ := hm i v kk e
    exact ⟨v', e', r.sta t⟩
  · obtain ⟨a, ov, hl, ⟨o, ho, hd⟩, hv⟩ := F.cel i kk hk hc
    exact ⟨a, ov, hl, ⟨o, k _ _ (.inr ⟨_, mem_of_lookup hl⟩) ho, hd⟩, fun v e => let ⟨v', e', r⟩ := hv v e; ⟨v', e', r.sta t⟩⟩
theorem Stp.drop {own own' : Addr → Prop} (x : Stp own' H s H' s') (h : ∀ a, own' a → own a ∨ s.heap.get? a = none) : Stp own H s H' s' :=
  ⟨fun a o e e' n => x.keep a o e e' fun q => (h a q).elim n fun z => (by rw [e] at z; cases z), x.new, x.sta, x.live, x.rest, x.ro⟩
theorem Ok.clear {P : Addr → Prop} (ok : Ok c n env m H A s) (rh : RH c.prog c.w c.base H' s'.heap) (st : Stp P H s H' s') (d : ∀ a, Own env a → ¬ P a) : Ok c n env m H' A s' := by
  have hn : ∀ a, Own env a → (s'.heap.get? a).isSome = true ∧ H' a = none := fun a ha => by
    obtain ⟨h1, h2, _⟩ := ok.free a ha
    refine ⟨st.live a h1, ?_⟩
    cases q : H' a with
    | none => rfl
    | some x =>
      rcases st.new a (by rw [q]; simp) with z | z
      · exact absurd h2 z
      · rw [z] at h1; cases h1
  exact ⟨ok.room, rh, ok.fr.at st.sta fun a o ha e => st.keep a o e (ok.free a ha).2.1 (d a ha), fun a ha => ⟨(hn a ha).1, (hn a ha).2, (ok.free a ha).2.2⟩⟩
structure Gd (c : Cx) (env : Env) (H : Hp) (s : Shared) (I : Addr) : Prop where
  live : (s.heap.get? I).isSome = true
  non : H I = Option.none
  base : c.base.get? I = Option.none
  own : ¬ Own env I
theorem Gd.stp {I : Addr} {P : Addr → Prop} (g : Gd c env H s I) (st : Stp P H s H' s') : Gd c env H' s' I :=
  ⟨st.live I g.live, (by
    cases q : H' I with
    | none => rfl
    | some x =>
      rcases st.new I (by rw [q]; simp) with z | z
      · exact absurd g.non z
      · have := g.live; rw [z] at this; cases this), g.base, g.own⟩
theorem Gd.new (ok : Ok c n env m H A s) {ob : Obj} (hob : ob.isFreed = false) : Gd c env H { s with heap := s.heap.push ob } s.heap.objs.size :=
  ⟨by show ((s.heap.push ob).get? _).isSome = true; rw [Heap.get?_push_size _ hob]; rfl, ok.rh.none_size, ok.rh.base_none size_free, fun h => by have := (ok.free _ h).1; rw [size_free] at this; cases this⟩
theorem Gd.put {I : Addr} {ob : Obj} {h' : Heap} (g : Gd c env H s I) (rh : RH c.prog c.w c.base H s.heap) (t : Nat) (e : s.heap.get? I = some ob) (nst : ¬ Still ob) (hs : Heap.ExtBut I s.heap h') (hl : (h'.get? I).isSome = true) :
    RH c.prog c.w c.base H h' ∧ Stp (fun a => a = I) H s H { s with heap := h', toks := t } :=
  ⟨rh.own g.non g.base e nst hs, ⟨fun b o eb zz nb => hs b o nb eb, fun zz h => .inl h, Sta.but hs e nst, fun b hb => by
    by_cases q : b = I
    · subst q; exact hl
    · obtain ⟨o, eo⟩ := Option.isSome_iff_exists.mp hb
      show (h'.get? b).isSome = true
      rw [hs b o q eo]; rfl, rfl, fun b l o e1 e2 => ⟨e1, hs b o (by rintro rfl; rw [g.non] at e1; cases e1) e2⟩⟩⟩
inductive TgOk (c : Cx) (env : Env) : Expr → Tg → Prop
  | one {x p i} : x = c.nm i → (env.kindOf x = some .local ∨ env.kindOf x = some .cell) → TgOk c env (.Name x p) (.one i)
  | two {x y p p2 k tp i j} : x = c.nm i → y = c.nm j → (env.kindOf x = some .local ∨ env.kindOf x = some .cell) → (env.kindOf y = some .local ∨ env.kindOf y = some .cell) → TgOk c env (.Tuple [.Name x p, .Name y p2] k tp) (.two i j)
theorem asg_twoE {i j : Nat} {v : V} {m' : Lo} (e : asgT (.two i j) v m = some m') : ∃ a b, v = .tup [a, b] ∧ m' = (m.put i a).put j b := by
  cases v with
  | tup l =>
    cases l with
    | nil => cases (e)
    | cons a l => cases l with
      | nil => cases (e)
      | cons b l => cases l with
        | nil => cases (e); exact ⟨a, b, rfl, rfl⟩
        | cons => cases (e)
  | _ => cases (e)
set_option tactic.hygienic true in
theorem assign_ok (C : CxOk c) (E : EnvOk env) {t : Expr} {tg : Tg} {v : V} {v' : Value} {m' : Lo} {Q : Unit → Shared → Prop} {E' : Value → Shared → Prop} (ht : TgOk c env t tg) (ok : Ok c n env m H A s) (rv : VR s.heap v v') (e : asgT tg v m = some m')
    (k : ∀ s', RH c.prog c.w c.base H s'.heap → FrM c env m' s'.heap → Stp (Own env) H s H s' → Q () s') : wpAny (M c) A (assign t env v') Q E' s := by
  cases ht with
  | @one x p i hx hk =>
    subst hx
    cases (e)
    exact wpAny_assign_Name (store_ok C E ok hk rv fun s' a b d zz => k s' a b d)
  | @two x y p p2 kk tp i j hx hy hkx hky =>
    subst hx; subst hy
    obtain ⟨a, b, rfl, rfl⟩ := asg_twoE e
    · refine VR.tup2E rv fun ta va vb it ra rb => ?_
      refine wpAny_assign_Tuple ok.room.1 it rfl rfl fun h2 he2 => ?_
      have k2 : ∀ b o, s.heap.get? b = some o → h2.get? b = some o := fun b o e => he2 b o (Nat.ne_of_lt (Heap.lt_size e)) e
      have st2 : Stp noOwn H s H { s with heap := h2 } := Stp.grow s.toks k2
      have ok2 : Ok c n env m H A { s with heap := h2 } := ok.step (ok.rh.grow k2) st2
      show wpAny _ _ (assignInOrder [assign (.Name (c.nm i) p) env, assign (.Name (c.nm j) p2) env] [_, _]) _ _ _
      refine assignInOrder_cons (wpAny_assign_Name ?_)
      refine store_ok C E ok2 hkx (ra.sta st2.sta) fun s3 rh3 fr3 st3 sta3 => ?_
      have ok3 := ok2.stepO rh3 fr3 st3
      refine assignInOrder_cons (wpAny_assign_Name ?_)
      refine store_ok C E ok3 hky ((rb.sta st2.sta).sta sta3) fun s4 rh4 fr4 st4 zz => ?_
      refine assignInOrder_nil ?_
      exact k s4 rh4 fr4 ((st2.lo.trans st3).trans st4)
theorem s_for {t it : Expr} {b : List Stmt} {pos : Pos} {tg : Tg} {ix : X} {bx : Ss} (C : CxOk c) (E : EnvOk env) (ht : TgOk c env t tg) (hi : Snd c n env it ix) (hb : SndSs c n env b bx) (hs : ∀ x, foldedSetIterable it env x = pure x) :
    SndS c n env (.For t it b [] pos) (.for tg ix bx) := by
  intro m Q H q A s ok
  refine wpAny_For (wpAny_mono (hi m _ H q A s ok) ?_ fun zz zz e => e) hs
  rintro v' s1 ⟨v, H1, r1, rh1, st1, l, src, hl, q1⟩
  have ok1 := ok.step rh1 st1
  refine cur_new C rh1 r1 hl fun ob hob cu => ?_
  generalize hI : s1.heap.objs.size = I at cu ⊢
  have hI1 : s1.heap.get? I = none := by rw [← hI]; exact size_free
  have g0 : Gd c env H1 { s1 with heap := s1.heap.push ob } I := by rw [← hI]; exact Gd.new ok1 hob
  have ok2 : Ok c n env m H1 A { s1 with heap := s1.heap.push ob } := ok1.step (rh1.push _) (Stp.push ob s1.toks)
  have st2 : Stp (fun a => Own env a ∨ a = I) H1 s1 H1 { s1 with heap := s1.heap.push ob } := Stp.push ob s1.toks
  refine codeAny_forLoop_any (fun k s' => ∃ i m' H', k = l.length + 1 - i ∧ i ≤ l.length ∧ forGo (fun x K R m H => ∃ m', asgT tg x m = some m' ∧ swps c n bx (fun f m'' H' => match f with | .next => K m'' H' | .ret v => R v m'' H') m' H) src H1 Q (l.drop i) m' H' ∧
      Ok c n env m' H' A s' ∧ Gd c env H' s' I ∧ Cur H1 s'.heap I l src i ∧ Stp (fun a => Own env a ∨ a = I) H1 s1 H' s') ?_ (l.length + 1) ⟨0, m, H1, rfl, Nat.zero_le _, q1, ok2, g0, cu, st2⟩
  rintro k s3 ⟨i, m3, H3, rfl, hile, q3, ok3, g3, cu3, st3⟩
  obtain ⟨oI, eI, nstI, _⟩ := cu3.obj
  have dis : ∀ a, Own env a → ¬ (a = I) := fun a ha e => g3.own (e ▸ ha)
  cases hd : l.drop i with
  | nil =>
    rw [hd] at q3
    obtain ⟨hst, q3⟩ := q3
    have hle : l.length ≤ i := by simpa using hd
    refine cur_end ok.room.1 ok3.rh cu3 hst hle fun h' t he => ?_
    refine wpAny_execs_nil ?_
    have hl' : ∀ b o, b ≠ I → s3.heap.get? b = some o → h'.get? b = some o := he
    refine ⟨.next, m3, H3, trivial, ok3.rh.own g3.non g3.base eI nstI he, ok3.fr.at (Sta.but he eI nstI) fun a o ha e => he a o (dis a ha) e, ?_, q3⟩
    refine st1.lo.trans ⟨fun a o e e' na => ?_, st3.new, st3.sta.trans (Sta.but he eI nstI), fun a ha => ?_, rest_trans st3.rest rfl, fun a l o e1 e2 => let ⟨p, q⟩ := st3.ro a l o e1 e2; ⟨p, he a o (by rintro rfl; rw [hI1] at e2; cases e2) q⟩⟩
    · have ne : a ≠ I := by rintro rfl; rw [hI1] at e; cases e
      exact he a o ne (st3.keep a o e e' fun z => z.elim na ne)
    · have ne : a ≠ I := by rintro rfl; rw [hI1] at ha; cases ha
      obtain ⟨o, e⟩ := Option.isSome_iff_exists.mp (st3.live a ha)
      show (h'.get? a).isSome = true
      rw [he a o ne e]; rfl
  | cons x r =>
    rw [hd] at q3
    obtain ⟨hst, m4, ha4, q4⟩ := q3
    have hx : l[i]? = some x := by
      have := congrArg (fun z => z[0]?) hd
      simpa [List.getElem?_drop] using this
    have hlt : i < l.length := (List.getElem?_eq_some_iff.mp hx).1
    have hr : l.drop (i + 1) = r := by
      have := congrArg (List.drop 1) hd
      simpa [List.drop_drop] using this
    refine cur_item ok3.rh cu3 hst hx fun v4' h4 t4 rv4 cu4 hs4 => ?_
    obtain ⟨o4, e4, _⟩ := cu4.obj
    obtain ⟨rh4, st4⟩ := g3.put ok3.rh t4 eI nstI hs4.extBut (by rw [e4]; rfl)
    have ok4 := ok3.clear rh4 st4 dis
    have g4 := g3.stp st4
    refine cur_go cu4 ?_
    refine assign_ok C E ht ok4 rv4 ha4 fun s5 rh5 fr5 st5 => ?_
    have ok5 := ok4.stepO rh5 fr5 st5
    have g5 := g4.stp st5
    have cu5 : Cur H1 s5.heap I l src (i + 1) := cu4.at st5.sta fun o e => st5.keep I o e g4.non g4.own
    refine bot_any (wpAny_mono (hb m4 _ H3 q4 A s5 ok5) ?_ fun zz zz e => e)
    rintro f s6 ⟨fl, m6, H6, r6, rh6, fr6, st6, q6⟩
    have stA : Stp (fun a => Own env a ∨ a = I) H1 s1 H6 s6 := (((st3.trans (st4.mono fun zz => .inr)).trans (st5.mono fun zz => .inl)).trans (st6.mono fun zz => .inl))
    match fl, f, r6 with
    | .next, .next, _ =>
      refine ⟨l.length + 1 - (i + 1), by lia, i + 1, m6, H6, rfl, hlt, by rw [hr]; exact q6, ok5.stepO rh6 fr6 st6, g5.stp st6, cu5.at st6.sta fun o e => st6.keep I o e g5.non g5.own, stA⟩
    | .ret v, .ret v', rr =>
      exact ⟨.ret v, m6, H6, rr, rh6, fr6, st1.lo.trans (stA.drop fun a h => h.imp id fun e => by rw [e]; exact hI1), q6⟩
end
end Mine
set_option tactic.hygienic false
open PySem PySem.W PySem.Calls PyProof PyProof.Rows PySem.SeqAt
set_option maxRecDepth 100000
namespace Mine
section
variable {c : Cx} {n : Nat} {env : Env} {m m' m2 : Lo} {H H' H₀ H1 : Hp} {A : Around} {s s' s'' s1 : Shared}
theorem cur_self {I : Addr} {l : List V} {src : Option Addr} {i : Nat} {Q : Value → Shared → Prop} {E : Value → Shared → Prop} (cu : Cur H₀ s.heap I l src i) (q : Q (.ref I) s) : wpAny (M c) A (pyIter (.ref I)) Q E s := by
  cases cu with
  | list _ h => exact wpAny_pyIter_listiter h q
  | dict _ h => exact wpAny_pyIter_keyiter h q
  | tup _ _ h => exact wpAny_pyIter_tupleiter h q
  | rng h => exact wpAny_pyIter_rangeiter h q
  | strA h => exact wpAny_pyIter_striter_ascii h q
  | strW h => exact wpAny_pyIter_striter_wide h q
structure CompE (c : Cx) (env : Env) (scope : Scope) (cl : List (Str × Addr)) (is : List Nat) : Prop where
  clos : closureFor scope env = pure cl
  kind : scope.kind = .function
  names : ∀ y ∈ scope.names, y.2 = .local → scope.names.lookup y.1 = some .local
  ncell : ∀ y ∈ scope.names, y.2 ≠ .cell
  loc : ∀ j, (relabel scope env).names.lookup (c.nm j) = some .local → j ∈ is
  isl : ∀ j ∈ is, scope.names.lookup (c.nm j) = some .local
  cel : ∀ j k, (relabel scope env).names.lookup (c.nm j) = some k → (k = .cell ∨ k = .free) → ∃ k', env.kindOf (c.nm j) = some k' ∧ (k' = .cell ∨ k' = .free) ∧ cl.lookup (c.nm j) = env.cells.lookup (c.nm j)
  sub : ∀ x ∈ cl, x ∈ env.cells
theorem cenv_ok {scope : Scope} {cl : List (Str × Addr)} {is : List Nat} {C : Addr} {mc : Str → Option Value} (CE : CompE c env scope cl is) (ok : Ok c n env m H A s) (hn : s.heap.Ns C mc) (g : Gd c env H s C)
    (h1 : ∀ j v, (compEnvC scope cl C env).kindOf (c.nm j) = some .local → m2 j = some v → ∃ v', mc (c.nm j) = some v' ∧ VR s.heap v v')
    (h2 : ∀ j k, (compEnvC scope cl C env).kindOf (c.nm j) = some k → (k = .cell ∨ k = .free) → m2 j = m j) : Ok c n (compEnvC scope cl C env) m2 H A s := by
  refine ⟨ok.room, ok.rh, ⟨⟨mc, hn, h1⟩, fun j k hk hc => ?_⟩, fun a ha => ?_⟩
  · obtain ⟨k', e1, e2, e3⟩ := CE.cel j k hk hc
    obtain ⟨a, ov, hl, hcell, hv⟩ := ok.fr.cel j k' e1 e2
    refine ⟨a, ov, by show cl.lookup _ = _; rw [e3]; exact hl, hcell, fun v e => hv v ?_⟩
    rw [← h2 j k hk hc]; exact e
  · rcases ha with ha | ⟨x, hx⟩
    · have : a = C := ha
      subst this
      exact ⟨g.live, g.non, g.base⟩
    · exact ok.free a (.inr ⟨x, CE.sub _ hx⟩)
noncomputable def goG (test : V → (Bool → Hp → Prop) → Hp → Prop) (turn : V → (V → Hp → Prop) → Hp → Prop) (src : Option Addr) (H₀ : Hp) (K : List V → Hp → Prop) : List V → List V → Hp → Prop
  | [], acc, H => StillAt src H₀ H ∧ K acc H
  | x :: r, acc, H => StillAt src H₀ H ∧ test x (fun t H' => both (turn x (fun v H'' => goG test turn src H₀ K r (acc ++ [v]) H'') H') (goG test turn src H₀ K r acc H') t) H
theorem both_true (P Q : Prop) : both P Q true = P := propext ⟨fun h => h.1 rfl, fun h => ⟨fun zz => h, fun e => (by cases e)⟩⟩
theorem compGo_G (turn : V → (V → Hp → Prop) → Hp → Prop) (src : Option Addr) (H₀ : Hp) (K : List V → Hp → Prop) : ∀ (l acc : List V) (H : Hp), compGo turn src H₀ K l acc H = goG (fun zz k => k true) turn src H₀ K l acc H
  | [], acc, H => rfl
  | x :: r, acc, H => by
    unfold compGo goG
    have e : ∀ acc H, compGo turn src H₀ K r acc H = goG (fun zz k => k true) turn src H₀ K r acc H := fun acc H => compGo_G turn src H₀ K r acc H
    simp only [e, both_true]
theorem compGoIf_G (test turn : V → (V → Hp → Prop) → Hp → Prop) (src : Option Addr) (H₀ : Hp) (K : List V → Hp → Prop) : ∀ (l acc : List V) (H : Hp), compGoIf test turn src H₀ K l acc H = goG (fun x k => test x (isB k)) turn src H₀ K l acc H
  | [], acc, H => rfl
  | x :: r, acc, H => by
    unfold compGoIf goG
    have e : ∀ acc H, compGoIf test turn src H₀ K r acc H = goG (fun x k => test x (isB k)) turn src H₀ K r acc H := fun acc H => compGoIf_G test turn src H₀ K r acc H
    simp only [e]
inductive CEnd (c : Cx) (n : Nat) (env : Env) (m : Lo) (Q : V → Hp → Prop) (H1 : Hp) (s1 : Shared) (A : Around) (D C : Addr) (s' : Shared) : Prop
  | mk (H'' : Hp) : Ok c n env m H'' A s' → Gd c env H'' s' C → (∃ mc, s'.heap.Ns C mc) → Stp noOwn H1 s1 H'' s' → s1.heap.get? C = none → Q (.ref D) H'' → CEnd c n env m Q H1 s1 A D C s'
structure CSt (c : Cx) (n : Nat) (env : Env) (m : Lo) (H1 : Hp) (s1 : Shared) (A : Around) (I D C : Addr) (l : List V) (src : Option Addr) (j : Nat) (acc : List V) (H : Hp) (s : Shared) : Prop where
  ok : Ok c n env m H A s
  gI : Gd c env H s I
  gD : Gd c env H s D
  gC : Gd c env H s C
  ID : I ≠ D
  IC : I ≠ C
  DC : D ≠ C
  cu : Cur H1 s.heap I l src j
  acc : ∃ vs, s.heap.PlainList D vs.toArray ∧ VRs s.heap acc vs
  ns : ∃ mc, s.heap.Ns C mc
  st : Stp (fun a => a = I ∨ a = D ∨ a = C) H1 s1 H s
  new : s1.heap.get? I = none ∧ s1.heap.get? D = none ∧ s1.heap.get? C = none
section
variable {I D C : Addr} {l : List V} {src : Option Addr} {j : Nat} {acc : List V}
theorem CSt.step {P : Addr → Prop} (x : CSt c n env m H1 s1 A I D C l src j acc H s) (rh : RH c.prog c.w c.base H' s'.heap) (st : Stp P H s H' s') (dI : ¬ P I) (dD : ¬ P D) (dC : ¬ P C) (dE : ∀ a, Own env a → ¬ P a) (dS : ∀ a, P a → s1.heap.get? a = none) :
    CSt c n env m H1 s1 A I D C l src j acc H' s' := by
  obtain ⟨vs, hp, r⟩ := x.acc
  obtain ⟨mc, hn⟩ := x.ns
  refine ⟨x.ok.clear rh st dE, x.gI.stp st, x.gD.stp st, x.gC.stp st, x.ID, x.IC, x.DC, x.cu.at st.sta fun o e => st.keep _ o e x.gI.non dI, ⟨vs, hp.at fun o e => st.keep _ o e x.gD.non dD, r.sta st.sta⟩,
    ⟨mc, hn.at' fun o e => st.keep _ o e x.gC.non dC⟩, ?_, x.new⟩
  refine Stp.drop (own' := fun a => (a = I ∨ a = D ∨ a = C) ∨ P a) ((x.st.mono fun zz => .inl).trans (st.mono fun zz => .inr)) fun a h => ?_
  rcases h with h | h
  · exact .inl h
  · exact .inr (dS a h)
theorem CSt.fin {Q : V → Hp → Prop} {h' : Heap} (t : Nat) (x : CSt c n env m H1 s1 A I D C l src j acc H s) (he : Heap.ExtBut I s.heap h') (q : newList Q acc H) : CEnd c n env m Q H1 s1 A D C { s with heap := h', toks := t } := by
  obtain ⟨vs, hp, r⟩ := x.acc
  obtain ⟨mc, hn⟩ := x.ns
  obtain ⟨oI, eI, nstI, _⟩ := x.cu.obj
  have sta : Sta s.heap h' := Sta.but he eI nstI
  have nDC : C ≠ D := Ne.symm x.DC
  have hp' : h'.PlainList D vs.toArray := hp.at fun o e => he D o (Ne.symm x.ID) e
  have rh0 : RH c.prog c.w c.base H h' := x.ok.rh.own x.gI.non x.gI.base eI nstI he
  have rh : RH c.prog c.w c.base (H.put D (.list acc)) h' := rh0.show (.list acc) x.gD.non x.gD.base (by intros; simp) ⟨vs, hp', r.sta sta⟩
  have lv : ∀ a, a ≠ I → (s.heap.get? a).isSome = true → (h'.get? a).isSome = true := fun a na ha => by
    obtain ⟨o, e⟩ := Option.isSome_iff_exists.mp ha
    rw [he a o na e]; rfl
  have ok : Ok c n env m (H.put D (.list acc)) A { s with heap := h', toks := t } := ⟨x.ok.room, rh, x.ok.fr.at sta fun a o ha e => he a o (by rintro rfl; exact x.gI.own ha) e, fun a ha => by
    obtain ⟨h1, h2, h3⟩ := x.ok.free a ha
    exact ⟨lv a (by rintro rfl; exact x.gI.own ha) h1, by rw [Hp.put_ne (by rintro rfl; exact x.gD.own ha)]; exact h2, h3⟩⟩
  obtain ⟨n1, n2, n3⟩ := x.new
  have nI : ∀ a, (s1.heap.get? a).isSome = true → a ≠ I ∧ a ≠ D ∧ a ≠ C := fun a ha => ⟨fun e => (by rw [e, n1] at ha; cases ha), fun e => (by rw [e, n2] at ha; cases ha), fun e => (by rw [e, n3] at ha; cases ha)⟩
  refine ⟨_, ok, ⟨lv C (Ne.symm x.IC) x.gC.live, by rw [Hp.put_ne nDC]; exact x.gC.non, x.gC.base, x.gC.own⟩, ⟨mc, hn.at' fun o e => he C o (Ne.symm x.IC) e⟩, ⟨fun a o e e' zz => ?_, fun a h => ?_, x.st.sta.trans sta, fun a ha => ?_, rest_trans x.st.rest rfl, fun a l o e1 e2 => let ⟨y1, y2, _⟩ := nI a (by rw [e2]; rfl); let ⟨p, q⟩ := x.st.ro a l o e1 e2; ⟨by rw [Hp.put_ne y2]; exact p, he a o y1 q⟩⟩, n3, q.2 D x.gD.non⟩
  · obtain ⟨y1, y2, y3⟩ := nI a (by rw [e]; rfl)
    exact he a o y1 (x.st.keep a o e e' fun z => by rcases z with z | z | z <;> contradiction)
  · by_cases z : a = D
    · rw [z]; exact .inr n2
    · rw [Hp.put_ne z] at h; exact x.st.new a h
  · exact lv a (nI a ha).1 (x.st.live a ha)
theorem CSt.setC {h5 : Heap} {mc mc5 : Str → Option Value} (t : Nat) (x : CSt c n env m H1 s1 A I D C l src j acc H s) (hn : s.heap.Ns C mc) (hn5 : h5.Ns C mc5) (hs5 : Heap.SameBut C s.heap h5) :
    CSt c n env m H1 s1 A I D C l src j acc H { s with heap := h5, toks := t } ∧ Stp (fun a => a = C) H s H { s with heap := h5, toks := t } := by
  obtain ⟨oC, esC, epC, eC, dC, _⟩ := id hn
  obtain ⟨oC5, _, _, eC5, _⟩ := id hn5
  obtain ⟨rh5, st5⟩ := x.gC.put x.ok.rh t eC (not_still_dict dC) hs5.extBut (by rw [eC5]; rfl)
  obtain ⟨vs, hp, racc⟩ := x.acc
  exact ⟨⟨x.ok.clear rh5 st5 (by rintro a ha rfl; exact x.gC.own ha), x.gI.stp st5, x.gD.stp st5, x.gC.stp st5, x.ID, x.IC, x.DC, x.cu.at st5.sta fun o e => hs5.extBut _ o x.IC e, ⟨vs, hp.at fun o e => hs5.extBut _ o x.DC e, racc.sta st5.sta⟩,
        ⟨_, hn5⟩, x.st.trans (st5.mono fun zz h => .inr (.inr h)), x.new⟩, st5⟩
theorem CSt.add {h8 : Heap} {vs7 : List Value} {kk : Nat} {y : V} {y' : Value} (x : CSt c n env m H1 s1 A I D C l src j acc H s) (hp7 : s.heap.get? D = some { cls := .type "list", data := .seq vs7.toArray kk })
    (hs8 : Heap.SameBut D s.heap h8) (e8 : h8.get? D = some { cls := .type "list", data := .seq (vs7.toArray.push y') (kk + 1) }) (racc7 : VRs s.heap acc vs7) (ry : VR s.heap y y') :
    CSt c n env m H1 s1 A I D C l src j (acc ++ [y]) H { s with heap := h8 } ∧ Stp (fun a => a = D) H s H { s with heap := h8 } := by
  have nst7 : ¬ Still { cls := .type "list", data := .seq vs7.toArray kk } := not_still_cls rfl (by decide) (by decide)
  obtain ⟨rh8, st8⟩ := x.gD.put x.ok.rh s.toks hp7 nst7 hs8.extBut (by rw [e8]; rfl)
  obtain ⟨mc7, hn7⟩ := x.ns
  exact ⟨⟨x.ok.clear rh8 st8 (by rintro a ha rfl; exact x.gD.own ha), x.gI.stp st8, x.gD.stp st8, x.gC.stp st8, x.ID, x.IC, x.DC, x.cu.at st8.sta fun o e => hs8.extBut _ o x.ID e,
        ⟨vs7 ++ [y'], ⟨kk + 1, by rw [e8]; simp⟩, (racc7.sta st8.sta).append (.cons (ry.sta st8.sta) .nil)⟩, ⟨mc7, hn7.at' fun o e => hs8.extBut _ o (Ne.symm x.DC) e⟩, x.st.trans (st8.mono fun zz h => .inr (.inl h)), x.new⟩, st8⟩
theorem CSt.move {h4 : Heap} (t4 : Nat) (x : CSt c n env m H1 s1 A I D C l src j acc H s) (cu4 : Cur H1 h4 I l src (j + 1)) (hs4 : Heap.SameBut I s.heap h4) :
    CSt c n env m H1 s1 A I D C l src (j + 1) acc H { s with heap := h4, toks := t4 } ∧ Stp (fun a => a = I) H s H { s with heap := h4, toks := t4 } := by
  obtain ⟨oI, eI, nstI, _⟩ := x.cu.obj
  obtain ⟨o4, e4, _⟩ := cu4.obj
  obtain ⟨rh4, st4⟩ := x.gI.put x.ok.rh t4 eI nstI hs4.extBut (by rw [e4]; rfl)
  obtain ⟨vs, hp, racc⟩ := x.acc
  obtain ⟨mc, hn⟩ := x.ns
  exact ⟨⟨x.ok.clear rh4 st4 (by rintro a ha rfl; exact x.gI.own ha), x.gI.stp st4, x.gD.stp st4, x.gC.stp st4, x.ID, x.IC, x.DC, cu4, ⟨vs, hp.at fun o e => hs4.extBut _ o (Ne.symm x.ID) e, racc.sta st4.sta⟩,
        ⟨mc, hn.at' fun o e => hs4.extBut _ o (Ne.symm x.IC) e⟩, x.st.trans (st4.mono fun zz => .inl), x.new⟩, st4⟩
theorem comp_loop1 {elt iter : Expr} {ifs : List Expr} {x : Str} {px pos : Pos} {scope : Scope} {cl : List (Str × Addr)} {i : Nat} {test : V → (Bool → Hp → Prop) → Hp → Prop} {ex : X} {Q : V → Hp → Prop} (CE : CompE c env scope cl [i]) (hx : x = c.nm i)
    (ht : ∀ C v K H s, test v K H → Ok c n (compEnvC scope cl C env) (m.put i v) H A s → wpAny (M c) A (forIn ifs true fun e r => if r = true then do let ok ← isTrue e (compEnvC scope cl C env) (eval e (compEnvC scope cl C env)); pure (ForInStep.yield ok) else pure (ForInStep.yield r)) (TsP c K H s) bot s)
    (he : ∀ C, Snd c n (compEnvC scope cl C env) elt ex) (hz : l.length ≤ 100000) (x0 : CSt c n env m H1 s1 A I D C l src 0 [] H1 s) (q : goG test (fun v => awp c n ex (m.put i v)) src H1 (newList Q) l [] H1) :
    codeAny (M c) A (.compLoop (.ListComp elt [⟨.Name x px, iter, ifs, 0⟩] scope pos) 0 (.ref I) (.ref D) (compEnvC scope cl C env)) (fun r s' => r = .ok .next ∧ CEnd c n env m Q H1 s1 A D C s') s := by
  subst hx
  have hloc : (compEnvC scope cl C env).kindOf (c.nm i) = some .local := lookup_relabel_local (CE.isl i (by simp))
  refine codeAny_compLoop_tests (fun k s' => ∃ j acc H', k = l.length + 1 - j ∧ j ≤ l.length ∧ acc.length ≤ j ∧ goG test (fun v => awp c n ex (m.put i v)) src H1 (newList Q) (l.drop j) acc H' ∧ CSt c n env m H1 s1 A I D C l src j acc H' s') ?_ (l.length + 1)
    ⟨0, [], H1, rfl, Nat.zero_le _, Nat.le_refl _, q, x0⟩
  rintro k s3 ⟨j, acc, H3, rfl, hj, haj, q3, x3⟩
  cases hd : l.drop j with
  | nil =>
    rw [hd] at q3
    obtain ⟨hst, q3⟩ := q3
    have hle : l.length ≤ j := by simpa using hd
    exact cur_end x3.ok.room.1 x3.ok.rh x3.cu hst hle fun h' t he' => ⟨rfl, x3.fin t he' q3⟩
  | cons v r =>
    rw [hd] at q3
    obtain ⟨hst, q4⟩ := q3
    have hx : l[j]? = some v := by
      have := congrArg (fun z => z[0]?) hd
      simpa [List.getElem?_drop] using this
    have hlt : j < l.length := (List.getElem?_eq_some_iff.mp hx).1
    have hr : l.drop (j + 1) = r := by
      have := congrArg (List.drop 1) hd
      simpa [List.drop_drop] using this
    refine cur_item x3.ok.rh x3.cu hst hx fun v4' h4 t4 rv4 cu4 hs4 => ?_
    obtain ⟨mc, hn⟩ := x3.ns
    obtain ⟨x4, st4⟩ := x3.move t4 cu4 hs4
    have hn4 : h4.Ns C mc := hn.at' fun o e => hs4.extBut _ o (Ne.symm x3.IC) e
    refine wpAny_assign_Name (wpAny_storeName_local hloc hn4 (fun h5 hn5 hs5 => ?_) (by simp [compEnvC, relabel, CE.kind]))
    obtain ⟨x5, st5⟩ := x4.setC (t4 + 1) hn4 hn5 hs5
    have okc : Ok c n (compEnvC scope cl C env) (m.put i v) H3 A { s3 with heap := h5, toks := t4 + 1 } := by
      refine cenv_ok CE x5.ok hn5 x5.gC (fun j' u hj' e => ?_) fun j' kk hj' hc => ?_
      · have := CE.loc j' hj'
        simp only [List.mem_singleton] at this
        subst this
        simp only [Lo.put, if_true, Option.some.injEq] at e
        subst e
        exact ⟨v4', by simp, rv4.sta st5.sta⟩
      · have : j' ≠ i := by
          rintro rfl
          rw [hloc] at hj'
          cases hj'
          rcases hc with hc | hc <;> cases hc
        simp [Lo.put, this]
    refine bot_any (wpAny_mono (ht C v _ H3 _ q4 okc) ?_ fun zz zz e => e)
    rintro b s6 ⟨H6, rh6, st6, k6⟩
    have x6 := x5.step rh6 st6 (fun h => h) (fun h => h) (fun h => h) (fun zz zz h => h) (fun zz h => h.elim)
    cases b with
    | false =>
      rw [if_neg (by decide)]
      exact ⟨l.length + 1 - (j + 1), by lia, j + 1, acc, H6, rfl, hlt, by lia, by rw [hr]; exact k6.2 rfl, x6⟩
    | true =>
      rw [if_pos rfl]
      have okc6 := okc.step rh6 st6
      refine bot_any (wpAny_mono (he C _ _ H6 (k6.1 rfl) A s6 okc6) ?_ fun zz zz e => e)
      rintro y' s7 ⟨y, H7, ry, rh7, st7, q7⟩
      have x7 := x6.step rh7 st7 (fun h => h) (fun h => h) (fun h => h) (fun zz zz h => h) (fun zz h => h.elim)
      obtain ⟨vs7, ⟨kk, hp7⟩, racc7⟩ := x7.acc
      have hl7 := racc7.length
      refine append_at hp7 (fun h8 hs8 e8 => ?_) (by rw [sizeLine_eq]; simp; lia)
      refine ⟨l.length + 1 - (j + 1), by lia, j + 1, acc ++ [y], H7, rfl, hlt, by simp; lia, by rw [hr]; exact q7, ?_⟩
      exact (x7.add hp7 hs8 e8 racc7 ry).1
end
theorem comp_enter {elt iter : Expr} {ifs : List Expr} {rest : List Comprehension} {x : Str} {px pos pos2 : Pos} {scope : Scope} {cl : List (Str × Addr)} {is : List Nat} {ix : X} {W : List V → Option Addr → Hp → Prop} {Q : V → Hp → Prop} {Qr : Value → Shared → Prop}
    {use : Option (Value → Sem Unit)} (C : CxOk c) (CE : CompE c env scope cl is) (hs : ∀ x, foldedSetIterable iter env x = pure x) (hi : Snd c n env iter ix) (h : awp c n ix m (fun v H₁ => ∃ l src, iterQ H₁ v = some (l, src) ∧ W l src H₁) H) (ok : Ok c n env m H A s)
    (loop : ∀ l src H1 s1 I D C s, W l src H1 → CSt c n env m H1 s1 A I D C l src 0 [] H1 s →
      codeAny (M c) A (.compLoop (.ListComp elt (⟨.Name x px, iter, ifs, 0⟩ :: rest) scope pos) 0 (.ref I) (.ref D) (compEnvC scope cl C env)) (fun r s' => r = .ok .next ∧ CEnd c n env m Q H1 s1 A D C s') s)
    (fin : ∀ s1 H1 D C s', Stp noOwn H s H1 s1 → CEnd c n env m Q H1 s1 A D C s' → compPost (M c) A bot use Qr (.ref D) C (.ok .next) s') :
    wpAny (M c) A (comprehension (.ListComp elt (⟨.Name x px, iter, ifs, 0⟩ :: rest) scope pos) scope env pos2 (PySem.newList []) false (eval iter env) use) Qr bot s := by
  refine wpAny_comprehension_free (cl := cl) rfl hs CE.clos CE.kind CE.names (wpAny_mono (hi m _ H h A s ok) ?_ fun zz zz e => e)
  rintro v' s1 ⟨v, H1, r1, rh1, st1, l, src, hl, hW⟩
  have ok1 := ok.step rh1 st1
  refine cur_new C rh1 r1 hl fun ob hob cu => ?_
  have okI : Ok c n env m H1 A { s1 with heap := s1.heap.push ob } := ok1.step (rh1.push _) (Stp.push ob s1.toks)
  have gI := Gd.new ok1 hob
  show wpAny (M c) A (newObj (.type "list") (.seq ([] : List Value).toArray) none) _ _ _
  refine wpAny_newObj_type (wpAny_newFunctionEnv CE.ncell (by intro y hy; simp at hy) (fun h₁ hns₁ hsb₁ => ?_) CE.kind)
  dsimp only at hns₁ hsb₁ ⊢
  have stI : Stp noOwn H1 s1 H1 { s1 with heap := s1.heap.push ob } := Stp.push ob s1.toks
  have fI : s1.heap.get? s1.heap.objs.size = none := size_free
  generalize hI : s1.heap.objs.size = I at cu gI fI ⊢
  generalize hsI : ({ s1 with heap := s1.heap.push ob } : Shared) = sI at okI gI stI
  have ehI : s1.heap.push ob = sI.heap := by rw [← hsI]
  rw [ehI] at cu hns₁ hsb₁ ⊢
  have gD := Gd.new (ob := { cls := .type "list", dict := none, data := .seq ([] : List Value).toArray }) okI rfl
  have stD : Stp noOwn H1 sI H1 { sI with heap := sI.heap.push { cls := .type "list", dict := none, data := .seq ([] : List Value).toArray } } := Stp.push _ sI.toks
  have okD := okI.step (okI.rh.push { cls := .type "list", dict := none, data := .seq ([] : List Value).toArray }) stD
  have eD : (sI.heap.push { cls := .type "list", dict := none, data := .seq ([] : List Value).toArray }).get? sI.heap.objs.size = some { cls := .type "list", dict := none, data := .seq ([] : List Value).toArray } := Heap.get?_push_size _ rfl
  have fD : sI.heap.get? sI.heap.objs.size = none := size_free
  generalize hD : sI.heap.objs.size = D at gD eD fD ⊢
  generalize hsD : ({ sI with heap := sI.heap.push { cls := .type "list", dict := none, data := .seq ([] : List Value).toArray } } : Shared) = sD at okD gD stD
  have ehD : sI.heap.push { cls := .type "list", dict := none, data := .seq ([] : List Value).toArray } = sD.heap := by rw [← hsD]
  rw [ehD] at hns₁ hsb₁ eD ⊢
  have fC : sD.heap.get? sD.heap.objs.size = none := size_free
  have nC : H1 sD.heap.objs.size = none := okD.rh.none_size
  have bC : c.base.get? sD.heap.objs.size = none := okD.rh.base_none size_free
  generalize hC : sD.heap.objs.size = C at hns₁ hsb₁ fC nC bC ⊢
  have up : ∀ a o, sD.heap.get? a = some o → h₁.get? a = some o := fun a o e => hsb₁.extBut a o (by rintro rfl; rw [fC] at e; cases e) (Heap.get?_push_of_some _ e)
  have stC : Stp noOwn H1 sD H1 { sD with heap := h₁, toks := s1.toks + ([] : List (Str × Value)).length } := Stp.grow _ up
  have okC := okD.step (okD.rh.grow up) stC
  obtain ⟨oC, _, _, eC, _⟩ := id hns₁
  have gC : Gd c env H1 { sD with heap := h₁, toks := s1.toks + ([] : List (Str × Value)).length } C :=
    ⟨by show (h₁.get? C).isSome = true; rw [eC]; rfl, nC, bC, fun h => by have := (okD.free _ h).1; rw [fC] at this; cases this⟩
  have es : ({ s1 with heap := h₁, toks := s1.toks + ([] : List (Str × Value)).length } : Shared) = { sD with heap := h₁, toks := s1.toks + ([] : List (Str × Value)).length } := by rw [← hsD, ← hsI]
  have stA : Stp noOwn H1 s1 H1 { sD with heap := h₁, toks := s1.toks + ([] : List (Str × Value)).length } := (stI.trans stD).trans stC
  have no1 : ∀ a, sI.heap.get? a = none → s1.heap.get? a = none := fun a e => by
    cases q : s1.heap.get? a with
    | none => rfl
    | some o => have := stI.live a (by rw [q]; rfl); rw [e] at this; cases this
  have no2 : ∀ a, sD.heap.get? a = none → sI.heap.get? a = none := fun a e => by
    cases q : sI.heap.get? a with
    | none => rfl
    | some o => have := stD.live a (by rw [q]; rfl); rw [e] at this; cases this
  have nID : I ≠ D := by rintro rfl; have := gI.live; rw [fD] at this; cases this
  have nIC : I ≠ C := by rintro rfl; have := (gI.stp stD).live; rw [fC] at this; cases this
  have nDC : D ≠ C := by rintro rfl; have := gD.live; rw [fC] at this; cases this
  have x0 : CSt c n env m H1 s1 A I D C l src 0 [] H1 { sD with heap := h₁, toks := s1.toks + ([] : List (Str × Value)).length } :=
    ⟨okC, (gI.stp stD).stp stC, gD.stp stC, gC, nID, nIC, nDC, (cu.at stD.sta fun o e => stD.keep _ o e gI.non id).at stC.sta fun o e => stC.keep _ o e gI.non id, ⟨[], ⟨0, up _ _ eD⟩, .nil⟩, ⟨_, hns₁⟩,
      stA.lo, fI, no1 _ fD, no1 _ (no2 _ fC)⟩
  have L := loop l src H1 s1 I D C _ hW x0
  have main : codeAny (M c) A (.compLoop (.ListComp elt (⟨.Name x px, iter, ifs, 0⟩ :: rest) scope pos) 0 (.ref I) (.ref D) (compEnvC scope cl C env)) (compPost (M c) A bot use Qr (.ref D) C) { s1 with heap := h₁, toks := s1.toks + ([] : List (Str × Value)).length } := by
    rw [es]
    refine codeAny_mono L ?_
    rintro r s' ⟨rfl, h⟩
    exact fin s1 H1 D C s' st1 h
  refine codeAny_compStart_list main (cur_self (H₀ := H1) (l := l) (src := src) (i := 0) ?_ main)
  rw [es]
  exact x0.cu
theorem leave {own : Addr → Prop} {C : Addr} {h' : Heap} {mc : Str → Option Value} (rh : RH c.prog c.w c.base H s.heap) (g : Gd c env H s C) (hn : s.heap.Ns C mc) (st : Stp own H1 s1 H s) (f : s1.heap.get? C = none) (hsb : Heap.SameBut C s.heap h') :
    RH c.prog c.w c.base H h' ∧ Sta s.heap h' ∧ Stp own H1 s1 H { s with heap := h' } := by
  obtain ⟨oC, _, _, eC, dC, _⟩ := hn
  have nst : ¬ Still oC := not_still_dict dC
  have sta : Sta s.heap h' := Sta.but hsb.extBut eC nst
  have ne : ∀ a, (s1.heap.get? a).isSome = true → a ≠ C := fun a ha => by rintro rfl; rw [f] at ha; cases ha
  refine ⟨rh.own g.non g.base eC nst hsb.extBut, sta, ⟨fun a o e e' na => ?_, st.new, st.sta.trans sta, fun a ha => ?_, rest_trans st.rest rfl, fun a l o e1 e2 => let ⟨p, q⟩ := st.ro a l o e1 e2; ⟨p, (hsb.2 a (ne a (by rw [e2]; rfl))).trans q⟩⟩⟩
  · exact (hsb.2 a (ne a (by rw [e]; rfl))).trans (st.keep a o e e' na)
  · show (h'.get? a).isSome = true
    rw [hsb.2 a (ne a ha)]; exact st.live a ha
theorem CEnd.val {Q : V → Hp → Prop} {D C : Addr} (st : Stp noOwn H s H1 s1) (x : CEnd c n env m Q H1 s1 A D C s') : compPost (M c) A bot none (EvP c Q H s) (.ref D) C (.ok .next) s' := by
  obtain ⟨H'', ok, g, ⟨mc, hn⟩, st2, f, q⟩ := x
  refine ⟨mc, hn, fun h' hsb => ?_⟩
  obtain ⟨rh, _, st3⟩ := leave ok.rh g hn st2 f hsb
  exact ⟨.ref D, H'', .ref D, rh, st.trans st3, q⟩
theorem CEnd.use {y : Str} {py : Pos} {i : Nat} {D C : Addr} {Q : Fl → Lo → Hp → Prop} (CO : CxOk c) (E : EnvOk env) (hy : y = c.nm i) (hk : env.kindOf y = some .local ∨ env.kindOf y = some .cell) (st : Stp noOwn H s H1 s1) (x : CEnd c n env m (fun v H => Q .next (m.put i v) H) H1 s1 A D C s') :
    compPost (M c) A bot (some (assign (.Name y py) env)) (fun zz s' => StP c env Q H s .next s') (.ref D) C (.ok .next) s' := by
  subst hy
  obtain ⟨H'', ok, g, ⟨mc, hn⟩, st2, f, q⟩ := x
  show wpAny (M c) A (assign (.Name (c.nm i) py) env (.ref D)) _ _ s'
  refine wpAny_assign_Name (store_ok CO E ok hk (.ref D) fun s2 rh2 fr2 st3 sta3 => ?_)
  have ok2 := ok.stepO rh2 fr2 st3
  have g2 := g.stp st3
  have hn2 : s2.heap.Ns C mc := hn.at' fun o e => st3.keep _ o e g.non g.own
  refine ⟨mc, hn2, fun h' hsb => ?_⟩
  have stA := st2.lo.trans st3
  obtain ⟨rh, sta, st4⟩ := leave rh2 g2 hn2 stA f hsb
  exact ⟨.next, _, H'', trivial, rh, fr2.at sta fun a o ha e => hsb.extBut a o (by rintro rfl; exact g2.own ha) e, st.lo.trans st4, q⟩
theorem tests_nil {cenv : Env} {K : Bool → Hp → Prop} (q : K true H) (rh : RH c.prog c.w c.base H s.heap) :
    wpAny (M c) A (forIn ([] : List Expr) true fun e r => if r = true then do let ok ← isTrue e cenv (eval e cenv); pure (ForInStep.yield ok) else pure (ForInStep.yield r)) (TsP c K H s) bot s :=
  wpAny_tests_nil ⟨H, rh, Stp.refl, q⟩
theorem snd_comp {elt iter : Expr} {x : Str} {px pos : Pos} {scope : Scope} {cl : List (Str × Addr)} {i : Nat} {ix ex : X} (CO : CxOk c) (CE : CompE c env scope cl [i]) (hx : x = c.nm i) (hs : ∀ x, foldedSetIterable iter env x = pure x) (hi : Snd c n env iter ix)
    (he : ∀ C, Snd c n (compEnvC scope cl C env) elt ex) : Snd c n env (.ListComp elt [⟨.Name x px, iter, [], 0⟩] scope pos) (.comp ex i ix) := by
  intro m Q H h A s ok
  rw [eval_ListComp]
  refine comp_enter (W := fun l src H1 => l.length ≤ 100000 ∧ compGo (fun x => awp c n ex (m.put i x)) src H1 (newList Q) l [] H1) CO CE hs hi h ok ?_ fun s1 H1 D C s' st x => x.val st
  rintro l src H1 s1 I D C s2 ⟨hz, hg⟩ x0
  rw [compGo_G] at hg
  exact comp_loop1 CE hx (fun C v K H s q ok => tests_nil q ok.rh) he hz x0 hg
theorem snd_compIf {elt iter t : Expr} {x : Str} {px pos : Pos} {scope : Scope} {cl : List (Str × Addr)} {i : Nat} {ix ex tx : X} (CO : CxOk c) (CE : CompE c env scope cl [i]) (hx : x = c.nm i) (hs : ∀ x, foldedSetIterable iter env x = pure x) (hi : Snd c n env iter ix)
    (he : ∀ C, Snd c n (compEnvC scope cl C env) elt ex) (ht : ∀ C, SndB c n (compEnvC scope cl C env) t tx) : Snd c n env (.ListComp elt [⟨.Name x px, iter, [t], 0⟩] scope pos) (.compIf ex i ix tx) := by
  intro m Q H h A s ok
  rw [eval_ListComp]
  refine comp_enter (W := fun l src H1 => l.length ≤ 100000 ∧ compGoIf (fun x => awp c n tx (m.put i x)) (fun x => awp c n ex (m.put i x)) src H1 (newList Q) l [] H1) CO CE hs hi h ok ?_ fun s1 H1 D C s' st x => x.val st
  rintro l src H1 s1 I D C s2 ⟨hz, hg⟩ x0
  rw [compGoIf_G] at hg
  exact comp_loop1 CE hx (fun C v K H s q ok => wpAny_tests_one (ht C _ K H q A s ok)) he hz x0 hg
theorem comp_used {elt iter : Expr} {ifs : List Expr} {rest : List Comprehension} {scope : Scope} {x : Str} {px pos spos py : Pos} {y : Str} {Q : Fl → Lo → Hp → Prop} (hsw : swapsWith (.ListComp elt (⟨.Name x px, iter, ifs, 0⟩ :: rest) scope pos) (some (.Name y py)) spos.line env = pure true)
    (h : ∀ p, wpAny (M c) A (comprehension (.ListComp elt (⟨.Name x px, iter, ifs, 0⟩ :: rest) scope pos) scope env p (PySem.newList []) false (eval iter env) (some (assign (.Name y py) env))) (fun zz s' => StP c env Q H s .next s') bot s) :
    wpAny (M c) A (exec (.Assign [.Name y py] (.ListComp elt (⟨.Name x px, iter, ifs, 0⟩ :: rest) scope pos) spos) env) (StP c env Q H s) bot s := by
  rw [exec_Assign_Name_used _ _ _ _ hsw]
  refine wpAny_bind (wpAny_standAt (wpAny_bind ?_))
  show wpAny _ A (do let _ ← comprehension (.ListComp elt (⟨.Name x px, iter, ifs, 0⟩ :: rest) scope pos) scope env _ (PySem.newList []) false (eval iter env) (some (assign (.Name y py) env))) _ _ s
  exact wpAny_bind (wpAny_mono (h _) (fun zz s' hq => wpAny_pure (wpAny_pure hq)) fun zz zz e => e)
theorem s_comp {elt iter : Expr} {x y : Str} {px py pos spos : Pos} {scope : Scope} {cl : List (Str × Addr)} {i j : Nat} {ix ex : X} (CO : CxOk c) (E : EnvOk env) (CE : CompE c env scope cl [i]) (hx : x = c.nm i) (hy : y = c.nm j) (hk : env.kindOf y = some .local ∨ env.kindOf y = some .cell)
    (hsw : swapsWith (.ListComp elt [⟨.Name x px, iter, [], 0⟩] scope pos) (some (.Name y py)) spos.line env = pure true) (hs : ∀ x, foldedSetIterable iter env x = pure x) (hi : Snd c n env iter ix)
    (he : ∀ C, Snd c n (compEnvC scope cl C env) elt ex) : SndS c n env (.Assign [.Name y py] (.ListComp elt [⟨.Name x px, iter, [], 0⟩] scope pos) spos) (.asg j (.comp ex i ix)) := by
  intro m Q H h A s ok
  refine comp_used hsw fun p => ?_
  refine comp_enter (Q := fun v H => Q .next (m.put j v) H) (W := fun l src H1 => l.length ≤ 100000 ∧ compGo (fun x => awp c n ex (m.put i x)) src H1 (newList fun v H => Q .next (m.put j v) H) l [] H1) CO CE hs hi h ok ?_ fun s1 H1 D C s' st x => x.use CO E hy hk st
  rintro l src H1 s1 I D C s2 ⟨hz, hg⟩ x0
  rw [compGo_G] at hg
  exact comp_loop1 CE hx (fun C v K H s q ok => tests_nil q ok.rh) he hz x0 hg
theorem s_compIf {elt iter t : Expr} {x y : Str} {px py pos spos : Pos} {scope : Scope} {cl : List (Str × Addr)} {i j : Nat} {ix ex tx : X} (CO : CxOk c) (E : EnvOk env) (CE : CompE c env scope cl [i]) (hx : x = c.nm i) (hy : y = c.nm j) (hk : env.kindOf y = some .local ∨ env.kindOf y = some .cell)
    (hsw : swapsWith (.ListComp elt [⟨.Name x px, iter, [t], 0⟩] scope pos) (some (.Name y py)) spos.line env = pure true) (hs : ∀ x, foldedSetIterable iter env x = pure x) (hi : Snd c n env iter ix)
    (he : ∀ C, Snd c n (compEnvC scope cl C env) elt ex) (ht : ∀ C, SndB c n (compEnvC scope cl C env) t tx) : SndS c n env (.Assign [.Name y py] (.ListComp elt [⟨.Name x px, iter, [t], 0⟩] scope pos) spos) (.asg j (.compIf ex i ix tx)) := by
  intro m Q H h A s ok
  refine comp_used hsw fun p => ?_
  refine comp_enter (Q := fun v H => Q .next (m.put j v) H) (W := fun l src H1 => l.length ≤ 100000 ∧ compGoIf (fun x => awp c n tx (m.put i x)) (fun x => awp c n ex (m.put i x)) src H1 (newList fun v H => Q .next (m.put j v) H) l [] H1) CO CE hs hi h ok ?_ fun s1 H1 D C s' st x => x.use CO E hy hk st
  rintro l src H1 s1 I D C s2 ⟨hz, hg⟩ x0
  rw [compGoIf_G] at hg
  exact comp_loop1 CE hx (fun C v K H s q ok => wpAny_tests_one (ht C _ K H q A s ok)) he hz x0 hg
end
end Mine
set_option tactic.hygienic false
open PySem PySem.W PySem.Calls PyProof PyProof.Rows PySem.SeqAt
set_option maxRecDepth 100000
namespace Mine
section
variable {c : Cx} {n : Nat} {env : Env} {m m' m2 : Lo} {H H' H₀ H1 : Hp} {A : Around} {s s' s'' s1 : Shared} {I D C : Addr} {l : List V} {src : Option Addr} {j : Nat} {acc : List V}
theorem comp2_turn0 (elt t0 i0 t1 i1 : Expr) (scope : Scope) (pos : Pos) (it acc : Value) (env : Env) :
    compTurn (.ListComp elt [⟨t0, i0, [], 0⟩, ⟨t1, i1, [], 0⟩] scope pos) 0 it acc env = (do
      standAt i0.pos
      match ← pyNext it with
      | none => pure (.done .next)
      | some v =>
        letOwnedTupleGo t0 it v
        assign t0 env v
        let x ← eval i1 env
        standAt i1.pos
        let x ← foldedSetIterable i1 env x
        let _ ← runOwn (.compStart (.ListComp elt [⟨t0, i0, [], 0⟩, ⟨t1, i1, [], 0⟩] scope pos) 1 (← holding [x] (pyIter x)) acc env) env
        again (.compLoop (.ListComp elt [⟨t0, i0, [], 0⟩, ⟨t1, i1, [], 0⟩] scope pos) 0 it acc env)) := by rfl
theorem comp2_turn1 (elt t0 i0 t1 i1 : Expr) (scope : Scope) (pos : Pos) (it acc : Value) (env : Env) :
    compTurn (.ListComp elt [⟨t0, i0, [], 0⟩, ⟨t1, i1, [], 0⟩] scope pos) 1 it acc env = (do
      standAt i1.pos
      match ← pyNext it with
      | none => pure (.done .next)
      | some v =>
        letOwnedTupleGo t1 it v
        assign t1 env v
        (do let _ ← call (.builtin "list.append") [acc, ← eval elt env])
        again (.compLoop (.ListComp elt [⟨t0, i0, [], 0⟩, ⟨t1, i1, [], 0⟩] scope pos) 1 it acc env)) := by rfl
theorem comp2_start1 {elt t0 i0 t1 i1 : Expr} {scope : Scope} {pos : Pos} {it acc : Value} {env : Env} {R : Result → Shared → Prop}
    (h0 : codeAny (M c) A (.compLoop (.ListComp elt [⟨t0, i0, [], 0⟩, ⟨t1, i1, [], 0⟩] scope pos) 1 it acc env) R s)
    (h : wpAny (M c) A (pyIter it) (fun it' s' => codeAny (M c) A (.compLoop (.ListComp elt [⟨t0, i0, [], 0⟩, ⟨t1, i1, [], 0⟩] scope pos) 1 it' acc env) R s') bot s) :
    codeAny (M c) A (.compStart (.ListComp elt [⟨t0, i0, [], 0⟩, ⟨t1, i1, [], 0⟩] scope pos) 1 it acc env) R s := by
  refine codeAny_of_tree ?_
  show wpAny _ _ ((compStart (.ListComp elt [⟨t0, i0, [], 0⟩, ⟨t1, i1, [], 0⟩] scope pos) 1 it acc env).onRaise (fun x => do noteFrame x env; standAt theWindowsPlace)) _ _ s
  refine wpAny_notedAt ?_
  unfold compStart
  show wpAny _ _ (ask >>= _) _ _ s
  refine wpAny_bind (wpAny_askSetting (wpAny_ite ?_))
  split
  · first
      | exact wpAny_bind (wpAny_pure (wpAny_pure (And.intro rfl h0)))
      | exact wpAny_pure (And.intro rfl h0)
  · refine wpAny_bind (wpAny_rule ?_)
    show wpAny _ _ (standAt i1.pos >>= _) _ _ s
    exact wpAny_bind (wpAny_standAt (wpAny_bind (wpAny_mono h (fun it' s' h' => wpAny_pure (And.intro rfl h')) fun zz zz x => x.elim)))
theorem CSt.but {I2 : Addr} {oI : Obj} {h' : Heap} (t : Nat) (x : CSt c n env m H1 s1 A I D C l src j acc H s) (g2 : Gd c env H s I2) (nI : I2 ≠ I ∧ I2 ≠ D ∧ I2 ≠ C) (f2 : s1.heap.get? I2 = none) (eI : s.heap.get? I2 = some oI) (nst : ¬ Still oI) (he : Heap.ExtBut I2 s.heap h') :
    CSt c n env m H1 s1 A I D C l src j acc H { s with heap := h', toks := t } := by
  have sta : Sta s.heap h' := Sta.but he eI nst
  have lv : ∀ a, a ≠ I2 → (s.heap.get? a).isSome = true → (h'.get? a).isSome = true := fun a na ha => by
    obtain ⟨o, e⟩ := Option.isSome_iff_exists.mp ha
    rw [he a o na e]; rfl
  have rh : RH c.prog c.w c.base H h' := x.ok.rh.own g2.non g2.base eI nst he
  obtain ⟨vs, hp, racc⟩ := x.acc
  obtain ⟨mc, hn⟩ := x.ns
  refine ⟨⟨x.ok.room, rh, x.ok.fr.at sta fun a o ha e => he a o (by rintro rfl; exact g2.own ha) e, fun a ha => ?_⟩, ⟨lv _ (Ne.symm nI.1) x.gI.live, x.gI.non, x.gI.base, x.gI.own⟩, ⟨lv _ (Ne.symm nI.2.1) x.gD.live, x.gD.non, x.gD.base, x.gD.own⟩, ⟨lv _ (Ne.symm nI.2.2) x.gC.live, x.gC.non, x.gC.base, x.gC.own⟩,
    x.ID, x.IC, x.DC, x.cu.at sta fun o e => he _ o (Ne.symm nI.1) e, ⟨vs, hp.at fun o e => he _ o (Ne.symm nI.2.1) e, racc.sta sta⟩, ⟨mc, hn.at' fun o e => he _ o (Ne.symm nI.2.2) e⟩, ⟨fun a o e e' na => ?_, x.st.new, x.st.sta.trans sta, fun a ha => ?_, rest_trans x.st.rest rfl, fun a l o e1 e2 => let ⟨p, q⟩ := x.st.ro a l o e1 e2; ⟨p, he a o (by rintro rfl; rw [f2] at e2; cases e2) q⟩⟩, x.new⟩
  · obtain ⟨h1, h2, h3⟩ := x.ok.free a ha
    exact ⟨lv a (by rintro rfl; exact g2.own ha) h1, h2, h3⟩
  · exact he a o (by rintro rfl; rw [f2] at e; cases e) (x.st.keep a o e e' na)
  · exact lv a (by rintro rfl; rw [f2] at ha; cases ha) (x.st.live a ha)
theorem comp_loop2i {elt i0 i1 : Expr} {x y : Str} {px py pos : Pos} {scope : Scope} {cl : List (Str × Addr)} {i k : Nat} {ex : X} {K : List V → Hp → Prop} {I2 : Addr} {l2 : List V} {sr2 : Option Addr} {H2 : Hp} {v : V} (CE : CompE c env scope cl [i, k]) (hik : i ≠ k) (inj : ∀ i j, c.nm i = c.nm j → i = j)
    (he : ∀ C, Snd c n (compEnvC scope cl C env) elt ex) (hz : acc.length + l2.length ≤ 100000)
    (hy : y = c.nm k) (x0 : CSt c n env m H1 s1 A I D C l src j acc H2 s) (g0 : Gd c env H2 s I2) (nI : I2 ≠ I ∧ I2 ≠ D ∧ I2 ≠ C) (f2 : s1.heap.get? I2 = none) (cu0 : Cur H2 s.heap I2 l2 sr2 0)
    (hloc0 : ∃ mc v', s.heap.Ns C mc ∧ mc (c.nm i) = some v' ∧ VR s.heap v v')
    (q : compGo (fun u => awp c n ex ((m.put i v).put k u)) sr2 H2 K l2 acc H2) :
    codeAny (M c) A (.compLoop (.ListComp elt [⟨.Name x px, i0, [], 0⟩, ⟨.Name y py, i1, [], 0⟩] scope pos) 1 (.ref I2) (.ref D) (compEnvC scope cl C env))
      (fun r s' => r = .ok .next ∧ ∃ acc' H', CSt c n env m H1 s1 A I D C l src j acc' H' s' ∧ K acc' H') s := by
  subst hy
  have hk1 : (compEnvC scope cl C env).kindOf (c.nm k) = some .local := lookup_relabel_local (CE.isl k (by simp))
  have hi1 : (compEnvC scope cl C env).kindOf (c.nm i) = some .local := lookup_relabel_local (CE.isl i (by simp))
  refine codeAny_loop rfl (fun q s' => ∃ j2 acc' H', q = l2.length + 1 - j2 ∧ j2 ≤ l2.length ∧ acc'.length + (l2.length - j2) ≤ 100000 ∧ compGo (fun u => awp c n ex ((m.put i v).put k u)) sr2 H2 K (l2.drop j2) acc' H' ∧ CSt c n env m H1 s1 A I D C l src j acc' H' s' ∧ Gd c env H' s' I2 ∧ Cur H2 s'.heap I2 l2 sr2 j2 ∧
      ∃ mc v', s'.heap.Ns C mc ∧ mc (c.nm i) = some v' ∧ VR s'.heap v v') (fun q s hI => ?_) (l2.length + 1)
    ⟨0, acc, H2, rfl, Nat.zero_le _, by lia, q, x0, g0, cu0, hloc0⟩
  show wpAny _ A ((compTurn (.ListComp elt [⟨.Name x px, i0, [], 0⟩, ⟨.Name (c.nm k) py, i1, [], 0⟩] scope pos) 1 (.ref I2) (.ref D) (compEnvC scope cl C env)).onRaise (fun x => do noteFrame x (compEnvC scope cl C env); theTreesLotGoes x)) _ _ s
  refine wpAny_noted ?_
  rw [comp2_turn1]
  obtain ⟨j2, acc', H3, rfl, hj, haj, q3, x3, g3, cu3, mc, v', hmc, hv', rv'⟩ := hI
  obtain ⟨oI, eI, nstI, _⟩ := cu3.obj
  refine wpAny_bind (wpAny_standAt (wpAny_bind ?_))
  cases hd : l2.drop j2 with
  | nil =>
    rw [hd] at q3
    obtain ⟨hst, q3⟩ := q3
    have hle : l2.length ≤ j2 := by simpa using hd
    refine cur_end x3.ok.room.1 x3.ok.rh cu3 hst hle fun h' t he' => wpAny_pure ⟨rfl, acc', H3, x3.but t g3 nI f2 eI nstI he', q3⟩
  | cons u r =>
    rw [hd] at q3
    obtain ⟨hst, q4⟩ := q3
    have hx : l2[j2]? = some u := by
      have := congrArg (fun z => z[0]?) hd
      simpa [List.getElem?_drop] using this
    have hlt : j2 < l2.length := (List.getElem?_eq_some_iff.mp hx).1
    have hr : l2.drop (j2 + 1) = r := by
      have := congrArg (List.drop 1) hd
      simpa [List.drop_drop] using this
    refine cur_item x3.ok.rh cu3 hst hx fun u4' h4 t4 ru4 cu4 hs4 => ?_
    obtain ⟨o4, e4, _⟩ := cu4.obj
    obtain ⟨rh4, st4⟩ := g3.put x3.ok.rh t4 eI nstI hs4.extBut (by rw [e4]; rfl)
    have x4 := x3.step rh4 st4 (Ne.symm nI.1) (Ne.symm nI.2.1) (Ne.symm nI.2.2) (fun a ha e => g3.own (e ▸ ha)) (fun a e => by rw [e]; exact f2)
    have g4 := g3.stp st4
    have hn4 : h4.Ns C mc := hmc.at' fun o e => hs4.extBut _ o (Ne.symm nI.2.2) e
    refine cur_go cu4 ?_ |> wpAny_bind
    refine wpAny_bind (wpAny_assign_Name (wpAny_storeName_local hk1 hn4 (fun h5 hn5 hs5 => ?_) (by simp [compEnvC, relabel, CE.kind])))
    obtain ⟨x5, st5⟩ := x4.setC (t4 + 1) hn4 (show h5.Ns C _ from hn5) hs5
    have g5 := g4.stp st5
    have cu5 := cu4.at st5.sta fun o e => hs5.extBut _ o nI.2.2 e
    have okc : Ok c n (compEnvC scope cl C env) ((m.put i v).put k u) H3 A { s with heap := h5, toks := t4 + 1 } := by
      refine cenv_ok CE x5.ok hn5 x5.gC (fun j' w hj' e => ?_) fun j' kk hj' hc => ?_
      · have := CE.loc j' hj'
        simp only [List.mem_cons, List.not_mem_nil, or_false] at this
        rcases this with rfl | rfl
        · simp only [Lo.put, if_neg hik, if_true, Option.some.injEq] at e
          subst e
          exact ⟨v', by rw [if_neg (fun z => hik (inj _ _ z))]; exact hv', (rv'.sta st4.sta).sta st5.sta⟩
        · simp only [Lo.put, if_true, Option.some.injEq] at e
          subst e
          exact ⟨u4', by simp, ru4.sta st5.sta⟩
      · have n1 : j' ≠ i := by rintro rfl; rw [hi1] at hj'; cases hj'; rcases hc with hc | hc <;> cases hc
        have n2 : j' ≠ k := by rintro rfl; rw [hk1] at hj'; cases hj'; rcases hc with hc | hc <;> cases hc
        simp [Lo.put, n1, n2]
    refine wpAny_bind (wpAny_bind (bot_any (wpAny_mono (he C _ _ H3 q4 A _ okc) ?_ fun zz zz e => e)))
    rintro y' s7 ⟨yv, H7, ry, rh7, st7, q7⟩
    have x7 := x5.step rh7 st7 (fun h => h) (fun h => h) (fun h => h) (fun zz zz h => h) (fun zz h => h.elim)
    have g7 := g5.stp st7
    have cu7 := cu5.at st7.sta fun o e => st7.keep _ o e g5.non id
    obtain ⟨vs7, ⟨kk, hp7⟩, racc7⟩ := x7.acc
    have hl7 := racc7.length
    refine wpAny_bind (append_at hp7 (fun h8 hs8 e8 => ?_) (by rw [sizeLine_eq]; simp; lia))
    obtain ⟨x8, st8⟩ := x7.add hp7 hs8 e8 racc7 ry
    refine wpAny_pure (wpAny_pure ⟨rfl, l2.length + 1 - (j2 + 1), by lia, j2 + 1, acc' ++ [yv], H7, rfl, hlt, by simp; lia, by rw [hr]; exact q7, x8, g7.stp st8, cu7.at st8.sta fun o e => hs8.extBut _ o nI.2.1 e, ?_⟩)
    refine ⟨_, v', (hn5.at' fun o e => st7.keep _ o e x5.gC.non id).at' fun o e => hs8.extBut _ o (Ne.symm x7.DC) e, ?_, (((rv'.sta st4.sta).sta st5.sta).sta st7.sta).sta st8.sta⟩
    rw [if_neg (fun z => hik (inj _ _ z))]; exact hv'
theorem comp_loop2 {elt i0 i1 : Expr} {x y : Str} {px py pos : Pos} {scope : Scope} {cl : List (Str × Addr)} {i k : Nat} {ex jx : X} {Q : V → Hp → Prop} (CO : CxOk c) (CE : CompE c env scope cl [i, k]) (hik : i ≠ k)
    (he : ∀ C, Snd c n (compEnvC scope cl C env) elt ex) (hj : ∀ C, Snd c n (compEnvC scope cl C env) i1 jx) (hs : ∀ C x, foldedSetIterable i1 (compEnvC scope cl C env) x = pure x)
    (hx : x = c.nm i) (hy : y = c.nm k) (x0 : CSt c n env m H1 s1 A I D C l src 0 [] H1 s)
    (q : compGo2 (fun u => awp c n jx ((m.del k).put i u)) (fun u v => awp c n ex ((m.put i u).put k v)) src H1 (newList Q) l [] H1) :
    codeAny (M c) A (.compLoop (.ListComp elt [⟨.Name x px, i0, [], 0⟩, ⟨.Name y py, i1, [], 0⟩] scope pos) 0 (.ref I) (.ref D) (compEnvC scope cl C env))
      (fun r s' => r = .ok .next ∧ CEnd c n env m Q H1 s1 A D C s') s := by
  subst hx
  have hi1 : (compEnvC scope cl C env).kindOf (c.nm i) = some .local := lookup_relabel_local (CE.isl i (by simp))
  refine codeAny_loop rfl (fun q s' => ∃ j acc' H', q = l.length + 1 - j ∧ j ≤ l.length ∧ compGo2 (fun u => awp c n jx ((m.del k).put i u)) (fun u v => awp c n ex ((m.put i u).put k v)) src H1 (newList Q) (l.drop j) acc' H' ∧ CSt c n env m H1 s1 A I D C l src j acc' H' s') (fun q s hI => ?_) (l.length + 1)
    ⟨0, [], H1, rfl, Nat.zero_le _, q, x0⟩
  show wpAny _ A ((compTurn (.ListComp elt [⟨.Name (c.nm i) px, i0, [], 0⟩, ⟨.Name y py, i1, [], 0⟩] scope pos) 0 (.ref I) (.ref D) (compEnvC scope cl C env)).onRaise (fun x => do noteFrame x (compEnvC scope cl C env); theTreesLotGoes x)) _ _ s
  refine wpAny_noted ?_
  rw [comp2_turn0]
  obtain ⟨j, acc', H3, rfl, hjl, q3, x3⟩ := hI
  refine wpAny_bind (wpAny_standAt (wpAny_bind ?_))
  cases hd : l.drop j with
  | nil =>
    rw [hd] at q3
    obtain ⟨hst, q3⟩ := q3
    have hle : l.length ≤ j := by simpa using hd
    exact cur_end x3.ok.room.1 x3.ok.rh x3.cu hst hle fun h' t he' => wpAny_pure ⟨rfl, x3.fin t he' q3⟩
  | cons v r =>
    rw [hd] at q3
    obtain ⟨hst, q4⟩ := q3
    have hx : l[j]? = some v := by
      have := congrArg (fun z => z[0]?) hd
      simpa [List.getElem?_drop] using this
    have hlt : j < l.length := (List.getElem?_eq_some_iff.mp hx).1
    have hr : l.drop (j + 1) = r := by
      have := congrArg (List.drop 1) hd
      simpa [List.drop_drop] using this
    refine cur_item x3.ok.rh x3.cu hst hx fun v4' h4 t4 rv4 cu4 hs4 => ?_
    obtain ⟨mc, hn⟩ := x3.ns
    obtain ⟨x4, st4⟩ := x3.move t4 cu4 hs4
    have hn4 : h4.Ns C mc := hn.at' fun o e => hs4.extBut _ o (Ne.symm x3.IC) e
    refine cur_go cu4 ?_ |> wpAny_bind
    refine wpAny_bind (wpAny_assign_Name (wpAny_storeName_local hi1 hn4 (fun h5 hn5 hs5 => ?_) (by simp [compEnvC, relabel, CE.kind])))
    obtain ⟨x5, st5⟩ := x4.setC (t4 + 1) hn4 (show h5.Ns C _ from hn5) hs5
    have okc : Ok c n (compEnvC scope cl C env) ((m.del k).put i v) H3 A { s with heap := h5, toks := t4 + 1 } := by
      refine cenv_ok CE x5.ok hn5 x5.gC (fun j' w hj' e => ?_) fun j' kk hj' hc => ?_
      · have := CE.loc j' hj'
        simp only [List.mem_cons, List.not_mem_nil, or_false] at this
        rcases this with rfl | rfl
        · simp only [Lo.put, if_true, Option.some.injEq] at e
          subst e
          exact ⟨v4', by simp, rv4.sta st5.sta⟩
        · simp [Lo.put, Lo.del, Ne.symm hik] at e
      · have n1 : j' ≠ i := by rintro rfl; rw [hi1] at hj'; cases hj'; rcases hc with hc | hc <;> cases hc
        have n2 : j' ≠ k := by
          rintro rfl
          rw [show (compEnvC scope cl C env).kindOf (c.nm j') = some .local from lookup_relabel_local (CE.isl j' (by simp))] at hj'
          cases hj'; rcases hc with hc | hc <;> cases hc
        simp [Lo.put, Lo.del, n1, n2]
    refine wpAny_bind (bot_any (wpAny_mono (hj C _ _ H3 q4 A _ okc) ?_ fun zz zz e => e))
    rintro w6' s6 ⟨w6, H6, r6, rh6, st6, l2, sr2, hl2, hz2, q6⟩
    have x6 := x5.step rh6 st6 (fun h => h) (fun h => h) (fun h => h) (fun zz zz h => h) (fun zz h => h.elim)
    refine wpAny_bind (wpAny_standAt (wpAny_bind (wpAny_of_eq (hs C _) (wpAny_bind (wpAny_holding (cur_new CO rh6 r6 hl2 fun ob hob cu => wpAny_bind ?_))))))
    have g7 : Gd c env H6 { s6 with heap := s6.heap.push ob } s6.heap.objs.size := Gd.new x6.ok hob
    have x7 := x6.step (s' := { s6 with heap := s6.heap.push ob }) (rh6.push ob) (Stp.push (own := noOwn) ob s6.toks) (fun h => h) (fun h => h) (fun h => h) (fun zz zz h => h) (fun zz h => h.elim)
    have hn7 := (hn5.at' fun o e => st6.keep _ o e x5.gC.non id).at' fun o e => Heap.get?_push_of_some ob e
    have nl : ∀ a, (s6.heap.get? a).isSome = true → s6.heap.objs.size ≠ a := fun a ha => by rintro rfl; rw [size_free] at ha; cases ha
    have hI2 : s1.heap.get? s6.heap.objs.size = none := by
      cases q : s1.heap.get? s6.heap.objs.size with
      | none => rfl
      | some o => have := x6.st.live _ (by rw [q]; rfl); rw [size_free] at this; cases this
    have L : codeAny (M c) A (.compLoop (.ListComp elt [⟨.Name (c.nm i) px, i0, [], 0⟩, ⟨.Name y py, i1, [], 0⟩] scope pos) 1 (.ref s6.heap.objs.size) (.ref D) (compEnvC scope cl C env))
      (fun rr s' => rr = .ok .next ∧ ∃ acc' H', CSt c n env m H1 s1 A I D C l src (j + 1) acc' H' s' ∧ compGo2 (fun u => awp c n jx ((m.del k).put i u)) (fun u v => awp c n ex ((m.put i u).put k v)) src H1 (newList Q) r acc' H') { s6 with heap := s6.heap.push ob } :=
      comp_loop2i CE hik CO.inj he hz2 hy x7 g7 ⟨nl _ x6.gI.live, nl _ x6.gD.live, nl _ x6.gC.live⟩ hI2 cu ⟨_, v4', hn7, by simp, ((rv4.sta st5.sta).sta st6.sta).sta (Sta.push _ _)⟩ q6
    refine wpAny_runOwn (codeAny_mono (comp2_start1 L (cur_self (H₀ := H6) (l := l2) (src := sr2) (i := 0) cu L)) ?_)
    rintro r' s8 ⟨rfl, acc8, H8, x8, q8⟩
    exact wpAny_pure ⟨rfl, l.length + 1 - (j + 1), by lia, j + 1, acc8, H8, rfl, hlt, by rw [hr]; exact q8, x8⟩
theorem s_comp2 {elt i0 i1 : Expr} {x y z : Str} {px py pz pos spos : Pos} {scope : Scope} {cl : List (Str × Addr)} {i k j : Nat} {ix jx ex : X} (CO : CxOk c) (E : EnvOk env) (CE : CompE c env scope cl [i, k]) (hik : i ≠ k) (hx : x = c.nm i) (hy : y = c.nm k) (hzn : z = c.nm j) (hk : env.kindOf z = some .local ∨ env.kindOf z = some .cell)
    (hsw : swapsWith (.ListComp elt [⟨.Name x px, i0, [], 0⟩, ⟨.Name y py, i1, [], 0⟩] scope pos) (some (.Name z pz)) spos.line env = pure true) (hs : ∀ x, foldedSetIterable i0 env x = pure x) (hs1 : ∀ C x, foldedSetIterable i1 (compEnvC scope cl C env) x = pure x) (hi : Snd c n env i0 ix)
    (he : ∀ C, Snd c n (compEnvC scope cl C env) elt ex) (hj : ∀ C, Snd c n (compEnvC scope cl C env) i1 jx) : SndS c n env (.Assign [.Name z pz] (.ListComp elt [⟨.Name x px, i0, [], 0⟩, ⟨.Name y py, i1, [], 0⟩] scope pos) spos) (.asg j (.comp2 ex i ix k jx)) := by
  intro m Q H h A s ok
  refine comp_used hsw fun p => ?_
  refine comp_enter (Q := fun v H => Q .next (m.put j v) H) (W := fun l src H1 => l.length ≤ 100000 ∧ compGo2 (fun u => awp c n jx ((m.del k).put i u)) (fun u v => awp c n ex ((m.put i u).put k v)) src H1 (newList fun v H => Q .next (m.put j v) H) l [] H1) CO CE hs hi h ok ?_ fun s1 H1 D C s' st x => x.use CO E hzn hk st
  rintro l src H1 s1 I D C s2 ⟨_, hg⟩ x0
  exact comp_loop2 CO CE hik he hj hs1 hx hy x0 hg
theorem snd_comp2 {elt i0 i1 : Expr} {x y : Str} {px py pos : Pos} {scope : Scope} {cl : List (Str × Addr)} {i k : Nat} {ix jx ex : X} (CO : CxOk c) (CE : CompE c env scope cl [i, k]) (hik : i ≠ k) (hx : x = c.nm i) (hy : y = c.nm k)
    (hs : ∀ x, foldedSetIterable i0 env x = pure x) (hs1 : ∀ C x, foldedSetIterable i1 (compEnvC scope cl C env) x = pure x) (hi : Snd c n env i0 ix)
    (he : ∀ C, Snd c n (compEnvC scope cl C env) elt ex) (hj : ∀ C, Snd c n (compEnvC scope cl C env) i1 jx) : Snd c n env (.ListComp elt [⟨.Name x px, i0, [], 0⟩, ⟨.Name y py, i1, [], 0⟩] scope pos) (.comp2 ex i ix k jx) := by
  intro m Q H h A s ok
  rw [eval_ListComp]
  refine comp_enter (W := fun l src H1 => l.length ≤ 100000 ∧ compGo2 (fun u => awp c n jx ((m.del k).put i u)) (fun u v => awp c n ex ((m.put i u).put k v)) src H1 (newList Q) l [] H1) CO CE hs hi h ok ?_ fun s1 H1 D C s' st x => x.val st
  rintro l src H1 s1 I D C s2 ⟨_, hg⟩ x0
  exact comp_loop2 CO CE hik he hj hs1 hx hy x0 hg
end
end Mine
set_option tactic.hygienic false
open PySem PySem.W PySem.Calls PyProof PyProof.Rows PySem.SeqAt
set_option maxRecDepth 100000
namespace Mine
noncomputable def bindM : List Nat → List V → Lo → Lo
  | i :: is, v :: vs, m => bindM is vs (m.put i v)
  | _, _, m => m
noncomputable def noLo : Lo := fun zz => none
section
variable {c : Cx} {n : Nat} {H H' : Hp} {A : Around} {s s' s'' : Shared}
theorem cellsFrom_mem : ∀ (names : List (Str × NameKind)) (lo : Nat) (acc : List (Str × Addr)) (x : Str), ((∃ a, (x, a) ∈ acc) ∨ names.lookup x = some .cell) → ∃ a, (x, a) ∈ cellsFrom lo names acc
  | [], lo, acc, x, h => by
    rcases h with h | h
    · exact h
    · cases h
  | (y, k) :: r, lo, acc, x, h => by
    unfold cellsFrom
    by_cases hk : (k == .cell) = true
    · rw [if_pos hk]
      refine cellsFrom_mem r _ _ x ?_
      rcases h with ⟨a, h⟩ | h
      · exact .inl ⟨a, List.mem_cons_of_mem _ h⟩
      · rw [List.lookup_cons] at h
        cases hb : x == y with
        | true => rw [beq_iff_eq.mp hb]; exact .inl ⟨lo, List.mem_cons_self⟩
        | false => rw [hb] at h; exact .inr h
    · rw [if_neg hk]
      refine cellsFrom_mem r _ _ x ?_
      rcases h with h | h
      · exact .inl h
      · rw [List.lookup_cons] at h
        cases hb : x == y with
        | true =>
          rw [hb] at h
          cases h
          exact absurd rfl hk
        | false => rw [hb] at h; exact .inr h
theorem lookup_of_mem' {α : Type} : ∀ {l : List (Str × α)} {x : Str} {a : α}, (x, a) ∈ l → ∃ b, l.lookup x = some b
  | (y, b) :: r, x, a, h => by
    rw [List.lookup_cons]
    cases hb : x == y with
    | true => exact ⟨b, rfl⟩
    | false =>
      rcases List.mem_cons.mp h with h | h
      · cases h; simp at hb
      · exact lookup_of_mem' h
structure FnOk (c : Cx) (g : Addr) (fd : FuncData) (body : List Stmt) (ps : List Nat) (k : Nat) (dv : List (V × Value)) : Prop where
  at_ : ∃ od, c.K.lookup g = some od ∧ od.data = .func fd
  code : codeIn c.K fd.code fd.qualname = true
  body : fd.body = .stmts body
  clo : fd.closure = []
  glob : fd.globals = mainGlobals
  blt : fd.builtins = builtinsNs
  co : fd.scope.isCoroutine = false
  gen : fd.scope.isGenerator = false
  kind : fd.scope.kind = .function
  more : fd.scope.more.all (fun x => x.1 != ("interactive" : Str)) = true
  nd : ((cellsFrom 0 fd.scope.names []).map (fun zz => zz.1)).Nodup
  nfree : ∀ x, fd.scope.names.lookup x ≠ some .free
  par : ∀ i ∈ ps, fd.scope.names.lookup (c.nm i) = some .local ∨ fd.scope.names.lookup (c.nm i) = some .cell
  bind : ∀ s vs', c.K.In s.heap → vs'.length = k → BindsTo s fd ⟨vs', []⟩ ((ps.map c.nm).zip (vs' ++ dv.map (fun zz => zz.2)))
  dvr : ∀ h, ∀ d ∈ dv, VR h d.1 d.2
theorem cells_apart (names : List (Str × NameKind)) (n : Nat) : (cellsFrom n names []).Pairwise fun x y => x.2 ≠ y.2 := by
  have : ∀ (names : List (Str × NameKind)) (n : Nat) (acc : List (Str × Addr)), (∀ x ∈ acc, x.2 < n) → acc.Pairwise (fun x y => x.2 ≠ y.2) → (cellsFrom n names acc).Pairwise fun x y => x.2 ≠ y.2 := by
    intro names
    induction names with
    | nil => intro n acc _ h; exact h
    | cons y r ih =>
      intro n acc hlt hp
      obtain ⟨y, k⟩ := y
      unfold cellsFrom
      split
      · refine ih _ _ (fun x hx => ?_) (List.pairwise_cons.mpr ⟨fun x hx e => ?_, hp⟩)
        · rcases List.mem_cons.mp hx with rfl | hx
          · exact Nat.lt_succ_self _
          · exact Nat.lt_succ_of_lt (hlt x hx)
        · have := hlt x hx
          rw [← e] at this; exact Nat.lt_irrefl _ this
      · exact ih _ _ hlt hp
  exact this names n [] (by simp) .nil
theorem fn_env {g L : Addr} {fd : FuncData} {body : List Stmt} {ps : List Nat} {k : Nat} {dv : List (V × Value)} (F : FnOk c g fd body ps k dv) : EnvOk (callEnvC fd L g) :=
  ⟨F.kind, F.glob, F.blt, F.more, fun zz zz zz h1 h2 => name_of_addr (cells_apart fd.scope.names (L + 1)) h1 h2, fun y kk hk hc => by
    rcases hc with rfl | rfl
    · obtain ⟨a, ha⟩ := cellsFrom_mem fd.scope.names (L + 1) [] y (.inr hk)
      exact lookup_of_mem' ha
    · exact absurd hk (F.nfree _)⟩
theorem bind_rel {h : Heap} {kindOf : Str → Option NameKind} (inj : ∀ i j, c.nm i = c.nm j → i = j) : ∀ (ps : List Nat) (args : List V) (vs : List Value) (m : Lo) (lm cm : Str → Option Value), VRs h args vs →
    (∀ i v, m i = some v → ∃ v', VR h v v' ∧ if kindOf (c.nm i) = some .local then lm (c.nm i) = some v' else cm (c.nm i) = some v') →
    ∀ i v, bindM ps args m i = some v → ∃ v', VR h v v' ∧ if kindOf (c.nm i) = some .local then bindL kindOf ((ps.map c.nm).zip vs) lm (c.nm i) = some v' else bindC kindOf ((ps.map c.nm).zip vs) cm (c.nm i) = some v'
  | [], _, _, m, lm, cm, _, hm => by simpa [bindM, bindL, bindC] using hm
  | p :: ps, [], _, m, lm, cm, .nil, hm => by simpa [bindM, bindL, bindC] using hm
  | p :: ps, a :: args, _, m, lm, cm, .cons (v' := a') ra r, hm => by
    simp only [bindM, List.map_cons, List.zip_cons_cons, bindL, bindC]
    refine bind_rel inj ps args _ _ _ _ r fun i v e => ?_
    by_cases q : i = p
    · subst q
      simp only [Lo.put, if_true, Option.some.injEq] at e
      subst e
      refine ⟨a', ra, ?_⟩
      by_cases hk : kindOf (c.nm i) = some .local <;> simp [hk]
    · simp only [Lo.put, if_neg q] at e
      obtain ⟨v', rv, h2⟩ := hm i v e
      refine ⟨v', rv, ?_⟩
      have ne : c.nm i ≠ c.nm p := fun z => q (inj _ _ z)
      by_cases hk : kindOf (c.nm i) = some .local
      · rw [if_pos hk] at h2 ⊢
        by_cases hp : kindOf (c.nm p) = some .local
        · rw [if_pos hp, if_neg ne]; exact h2
        · rw [if_neg hp]; exact h2
      · rw [if_neg hk] at h2 ⊢
        by_cases hp : kindOf (c.nm p) = some .local
        · rw [if_pos hp]; exact h2
        · rw [if_neg hp, if_neg ne]; exact h2
theorem VRs.of_dv {h : Heap} : ∀ {dv : List (V × Value)}, (∀ d ∈ dv, VR h d.1 d.2) → VRs h (dv.map (fun zz => zz.1)) (dv.map (fun zz => zz.2))
  | [], _ => .nil
  | d :: r, x => .cons (x d (by simp)) (VRs.of_dv fun e he => x e (by simp [he]))
theorem call_fn {g : Addr} {fd : FuncData} {body : List Stmt} {ps : List Nat} {k : Nat} {dv : List (V × Value)} {xs : Ss} {args : List V} {Q : V → Hp → Prop} (C : CxOk c) (F : FnOk c g fd body ps k dv) (hlen : args.length = k)
    (hb : ∀ L, EnvOk (callEnvC fd L g) → SndSs c n (callEnvC fd L g) body xs)
    (q : swps c n xs (fun f zz H' => match f with | .next => Q .none H' | .ret v => Q v H') (bindM ps (args ++ dv.map (fun zz => zz.1)) noLo) H) : CallOK c (n + 1) (.fn (.ref g)) args Q H := by
  intro A s f' args' room rh rf ra
  cases rf
  have E : ∀ L, EnvOk (callEnvC fd L g) := fun L => fn_env F
  have kin : c.K.In s.heap := kin_of C rh
  obtain ⟨od, e1, e2⟩ := F.at_
  have hla : args'.length = k := by rw [ra.length]; exact hlen
  have hlim : s.heap.NoLimit := C.lim.keeps fun b o e => (rh.base b o e).1
  refine codeAny_call_function (by have := room.2.1; lia) (kin _ _ e1) e2 F.co F.gen F.body (codeRec_of kin F.code) (F.bind s args' kin hla _ _ _ _ ?_)
  rw [F.clo]
  refine wpAny_newFunctionEnv_cells F.kind (fun x hx => ?_) fun env' he s1 x => ?_
  · have : x.1 ∈ ps.map c.nm := by
      have := (List.of_mem_zip (a := x.1) (b := x.2) hx).1
      exact this
    obtain ⟨i, hi, e⟩ := List.mem_map.mp this
    rw [← e]
    rcases F.par i hi with h | h
    · exact .inl h
    · refine .inr ⟨h, ?_⟩
      obtain ⟨a, ha⟩ := cellsFrom_mem fd.scope.names (s.heap.objs.size + 1) [] (c.nm i) (.inr h)
      obtain ⟨b, hb⟩ := lookup_of_mem' ha
      rw [hb]; rfl
  · have he' : env' = callEnvC fd s.heap.objs.size g := he
    subst he'
    generalize hL : s.heap.objs.size = L at x
    obtain ⟨h1, tk, rfl, keep⟩ := x.done
    have hlim1 := hlim.keeps keep
    refine ⟨hlim1, codeAny_func ?_⟩
    have rh1 : RH c.prog c.w c.base H h1 := rh.grow keep
    have st1 : Stp noOwn H s H { s with heap := h1, toks := tk } := Stp.grow tk keep
    have sta1 : Sta s.heap h1 := st1.sta
    have rb := bind_rel (kindOf := (callEnvC fd L g).kindOf) (h := h1) C.inj ps (args ++ dv.map (fun zz => zz.1)) (args' ++ dv.map (fun zz => zz.2)) noLo (fun zz => none) (fun zz => none) ((ra.sta sta1).append (VRs.of_dv (F.dvr h1))) (fun i v e => by cases e)
    have fresh : ∀ a, Own (callEnvC fd L g) a → s.heap.get? a = none := by
      intro a ha
      have hle : s.heap.objs.size ≤ a := by
        rcases ha with ha | ⟨y, hy⟩
        · have : a = L := ha
          rw [this, hL]; exact Nat.le_refl _
        · have : L < a := x.above y a hy
          exact Nat.le_of_lt (by rw [hL]; exact this)
      cases z : s.heap.get? a with
      | none => rfl
      | some o => exact absurd (Heap.lt_size z) (Nat.not_lt.mpr hle)
    have ok : Ok c n (callEnvC fd L g) (bindM ps (args ++ dv.map (fun zz => zz.1)) noLo) H (A.deeper (callEnvC fd L g)) { s with heap := h1, toks := tk } := by
      refine ⟨⟨room.1, ?_, ?_⟩, rh1, ⟨⟨_, x.toInCall.ns, fun i v hk e => ?_⟩, fun i kk hk hc => ?_⟩, fun a ha => ⟨?_, ?_, ?_⟩⟩
      · have := room.2.1; show A.depth + 1 + 2 * n < recursionLimit; lia
      · have := room.2.2; rw [Around.deeper_units]; lia
      · obtain ⟨v', rv, h2⟩ := rb i v e
        rw [if_pos hk] at h2
        exact ⟨v', h2, rv⟩
      · rcases hc with rfl | rfl
        · obtain ⟨a, ha⟩ := cellsFrom_mem fd.scope.names (L + 1) [] (c.nm i) (.inr hk)
          obtain ⟨b, hb⟩ := lookup_of_mem' ha
          refine ⟨b, _, hb, x.cell _ _ hb, fun v e => ?_⟩
          obtain ⟨v', rv, h2⟩ := rb i v e
          rw [if_neg (by rw [hk]; decide)] at h2
          exact ⟨v', h2, rv⟩
        · exact absurd hk (F.nfree _)
      · rcases ha with ha | ⟨y, hy⟩
        · obtain ⟨o, _, _, e, _⟩ := x.toInCall.ns
          have ha' : a = (callEnvC fd L g).locals := ha
          have e' : h1.get? a = some o := by rw [ha']; exact e
          show (h1.get? a).isSome = true
          rw [e']; rfl
        · have hl : (callEnvC fd L g).cells.lookup y = some a := lookup_of_mem_nodup (cellsFrom_names fd.scope.names 0 (L + 1) [] [] rfl ▸ F.nd) hy
          obtain ⟨o, e, _⟩ := x.cell _ _ hl
          rw [e]; rfl
      · exact rh.H_none (fresh a ha)
      · exact rh.base_none (fresh a ha)
    refine wpAny_mono (hb L (E L) _ _ H q _ _ ok) ?_ fun zz zz e => e.elim
    rintro f s2 ⟨fl, m2, H2, r2, rh2, fr2, st2, q2⟩
    have stA : Stp noOwn H s H2 s2 := (st1.lo.trans st2).drop fun a ha => .inr (fresh a ha)
    match fl, f, r2 with
    | .next, .next, _ => exact ⟨_, rfl, .none, H2, .none, rh2, stA, q2⟩
    | .ret v, .ret v', r => exact ⟨_, rfl, v, H2, r, rh2, stA, q2⟩
theorem RH.newInst {h : Heap} {C : Addr} (x : RH c.prog c.w c.base H h) : RH c.prog c.w c.base ((H.put h.objs.size (.hid (h.objs.size + 1))).put (h.objs.size + 1) (.inst C h.objs.size [])) ((h.push emptyDict).push (instObj C h.objs.size)) := by
  have e1 : ((h.push emptyDict).push (instObj C h.objs.size)).get? h.objs.size = some emptyDict := Heap.get?_push_of_some _ (Heap.get?_push_size _ rfl)
  have e2 : ((h.push emptyDict).push (instObj C h.objs.size)).get? (h.objs.size + 1) = some (instObj C h.objs.size) := by
    have := Heap.get?_push_size (h.push emptyDict) (o := instObj C h.objs.size) rfl
    rwa [Heap.size_push] at this
  have k : ∀ b o, h.get? b = some o → ((h.push emptyDict).push (instObj C h.objs.size)).get? b = some o := fun b o e => Heap.get?_push_of_some _ (Heap.get?_push_of_some _ e)
  have x' := x.grow k
  have n1 : H h.objs.size = none := x.none_size
  have n2 : H (h.objs.size + 1) = none := x.H_none (by
    cases z : h.get? (h.objs.size + 1) with
    | none => rfl
    | some o => exact absurd (Heap.lt_size z) (Nat.not_lt.mpr (Nat.le_succ _)))
  refine ⟨fun b o' e => ?_, fun b C' dx fs e => ?_, fun b o' e => ?_⟩
  · by_cases q : b = h.objs.size + 1
    · subst q; rw [Hp.put_self] at e; cases e
      exact ⟨⟨_, e2⟩, [], 0, e1, .nil⟩
    · rw [Hp.put_ne q] at e
      by_cases q2 : b = h.objs.size
      · subst q2; rw [Hp.put_self] at e; cases e
        exact ⟨[], 0, e1⟩
      · rw [Hp.put_ne q2] at e
        exact x'.obj b o' e
  · by_cases q : b = h.objs.size + 1
    · subst q; rw [Hp.put_self] at e; cases e
      rw [Hp.put_ne (Ne.symm (Nat.succ_ne_self _)), Hp.put_self]
    · rw [Hp.put_ne q] at e
      by_cases q2 : b = h.objs.size
      · subst q2; rw [Hp.put_self] at e; cases e
      · rw [Hp.put_ne q2] at e
        have e' := x.apart _ _ _ _ e
        rw [Hp.put_ne (by rintro rfl; rw [n2] at e'; cases e'), Hp.put_ne (by rintro rfl; rw [n1] at e'; cases e')]
        exact e'
  · have hb := x.base b o' e
    have hlt := Heap.lt_size hb.1
    exact ⟨k _ _ hb.1, by rw [Hp.put_ne (Nat.ne_of_lt (Nat.lt_succ_of_lt hlt)), Hp.put_ne (Nat.ne_of_lt hlt)]; exact hb.2⟩
theorem call_cls {C fI : Addr} {args : List V} {Q : V → Hp → Prop} (CO : CxOk c) (hm : makesIn c.K C = true) (hi : findIn c.K (.ref C) "__init__" = some (some (.ref fI))) (hf : typeIn c.K (.ref fI) = some (.type "function"))
    (q : ∀ x dx, H x = none → H dx = none → x ≠ dx → CallOK c n (.fn (.ref fI)) (.ref x :: args) (fun v H' => v = .none ∧ Q (.ref x) H') ((H.put dx (.hid x)).put x (.inst C dx []))) : CallOK c (n + 1) (.fn (.ref C)) args Q H := by
  intro A s f' args' room rh rf ra
  cases rf
  have X : c.K.In s.heap := kin_of CO rh
  obtain ⟨h, g, d, t, os⟩ := s
  have k : ∀ b o, h.get? b = some o → ((h.push emptyDict).push (instObj C h.objs.size)).get? b = some o := fun b o e => Heap.get?_push_of_some _ (Heap.get?_push_of_some _ e)
  have rh' := rh.newInst (C := C)
  have n1 : H h.objs.size = none := rh.none_size
  have f2 : h.get? (h.objs.size + 1) = none := by
    cases z : h.get? (h.objs.size + 1) with
    | none => rfl
    | some o => exact absurd (Heap.lt_size z) (Nat.not_lt.mpr (Nat.le_succ _))
  have n2 : H (h.objs.size + 1) = none := rh.H_none f2
  have hroom : Room n (A.under (.builtin "type.__call__" ⟨.ref C :: args', []⟩)) := by
    have h1 := room.2.1
    have h2 := room.2.2
    have hw : (Code.builtin "type.__call__" ⟨.ref C :: args', []⟩).weight = 1 := rfl
    have hu : (Code.builtin "type.__call__" ⟨.ref C :: args', []⟩).cUnits = 1 := rfl
    refine ⟨room.1, ?_, ?_⟩
    · show A.depth + (Code.builtin "type.__call__" ⟨.ref C :: args', []⟩).weight + 2 * n < recursionLimit
      lia
    · show A.units + (Code.builtin "type.__call__" ⟨.ref C :: args', []⟩).cUnits + 50 * n < cLine
      lia
  refine make_core (makes_of X hm) (looks_findIn X hi) (fun self => bind_fn X self hf) (.inl rfl) (codeAny_mono (q _ _ n2 n1 (Nat.succ_ne_self _) _ _ _ (.ref (h.objs.size + 1) :: args') hroom rh' (.fn _) (.cons (.ref _) (ra.sta fun b o e zz => k b o e))) ?_)
  rintro r s3 ⟨v', rfl, v, H3, rv, rh3, st3, rfl, q3⟩
  cases rv
  refine ⟨rfl, .ref _, rfl, .ref _, H3, .ref _, rh3, ⟨fun a o e e' zz => ?_, fun a ha => ?_, fun a o e st => st3.sta a o (k a o e) st, fun a ha => ?_, rest_trans (s' := ⟨(h.push emptyDict).push (instObj C h.objs.size), g, d, t, os⟩) rfl st3.rest, fun a l o e e' => ?_⟩, q3⟩
  · have hlt := Heap.lt_size e
    exact st3.keep a o (k a o e) (by rw [Hp.put_ne (Nat.ne_of_lt (Nat.lt_succ_of_lt hlt)), Hp.put_ne (Nat.ne_of_lt hlt)]; exact e') id
  · rcases st3.new a ha with z | z
    · by_cases q1 : a = h.objs.size + 1
      · subst q1; exact .inr f2
      · rw [Hp.put_ne q1] at z
        by_cases q2 : a = h.objs.size
        · subst q2; exact .inr size_free
        · rw [Hp.put_ne q2] at z; exact .inl z
    · refine .inr ?_
      cases y : h.get? a with
      | none => rfl
      | some o =>
        have := k a o y
        rw [show (({ heap := (h.push emptyDict).push (instObj C h.objs.size), gens := g, drawn := d, toks := t, os := os } : Shared).heap.get? a) = _ from this] at z
        cases z
  · obtain ⟨o, e⟩ := Option.isSome_iff_exists.mp ha
    exact st3.live a (by rw [show (({ heap := (h.push emptyDict).push (instObj C h.objs.size), gens := g, drawn := d, toks := t, os := os } : Shared).heap.get? a) = _ from k a o e]; rfl)
  · have hlt := Heap.lt_size e'
    exact st3.ro a l o (by rw [Hp.put_ne (Nat.ne_of_lt (Nat.lt_succ_of_lt hlt)), Hp.put_ne (Nat.ne_of_lt hlt)]; exact e) (k a o e')
end
end Mine
set_option tactic.hygienic false
open PySem PySem.W PySem.Calls PyProof PyProof.Rows PySem.SeqAt
set_option maxRecDepth 100000
namespace Mine
section
variable {c : Cx} {n : Nat} {env : Env} {m m' : Lo} {H H' H₀ : Hp} {A : Around} {s s' s'' : Shared}
theorem list_no_keys : typeLookup (.type "list") "keys" = pure none := by rw [typeLookup_type, builtinLookup_eq_fast]; kernel_rfl
theorem getAttrQ_miss_list {prog : Program} {w : World} {A : Around} {E : Value → Shared → Prop} {s : Shared} {a : Addr} {o : Obj} {xs : Array Value} {k : Nat} {name : Str} {Q : Option Value → Shared → Prop}
    (hx : s.heap.get? a = some o) (hc : o.cls = .type "list") (hdat : o.data = .seq xs k) (hd : o.dict = none) (hmiss : typeLookup (.type "list") name = pure none) (hname : (["__module__", "__name__", "__qualname__", "__doc__", "__annotations__"] : List Str).contains name = false) (hA : A.handled = none)
    (h : ∀ h' tk, (∀ b o, s.heap.get? b = some o → h'.get? b = some o) → Q none { s with heap := h', toks := tk }) (hsz : name.length + 100 ≤ sizeLine := by size_fits) :
    wpAny (model prog w) A (getAttr? (.ref a) name) Q E s := by
  obtain ⟨c, dct, dat, sl⟩ := o
  simp only at hc hdat hd
  subst hc hdat hd
  obtain ⟨hp, g, d, tk, os⟩ := s
  have hT : ∀ tk', (⟨hp, g, d, tk', os⟩ : Shared).TypeIs (.ref a) "list" := fun zz => ⟨_, hx, rfl⟩
  have f1 := sub_AttributeError
  have f3 := F.slot_list_getattribute.lookup
  have f4 := F.slot_list_getattribute.bind (.ref a)
  have f5 := am_list_getattr_none
  unfold getAttr? getAttrBy? getAttrBy
  repeat (any_goals (first | assumption | exact hT _ | ((with_reducible show wpAny _ _ (call (Value.builtin "list.__getattribute__") _ _) _ _ _); refine call_meets F.slot_list_getattribute (hT _) am_entry_list_getattribute (F.args_list_getattribute_2 _ _) (meets_getattribute_miss_list a xs k sl name _ hmiss hname hsz) ⟨hx, hA, fun h' tk' e hx' => ?_⟩) | wp_step))
  obtain ⟨t', u', he⟩ := hx'.there
  show wpAny _ _ (getattributeRaised _ _ _ _ _ _ _) _ _ _
  unfold getattributeRaised
  repeat (any_goals (first | assumption | wp_step))
  all_goals (first | exact h _ _ hx'.keeps | trace_state)
theorem entry_dict_loop : entryFor table "dict.update.loop" = some Builtin.«dict.update.loop» := entryFor_of_tree (by kernel_rfl)
theorem plain_dict_loop : plainId "dict.update.loop" = true := by decide +kernel
noncomputable def pairL (kvs : List (List Int × V)) : List V := kvs.map fun e => .tup [.tup (e.1.map V.int), e.2]
theorem dict_loop {a d I : Addr} {kvs : List (List Int × V)} {R : Result → Shared → Prop} (hh : A.handled = none) (hu : A.units + 2 < cLine) (el : H a = some (.list (pairL kvs))) (hz : kvs.length < 50000) (nI : H I = none) (bI : c.base.get? I = none) (nd : H d = none) (bd : c.base.get? d = none) (hdI : d ≠ I) :
    ∀ (k i : Nat) (tk : Tok) (s : Shared) (es : List (List Int × V)), kvs.length - i = k → i ≤ kvs.length → es.length ≤ i → RH c.prog c.w c.base H s.heap → Cur H s.heap I (pairL kvs) (some a) i → OR c.prog c.w s.heap d (.dictT es) →
      (∀ s', RH c.prog c.w c.base H s'.heap → OR c.prog c.w s'.heap d (.dictT ((kvs.drop i).foldl (fun es e => putI es e.1 e.2) es)) → (s'.heap.get? d).isSome = true → (∀ b o, b ≠ I → b ≠ d → s.heap.get? b = some o → s'.heap.get? b = some o) → s' = { s with heap := s'.heap, toks := s'.toks } → R (.ok (.ret .none)) s') →
      codeAny (M c) A (.builtin "dict.update.loop" ⟨[.ref d, .ref I, .int i tk, .none], []⟩) R s
  | 0, i, tk, s, es, hk, hi, he, rh, cu, od, hR => by
    have hin : i = kvs.length := by lia
    subst hin
    refine codeAny_builtin entry_dict_loop ?_
    rw [Around.under_plainId plain_dict_loop _]
    show wpAny _ A.in1 (pyNext (.ref I) >>= _) _ _ s
    refine wpAny_bind (cur_end (A := A.in1) hh rh cu (fun b hb => by rfl) (by simp [pairL]) fun h' t he' => ?_)
    obtain ⟨oI, eI, nst, _⟩ := cu.obj
    refine wpAny_bind (m := Builtin.Dict.addKeywords d []) (wpAny_pure ?_)
    have od' : OR c.prog c.w h' d (.dictT es) := od.at (Sta.but he' eI nst) (fun o e => he' _ o hdI e) (fun zz zz zz e => by cases e)
    obtain ⟨xs, hd, _⟩ := id od'
    obtain ⟨_, _, _, e3, _⟩ := id hd
    refine wpAny_pure (hR { s with heap := h', toks := t } (rh.own nI bI eI nst he') (by rw [List.drop_length]; exact od') (by show (h'.get? d).isSome = true; rw [e3]; rfl) (fun b o h1 zz e => he' b o h1 e) rfl)
  | k + 1, i, tk, s, es, hk, hi, he, rh, cu, od, hR => by
    have hlt : i < kvs.length := by lia
    obtain ⟨oI, eI, nst, _⟩ := cu.obj
    refine codeAny_builtin entry_dict_loop ?_
    rw [Around.under_plainId plain_dict_loop _]
    show wpAny _ A.in1 (pyNext (.ref I) >>= _) _ _ s
    have hx : (pairL kvs)[i]? = some (.tup [.tup (kvs[i].1.map V.int), kvs[i].2]) := by simp [pairL, hlt]
    refine wpAny_bind (cur_item (A := A.in1) rh cu (fun b hb => by rfl) hx fun v' h1 t1 rv cu1 hs1 => ?_)
    have sta1 : Sta s.heap h1 := Sta.but hs1.extBut eI nst
    have od1 : OR c.prog c.w h1 d (.dictT es) := od.at sta1 (fun o e => hs1.extBut _ o hdI e) (fun zz zz zz e => by cases e)
    have rh1 : RH c.prog c.w c.base H h1 := rh.own nI bI eI nst hs1.extBut
    refine VR.tup2E rv fun ta va vb it rk rv => ?_
    cases rk with
    | @tup _ us tb itb rk =>
    obtain ⟨ot, eot, hct, kt, hdt⟩ := id it
    refine wpAny_bind (wpAny_holding (wpAny_bind ?_))
    refine wpAny_tryCatch ?_
    unfold Builtin.Dict.pairItems
    refine wpAny_bind (wpAny_typeOf (T := "tuple") ⟨ot, eot, hct⟩ ?_)
    rw [if_pos (by decide)]
    refine wpAny_bind (wpAny_seqItems eot hdt ?_)
    refine wpAny_pure ?_
    have hk' : IsTupleKey (intKind c.prog c.w) h1 kvs[i].1 tb := tup_key itb rk
    obtain ⟨xs, hd, e, rl⟩ := id od1
    have e0 : xs.length = es.length := by simpa using congrArg List.length e
    show wpAny _ _ (holding [Value.ref tb, _] (dictSet d (.ref tb) _)) _ _ _
    refine wpAny_holding (wpAny_dictSet_heap (knd := tupleKind (intKind c.prog c.w)) (show A.in1.units < cLine by show A.units + 1 < cLine; lia) hk' hd (fun h2 hd2 hs2 => ?_) (by rw [sizeLine_eq]; lia))
    obtain ⟨od0, _, _, eod, _, hdd, _⟩ := id hd
    have nstd : ¬ Still od0 := not_still_dict hdd
    have sta2 : Sta h1 h2 := Sta.but hs2.extBut eod nstd
    have rh2 : RH c.prog c.w c.base H h2 := rh1.own nd bd eod nstd hs2.extBut
    obtain ⟨e1, r1⟩ := putI_storedH (k := kvs[i].1) (a := tb) rv es xs e rl
    have od2 : OR c.prog c.w h2 d (.dictT (putI es kvs[i].1 kvs[i].2)) := ⟨_, hd2, e1, r1.sta sta2⟩
    have cu2 : Cur H h2 I (pairL kvs) (some a) (i + 1) := cu1.at sta2 fun o e => hs2.extBut _ o (Ne.symm hdI) e
    have hlen : (putI es kvs[i].1 kvs[i].2).length ≤ i + 1 := by
      unfold putI
      split
      · simp; lia
      · simp; lia
    refine wpAny_pure ⟨plainId_quiet plain_dict_loop _, dict_loop hh hu el hz nI bI nd bd hdI k (i + 1) _ _ _ (by lia) hlt hlen rh2 cu2 od2 fun s' a1 a2 a3 a4 a5 => hR s' a1 ?_ a3 (fun b o b1 b2 e => a4 b o b1 b2 (hs2.extBut b o b2 (hs1.extBut b o b1 e))) (rest_trans rfl a5)⟩
    have hdr : kvs.drop i = kvs[i] :: kvs.drop (i + 1) := by rw [List.drop_eq_getElem_cons hlt]
    rw [hdr, List.foldl_cons]
    exact a2
theorem un_dict (C : CxOk c) {Q : V → Hp → Prop} : Un c (n + 1) env m (fun v => call (.type "dict") [v]) (fun a => dictQ a Q) Q := by
  rintro H A s v v' ok rv ⟨a, kvs, rfl, el, hz, q⟩
  cases rv
  refine callType_codes (Q₁ := fun obj s₁ => obj = .ref s.heap.objs.size ∧ s₁ = { s with heap := s.heap.push { cls := .type "dict", data := .dict #[] } }) PySem.F.kt_called_dict (PySem.F.kt_typeCall_dict_1 _) PySem.F.entry_dict_init (kt_code_dict_new _ ⟨rfl, rfl⟩) ?_
  rintro obj s₁ ⟨rfl, rfl⟩
  have hnew : (s.heap.push { cls := .type "dict", data := .dict #[] }).get? s.heap.objs.size = some { cls := .type "dict", data := .dict #[] } := Heap.get?_push_size _ rfl
  refine ⟨⟨_, hnew, rfl⟩, PySem.F.args_dict_init_2 _ _, ?_⟩
  unfold Builtin.«dict.__init__»
  refine wpAny_bind ?_
  unfold Builtin.Dict.selfAndRest
  refine wpAny_bind (wpAny_notOrdered_dict ⟨_, hnew, rfl⟩ ?_)
  show wpAny _ _ (pure (s.heap.objs.size, [Value.ref a])) _ _ _
  refine wpAny_pure ?_
  show wpAny _ _ (Builtin.Dict.updateFrom "dict.__init__" s.heap.objs.size (.ref a) [] .none) _ _ _
  unfold Builtin.Dict.updateFrom
  have rh0 : RH c.prog c.w c.base H (s.heap.push { cls := .type "dict", data := .dict #[] }) := ok.rh.push _
  obtain ⟨vs, ⟨kk, hl⟩, rl⟩ := rh0.obj _ _ el
  refine wpAny_bind (wpAny_typeOf (T := "list") ⟨_, hl, rfl⟩ ?_)
  rw [if_pos (by decide)]
  refine wpAny_bind (getAttrQ_miss_list hl rfl rfl rfl list_no_keys (by decide +kernel) ok.room.1 fun h1 t1 keep => ?_)
  show wpAny _ _ (rule _ >>= _) _ _ _
  refine wpAny_bind (wpAny_rule ?_)
  have rh1 : RH c.prog c.w c.base H h1 := rh0.grow keep
  refine wpAny_bind (cur_new C rh1 (.ref a) (l := pairL kvs) (src := some a) (by simp [iterQ, el, pairL]) fun ob hob cu => ?_)
  dsimp only at cu keep ⊢
  have ed1 : h1.get? s.heap.objs.size = some { cls := .type "dict", data := .dict #[] } := keep _ _ hnew
  have nd : H s.heap.objs.size = none := ok.rh.none_size
  have bd : c.base.get? s.heap.objs.size = none := ok.rh.base_none size_free
  have nI : H h1.objs.size = none := rh1.none_size
  have bI : c.base.get? h1.objs.size = none := rh1.base_none size_free
  have hdI : s.heap.objs.size ≠ h1.objs.size := Nat.ne_of_lt (Heap.lt_size ed1)
  have up : ∀ b o, s.heap.get? b = some o → (h1.push ob).get? b = some o := fun b o e => Heap.get?_push_of_some ob (keep b o (Heap.get?_push_of_some _ e))
  have od : OR c.prog c.w (h1.push ob) s.heap.objs.size (.dictT []) := ⟨[], ⟨_, #[], 0, Heap.get?_push_of_some ob ed1, ⟨rfl, rfl, rfl⟩, rfl, rfl, fun zz hx => by simp at hx, List.nodup_nil⟩, rfl, .nil⟩
  refine wpAny_pure ⟨plainId_quiet plain_dict_loop _, ?_⟩
  refine dict_loop (A := A.in1) (kvs := kvs) ok.room.1 (by have := ok.room.2.2; show A.units + 1 + 2 < cLine; lia) el hz nI bI nd bd hdI kvs.length 0 0 { s with heap := h1.push ob, toks := t1 } [] (by lia) (Nat.zero_le _) (Nat.le_refl _) (rh1.push ob) cu od fun s' a1 a2 a3 a4 a5 => ?_
  rw [List.drop_zero] at a2
  have sta : Sta s.heap s'.heap := fun b o e st => a4 b o (by rintro rfl; exact absurd (Heap.lt_size (keep _ _ (Heap.get?_push_of_some _ e))) (Nat.lt_irrefl _)) (Nat.ne_of_lt (Heap.lt_size e)) (up b o e)
  refine ⟨rfl, ?_⟩
  refine ⟨.ref _, _, .ref _, a1.show _ nd bd (by intros; simp) a2, ⟨fun b o e zz zz => ?_, fun b hb => ?_, sta, fun b hb => ?_, rest_trans (s' := { s with heap := h1.push ob, toks := t1 }) rfl a5, fun b l o e1 e => ⟨by rw [Hp.put_ne (Nat.ne_of_lt (Heap.lt_size e))]; exact e1, a4 b o (by rintro rfl; exact absurd (Heap.lt_size (keep _ _ (Heap.get?_push_of_some _ e))) (Nat.lt_irrefl _)) (Nat.ne_of_lt (Heap.lt_size e)) (up b o e)⟩⟩, q _ nd⟩
  · exact a4 b o (by rintro rfl; exact absurd (Heap.lt_size (keep _ _ (Heap.get?_push_of_some _ e))) (Nat.lt_irrefl _)) (Nat.ne_of_lt (Heap.lt_size e)) (up b o e)
  · by_cases z : b = s.heap.objs.size
    · subst z; exact .inr size_free
    · rw [Hp.put_ne z] at hb; exact .inl hb
  · obtain ⟨o, e⟩ := Option.isSome_iff_exists.mp hb
    rw [a4 b o (by rintro rfl; exact absurd (Heap.lt_size (keep _ _ (Heap.get?_push_of_some _ e))) (Nat.lt_irrefl _)) (Nat.ne_of_lt (Heap.lt_size e)) (up b o e)]; rfl
end
end Mine
set_option tactic.hygienic false
open PySem PySem.W PySem.Calls PyProof PyProof.Rows PySem.SeqAt
set_option maxRecDepth 100000
namespace Mine
noncomputable def nameL0 : List Str := ["self", "kind", "text", "at", "worth", "grammar", "known", "found", "lacking", "users", "queue", "rule", "missing", "symbol", "number", "left", "name", "children", "node", "token"]
noncomputable def nameL1 : List Str := ["tree", "line", "child", "nullables", "needs", "order", "placed", "solid", "many", "others", "one", "right", "word", "begin", "end", "counts", "reach", "later", "spot", "goal"]
noncomputable def nameL2 : List Str := ["length", "trees", "most", "ends", "some", "row", "ahead", "level_of", "action", "before", "names", "terminal_count", "rules", "levels", "expect", "start", "pairs", "lefts", "count", "parts"]
noncomputable def nameL3 : List Str := ["script", "cell", "pen", "digit", "copies", "signs", "four", "sign", "leaves", "three", "two", "rest", "size", "turn", "numbers", "due", "place"]
noncomputable def nameL : List Str := nameL0 ++ nameL1 ++ nameL2 ++ nameL3
noncomputable def nmT (i : Nat) : Str := match nameL[i]? with
  | some x => x
  | none => ⟨#[0, i]⟩
noncomputable def gloL : List (Str × Value) := [("list", .type "list"), ("len", .builtin "len"), ("range", .type "range"), ("tuple", .type "tuple"), ("sorted", .builtin "sorted"), ("abs", .builtin "abs"), ("int", .type "int"), ("dict", .type "dict"),
  ("spread", .ref 102), ("nullable", .ref 109), ("postorder", .ref 215), ("unit_order", .ref 220), ("ways", .ref 227), ("count_trees", .ref 234), ("rows_over", .ref 241), ("trees_of", .ref 249), ("last_terminal", .ref 361), ("plain_grammar", .ref 367),
  ("_law_pen", .ref 374), ("_law_draw", .ref 381), ("_law_factorial", .ref 388), ("_law_due", .ref 395), ("_law_pairs", .ref 400), ("Token", .ref 93), ("Tree", .ref 171), ("Leaf", .ref 206), ("Rule", .ref 268), ("Grammar", .ref 350)]
noncomputable def ownT : V := .tup [.str "$end", .str "error", .str "$undefined"]
theorem nmx {α : Type} {e : α} {es : List α} {p : Prop} (h : e :: es = []) : p := nomatch h
structure Wd (c : Cx) : Prop where
  ok : CxOk c
  nm : ∀ i, c.nm i = nmT i
  glo : ∀ x v, (x, v) ∈ gloL → c.glo x = some v ∧ Kp c v
  cend : ∃ v, c.glo "END" = some v ∧ VR c.base (.int 0) v
  own : ∃ v, c.glo "OWN_TERMINALS" = some v ∧ VR c.base ownT v
section
variable {c : Cx} {n : Nat} {env : Env}
set_option tactic.hygienic true in
theorem nm_dot (W : Wd c) (j : Nat) : c.nm j ≠ (".0" : Str) := by
  rw [W.nm]
  unfold nmT
  split
  · rename_i x h
    have hm := List.mem_of_getElem? h
    have : nameL.all (fun x => x != (".0" : Str)) = true := by decide +kernel
    have := List.all_eq_true.mp this _ hm
    simpa using this
  · intro e
    have := congrArg (fun s : Str => s.cps[0]?) e
    simp only at this
    have h2 : ((".0" : Str)).cps[0]? = some 46 := by decide +kernel
    rw [h2] at this
    simp at this
theorem sc_kind {sc : Scope} {x : Str} {k : NameKind} (hs : env.scope = sc) (h : sc.names.lookup x = some k) : env.kindOf x = some k := by unfold Env.kindOf; rw [hs]; exact h
noncomputable def rl (env : Env) (k : NameKind) (x : Str) : NameKind := if (k == .free && env.scope.kind == .function && env.kindOf x == some .cell) = true then .cell else k
theorem relabel_lookup (env : Env) (scope : Scope) (x : Str) : (relabel scope env).names.lookup x = (scope.names.lookup x).map fun k => rl env k x := by
  show (scope.names.map fun (n, k) => if (k == .free && env.scope.kind == .function && env.kindOf n == some .cell) then (n, .cell) else (n, k)).lookup x = _
  generalize scope.names = l
  induction l with
  | nil => rfl
  | cons p r ih =>
    obtain ⟨y, k⟩ := p
    rw [List.map_cons, List.lookup_cons (as := r)]
    have e : (match (y, k) with | (n, k) => if (k == NameKind.free && env.scope.kind == ScopeKind.function && env.kindOf n == some NameKind.cell) = true then (n, NameKind.cell) else (n, k)) = (y, rl env k y) := by
      unfold rl
      dsimp only
      split <;> rfl
    rw [e, List.lookup_cons]
    cases hb : x == y with
    | true => rw [beq_iff_eq.mp hb]; rfl
    | false => exact ih
theorem rl_ne {k : NameKind} {x : Str} (h : k ≠ .free) : rl env k x = k := by
  have : (k == NameKind.free) = false := by simpa using h
  unfold rl; rw [this]; rfl
theorem rl_free {x : Str} : rl env .free x = .cell ∨ rl env .free x = .free := by unfold rl; split <;> simp
theorem rl_cell {k : NameKind} {x : Str} (h : rl env k x = .cell) : k = .cell ∨ k = .free := by
  cases k <;> first | (rw [rl_ne (by decide)] at h; cases h; done) | exact .inl rfl | exact .inr rfl
theorem relabel_kind {scope : Scope} {cl : List (Str × Addr)} {C : Addr} {x : Str} {k : NameKind} (h : scope.names.lookup x = some k) (hk : k ≠ .free) : (compEnvC scope cl C env).kindOf x = some k := by
  show (relabel scope env).names.lookup x = _
  rw [relabel_lookup, h, Option.map_some, rl_ne hk]
theorem relabel_free {scope : Scope} {cl : List (Str × Addr)} {C : Addr} {x : Str} (h : scope.names.lookup x = some .free) : (compEnvC scope cl C env).kindOf x = some .cell ∨ (compEnvC scope cl C env).kindOf x = some .free := by
  show (relabel scope env).names.lookup x = _ ∨ (relabel scope env).names.lookup x = _
  rw [relabel_lookup, h, Option.map_some]
  rcases rl_free (env := env) (x := x) with e | e <;> rw [e] <;> simp
theorem vN {i : Nat} {x : Str} {pos : Pos} (E : EnvOk env) (hx : x = c.nm i) (hk : env.kindOf x = some .local ∨ env.kindOf x = some .cell ∨ env.kindOf x = some .free) (hd : (x == ("__debug__" : Str)) = false ∧ (x == ("__classdict__" : Str)) = false) : Snd c n env (.Name x pos) (.var i) :=
  snd_var E hx hk hd.1 hd.2
theorem bn (W : Wd c) {x : Str} {v : Value} (hk : env.kindOf x = some .globalImplicit) (hm : (x, v) ∈ gloL) (hd : (x == ("__debug__" : Str)) = false) : Bnm c env x v := ⟨(W.glo _ _ hm).1, hk, hd, (W.glo _ _ hm).2⟩
theorem vEnd (W : Wd c) (E : EnvOk env) {pos : Pos} (hk : env.kindOf "END" = some .globalImplicit) : Snd c n env (.Name "END" pos) (.glob "END" (.int 0)) :=
  let ⟨_, a, b⟩ := W.cend; snd_glob W.ok E a b hk (by decide +kernel)
theorem vOwn (W : Wd c) (E : EnvOk env) {pos : Pos} (hk : env.kindOf "OWN_TERMINALS" = some .globalImplicit) : Snd c n env (.Name "OWN_TERMINALS" pos) (.glob "OWN_TERMINALS" ownT) :=
  let ⟨_, a, b⟩ := W.own; snd_glob W.ok E a b hk (by decide +kernel)
noncomputable def compChk (sc scope : Scope) (xs : List Str) : Bool :=
  scope.kind == .function && scope.names.all (fun y => y.2 != .cell) && scope.names.all (fun y => y.2 != .local || scope.names.lookup y.1 == some .local) &&
    scope.names.all (fun y => y.2 != .local || xs.contains y.1 || y.1 == (".0" : Str)) && xs.all (fun x => scope.names.lookup x == some .local) && scope.more.all (fun x => x.1 != ("interactive" : Str)) &&
    scope.names.all (fun y => y.2 != .free || sc.names.lookup y.1 == some .cell || sc.names.lookup y.1 == some .free)
theorem clos_of {env : Env} : ∀ (names : List (Str × NameKind)) (acc : List (Str × Addr)), (∀ y ∈ names, y.2 = .free → ∃ a, env.cells.lookup y.1 = some a) →
    ∃ cl, (forIn names acc fun x r => match x with
      | (name, kind) => if (kind == NameKind.free) = true then do let a ← cellOf env name; pure (ForInStep.yield ((name, a) :: r)) else pure (ForInStep.yield r) : Sem (List (Str × Addr))) = pure cl ∧
      (∀ x a, (x, a) ∈ cl → (x, a) ∈ acc ∨ (env.cells.lookup x = some a ∧ (x, NameKind.free) ∈ names)) ∧ (∀ x, ((∃ a, (x, a) ∈ acc) ∨ (x, NameKind.free) ∈ names) → ∃ a, (x, a) ∈ cl)
  | [], acc, _ => ⟨acc, by rw [List.forIn_nil], fun x a h => .inl h, fun x h => h.elim id (fun z => by cases z)⟩
  | (y, k) :: r, acc, h => by
    by_cases hk : k = .free
    · subst hk
      obtain ⟨a, ha⟩ := h (y, .free) (by simp) rfl
      obtain ⟨cl, e, h1, h2⟩ := clos_of r ((y, a) :: acc) fun z hz => h z (List.mem_cons_of_mem _ hz)
      refine ⟨cl, ?_, fun x b hx => ?_, fun x hx => h2 x ?_⟩
      · rw [List.forIn_cons]
        simp only [cellOf, ha, beq_self_eq_true, if_true, pure_bind]
        exact e
      · rcases h1 x b hx with z | ⟨z, z2⟩
        · rcases List.mem_cons.mp z with z | z
          · cases z; exact .inr ⟨ha, by simp⟩
          · exact .inl z
        · exact .inr ⟨z, List.mem_cons_of_mem _ z2⟩
      · rcases hx with ⟨b, hb⟩ | hx
        · exact .inl ⟨b, List.mem_cons_of_mem _ hb⟩
        · rcases List.mem_cons.mp hx with z | z
          · cases z; exact .inl ⟨a, by simp⟩
          · exact .inr z
    · have hb : (k == NameKind.free) = false := by simpa using hk
      obtain ⟨cl, e, h1, h2⟩ := clos_of r acc fun z hz => h z (List.mem_cons_of_mem _ hz)
      refine ⟨cl, ?_, fun x b hx => ?_, fun x hx => h2 x ?_⟩
      · rw [List.forIn_cons]
        simp only [hb, if_false, pure_bind, Bool.false_eq_true]
        exact e
      · rcases h1 x b hx with z | ⟨z, z2⟩
        · exact .inl z
        · exact .inr ⟨z, List.mem_cons_of_mem _ z2⟩
      · rcases hx with hx | hx
        · exact .inl hx
        · rcases List.mem_cons.mp hx with z | z
          · cases z; exact absurd rfl hk
          · exact .inr z
theorem compE_of (W : Wd c) (E : EnvOk env) {sc scope : Scope} {is : List Nat} (hs : env.scope = sc) (hk : compChk sc scope (is.map c.nm) = true) :
    ∃ cl, CompE c env scope cl is ∧ ∀ C, EnvOk (compEnvC scope cl C env) := by
  unfold compChk at hk
  simp only [Bool.and_eq_true, beq_iff_eq, List.all_eq_true, Bool.or_eq_true, bne_iff_ne, ne_eq] at hk
  obtain ⟨⟨⟨⟨⟨⟨h1, h2⟩, h3⟩, h4⟩, h5⟩, h6⟩, h7⟩ := hk
  have hfree : ∀ y, (y, NameKind.free) ∈ scope.names → ∃ k, env.kindOf y = some k ∧ (k = .cell ∨ k = .free) := fun y hy => by
    have := h7 _ hy
    rcases this with (h | h) | h
    · exact absurd rfl h
    · exact ⟨.cell, by unfold Env.kindOf; rw [hs]; exact h, .inl rfl⟩
    · exact ⟨.free, by unfold Env.kindOf; rw [hs]; exact h, .inr rfl⟩
  obtain ⟨cl, e, c1, c2⟩ := clos_of (env := env) scope.names [] (fun y hy hf => by
    obtain ⟨y, k⟩ := y
    simp only at hf
    subst hf
    obtain ⟨k, e1, e2⟩ := hfree y hy
    exact E.cel y k e1 e2)
  have mem_of : ∀ {l : List (Str × NameKind)} {x : Str} {k : NameKind}, l.lookup x = some k → (x, k) ∈ l := mem_of_lookup
  have clk : ∀ x, scope.names.lookup x = some .free → cl.lookup x = env.cells.lookup x := fun x hx => by
    obtain ⟨a, ha⟩ := c2 x (.inr (mem_of hx))
    obtain ⟨b, hb⟩ := lookup_of_mem' ha
    rw [hb]
    rcases c1 x b (mem_of_lookup hb) with z | ⟨z, _⟩
    · cases z
    · exact z.symm
  have clin : ∀ x ∈ cl, x ∈ env.cells := fun x hx => by
    rcases c1 x.1 x.2 hx with z | ⟨z, _⟩
    · cases z
    · exact mem_of_lookup z
  have CE : CompE c env scope cl is := by
    refine ⟨?_, h1, fun y hy hl => ?_, fun y hy => ?_, fun j hj => ?_, fun j hj => ?_, fun j k hj hc => ?_, clin⟩
    · unfold closureFor
      show (forIn scope.names [] _ >>= fun cs => pure cs : Sem (List (Str × Addr))) = pure cl
      rw [bind_pure]
      exact e
    · rcases h3 y hy with h | h
      · exact absurd hl h
      · exact h
    · exact h2 y hy
    · rw [relabel_lookup] at hj
      obtain ⟨k, ek, er⟩ := Option.map_eq_some_iff.mp hj
      have hkl : k = .local := by
        cases k <;> first | rfl | (rw [rl_ne (by decide)] at er; cases er; done) | skip
        rcases rl_free (env := env) (x := c.nm j) with z | z <;> rw [z] at er <;> cases er
      subst hkl
      rcases h4 _ (mem_of ek) with (z | z) | z
      · exact absurd rfl z
      · simp only [List.contains_iff_mem, List.mem_map] at z
        obtain ⟨i, hi, e⟩ := z
        rw [← W.ok.inj _ _ e]; exact hi
      · exact absurd z (nm_dot W j)
    · exact h5 _ (List.mem_map_of_mem hj)
    · rw [relabel_lookup] at hj
      obtain ⟨k0, ek, er⟩ := Option.map_eq_some_iff.mp hj
      have hk0 : k0 = .free := by
        have nc : k0 ≠ .cell := h2 _ (mem_of ek)
        rcases hc with rfl | rfl
        · rcases rl_cell er with z | z
          · exact absurd z nc
          · exact z
        · by_cases hf : k0 = .free
          · exact hf
          · rw [rl_ne hf] at er; exact er
      subst hk0
      obtain ⟨k', e1, e2⟩ := hfree _ (mem_of ek)
      exact ⟨k', e1, e2, clk _ ek⟩
  refine ⟨cl, CE, fun C => ⟨h1, E.globals, E.builtins, ?_, fun x y a hx hy => E.apart x y a (clin _ hx) (clin _ hy), fun y k hy hc => ?_⟩⟩
  · show scope.more.all _ = true
    rw [List.all_eq_true]
    intro x hx
    simpa using h6 x hx
  · rw [show (compEnvC scope cl C env).kindOf y = (relabel scope env).names.lookup y from rfl, relabel_lookup] at hy
    obtain ⟨k0, ek, er⟩ := Option.map_eq_some_iff.mp hy
    have hk0 : k0 = .free := by
      have nc : k0 ≠ .cell := h2 _ (mem_of ek)
      rcases hc with rfl | rfl
      · rcases rl_cell er with z | z
        · exact absurd z nc
        · exact z
      · by_cases hf : k0 = .free
        · exact hf
        · rw [rl_ne hf] at er; exact er
    subst hk0
    obtain ⟨a, ha⟩ := c2 y (.inr (mem_of ek))
    exact lookup_of_mem' ha
theorem tComp (W : Wd c) (E : EnvOk env) {sc scope : Scope} {elt iter : Expr} {x : Str} {px pos : Pos} {i : Nat} {ix ex : X} (hs : env.scope = sc) (hk : compChk sc scope [nmT i] = true) (hx : x = c.nm i) (hf : ∀ x, foldedSetIterable iter env x = pure x) (hi : Snd c n env iter ix)
    (he : ∀ cl C, EnvOk (compEnvC scope cl C env) → Snd c n (compEnvC scope cl C env) elt ex) : Snd c n env (.ListComp elt [⟨.Name x px, iter, [], 0⟩] scope pos) (.comp ex i ix) :=
  let ⟨cl, CE, h⟩ := compE_of (is := [i]) W E hs (by simpa [W.nm] using hk)
  snd_comp W.ok CE hx hf hi fun C => he cl C (h C)
theorem tCompIf (W : Wd c) (E : EnvOk env) {sc scope : Scope} {elt iter t : Expr} {x : Str} {px pos : Pos} {i : Nat} {ix ex tx : X} (hs : env.scope = sc) (hk : compChk sc scope [nmT i] = true) (hx : x = c.nm i) (hf : ∀ x, foldedSetIterable iter env x = pure x) (hi : Snd c n env iter ix)
    (he : ∀ cl C, EnvOk (compEnvC scope cl C env) → Snd c n (compEnvC scope cl C env) elt ex) (ht : ∀ cl C, EnvOk (compEnvC scope cl C env) → SndB c n (compEnvC scope cl C env) t tx) : Snd c n env (.ListComp elt [⟨.Name x px, iter, [t], 0⟩] scope pos) (.compIf ex i ix tx) :=
  let ⟨cl, CE, h⟩ := compE_of (is := [i]) W E hs (by simpa [W.nm] using hk)
  snd_compIf W.ok CE hx hf hi (fun C => he cl C (h C)) fun C => ht cl C (h C)
theorem tComp2 (W : Wd c) (E : EnvOk env) {sc scope : Scope} {elt i0 i1 : Expr} {x y : Str} {px py pos : Pos} {i k : Nat} {ix jx ex : X} (hs : env.scope = sc) (hk : compChk sc scope [nmT i, nmT k] = true) (hik : i ≠ k) (hx : x = c.nm i) (hy : y = c.nm k) (hf : ∀ x, foldedSetIterable i0 env x = pure x)
    (hf1 : ∀ cl C x, foldedSetIterable i1 (compEnvC scope cl C env) x = pure x) (hi : Snd c n env i0 ix)
    (he : ∀ cl C, EnvOk (compEnvC scope cl C env) → Snd c n (compEnvC scope cl C env) elt ex) (hj : ∀ cl C, EnvOk (compEnvC scope cl C env) → Snd c n (compEnvC scope cl C env) i1 jx) : Snd c n env (.ListComp elt [⟨.Name x px, i0, [], 0⟩, ⟨.Name y py, i1, [], 0⟩] scope pos) (.comp2 ex i ix k jx) :=
  let ⟨cl, CE, h⟩ := compE_of (is := [i, k]) W E hs (by simpa [W.nm] using hk)
  snd_comp2 W.ok CE hik hx hy hf (hf1 cl) hi (fun C => he cl C (h C)) fun C => hj cl C (h C)
theorem sw_true {elt : Expr} {gens : List Comprehension} {scope : Scope} {pos py : Pos} {y : Str} {ln : Nat} (E : EnvOk env) (hk : env.kindOf y = some .local) (hl : (py.line == pos.line) = true) (hn : (scope.names.any fun p => p.1 == y && (p.2 == .local || p.2 == .cell)) = false) :
    swapsWith (.ListComp elt gens scope pos) (some (.Name y py)) ln env = pure true := by
  have hb : (env.blockKind == ScopeKind.function) = true := by unfold Env.blockKind; rw [E.kind]; rfl
  have hk2 : (env.kindOf y == some .local) = true := by rw [hk]; rfl
  show (pure (env.blockKind == .function && env.kindOf y == some .local && py.line == pos.line && !(scope.names.any fun (n, k) => n == y && (k == .local || k == .cell))) : Sem Bool) = _
  rw [hb, hk2, hl]
  show (pure (true && !(scope.names.any fun p => p.1 == y && (p.2 == .local || p.2 == .cell))) : Sem Bool) = _
  rw [hn]; rfl
theorem tsComp (W : Wd c) (E : EnvOk env) {sc scope : Scope} {elt iter : Expr} {x y : Str} {px py pos spos : Pos} {i j : Nat} {ix ex : X} (hs : env.scope = sc) (hk : compChk sc scope [nmT i] = true) (hx : x = c.nm i) (hf : ∀ x, foldedSetIterable iter env x = pure x) (hi : Snd c n env iter ix)
    (hy : y = c.nm j) (hl : env.kindOf y = some .local) (hln : (py.line == pos.line) = true) (hn : (scope.names.any fun p => p.1 == y && (p.2 == .local || p.2 == .cell)) = false)
    (he : ∀ cl C, EnvOk (compEnvC scope cl C env) → Snd c n (compEnvC scope cl C env) elt ex) : SndS c n env (.Assign [.Name y py] (.ListComp elt [⟨.Name x px, iter, [], 0⟩] scope pos) spos) (.asg j (.comp ex i ix)) :=
  let ⟨cl, CE, h⟩ := compE_of (is := [i]) W E hs (by simpa [W.nm] using hk)
  s_comp W.ok E CE hx hy (.inl hl) (sw_true E hl hln hn) hf hi fun C => he cl C (h C)
theorem tsCompIf (W : Wd c) (E : EnvOk env) {sc scope : Scope} {elt iter t : Expr} {x y : Str} {px py pos spos : Pos} {i j : Nat} {ix ex tx : X} (hs : env.scope = sc) (hk : compChk sc scope [nmT i] = true) (hx : x = c.nm i) (hf : ∀ x, foldedSetIterable iter env x = pure x) (hi : Snd c n env iter ix)
    (hy : y = c.nm j) (hl : env.kindOf y = some .local) (hln : (py.line == pos.line) = true) (hn : (scope.names.any fun p => p.1 == y && (p.2 == .local || p.2 == .cell)) = false)
    (he : ∀ cl C, EnvOk (compEnvC scope cl C env) → Snd c n (compEnvC scope cl C env) elt ex) (ht : ∀ cl C, EnvOk (compEnvC scope cl C env) → SndB c n (compEnvC scope cl C env) t tx) : SndS c n env (.Assign [.Name y py] (.ListComp elt [⟨.Name x px, iter, [t], 0⟩] scope pos) spos) (.asg j (.compIf ex i ix tx)) :=
  let ⟨cl, CE, h⟩ := compE_of (is := [i]) W E hs (by simpa [W.nm] using hk)
  s_compIf W.ok E CE hx hy (.inl hl) (sw_true E hl hln hn) hf hi (fun C => he cl C (h C)) fun C => ht cl C (h C)
theorem tsComp2 (W : Wd c) (E : EnvOk env) {sc scope : Scope} {elt i0 i1 : Expr} {x y z : Str} {px py pz pos spos : Pos} {i k j : Nat} {ix jx ex : X} (hs : env.scope = sc) (hk : compChk sc scope [nmT i, nmT k] = true) (hik : i ≠ k) (hx : x = c.nm i) (hy : y = c.nm k) (hf : ∀ x, foldedSetIterable i0 env x = pure x)
    (hf1 : ∀ cl C x, foldedSetIterable i1 (compEnvC scope cl C env) x = pure x) (hi : Snd c n env i0 ix) (hz : z = c.nm j) (hl : env.kindOf z = some .local) (hln : (pz.line == pos.line) = true) (hn : (scope.names.any fun p => p.1 == z && (p.2 == .local || p.2 == .cell)) = false)
    (he : ∀ cl C, EnvOk (compEnvC scope cl C env) → Snd c n (compEnvC scope cl C env) elt ex) (hj : ∀ cl C, EnvOk (compEnvC scope cl C env) → Snd c n (compEnvC scope cl C env) i1 jx) :
    SndS c n env (.Assign [.Name z pz] (.ListComp elt [⟨.Name x px, i0, [], 0⟩, ⟨.Name y py, i1, [], 0⟩] scope pos) spos) (.asg j (.comp2 ex i ix k jx)) :=
  let ⟨cl, CE, h⟩ := compE_of (is := [i, k]) W E hs (by simpa [W.nm] using hk)
  s_comp2 W.ok E CE hik hx hy hz (.inl hl) (sw_true E hl hln hn) hf (hf1 cl) hi (fun C => he cl C (h C)) fun C => hj cl C (h C)
theorem int_false (E : EnvOk env) : interactive env = false := by unfold interactive; rw [E.kind]; rfl
noncomputable def stBody (t : Stmt) : List Stmt :=
  if h : t.ctorIdx = 0 then Stmt.FunctionDef.elim (motive_2 := fun zz => List Stmt) t h (fun zz zz b zz zz zz zz zz zz zz => b)
  else if h : t.ctorIdx = 2 then Stmt.ClassDef.elim (motive_2 := fun zz => List Stmt) t h (fun zz zz zz b zz zz zz zz zz zz zz => b) else []
noncomputable def stScope (t : Stmt) : Scope := if h : t.ctorIdx = 0 then Stmt.FunctionDef.elim (motive_2 := fun zz => Scope) t h (fun zz zz zz zz zz zz b zz zz zz => b) else default
noncomputable def topAt (i : Nat) : Stmt := (PySem.Challenge.pw_pq0556_01.main.body[i]?).getD default
noncomputable def inAt (i j : Nat) : Stmt := ((stBody (topAt i))[j]?).getD default
section
variable {id : Str} {p pos : Pos} {e e2 : Expr} {x y : X}
theorem tLen (W : Wd c) (E : EnvOk env) (B : Bnm c env id (.builtin "len")) (hp : starred e = false) (h : Snd c n env e x) : Snd c n env (.Call (.Name id p) [e] [] pos) (.len x) := fn1 (x := x) (q := lenQ) W.ok E B hp h fun zz zz => un_len W.ok
theorem tRange1 (W : Wd c) (E : EnvOk env) (B : Bnm c env id (.type "range")) (hp : starred e = false) (h : Snd c n env e x) : Snd c n env (.Call (.Name id p) [e] [] pos) (.range1 x) :=
  fn1 (q := fun a Q H' => ∃ i, a = .int i ∧ i < 100000 ∧ -100000 < i ∧ Q (.rng 0 i) H') W.ok E B hp h fun zz zz => un_range1
theorem tRange2 (W : Wd c) (E : EnvOk env) (B : Bnm c env id (.type "range")) (hp : starred e = false) (hp2 : starred e2 = false) (h : Snd c n env e x) (h2 : Snd c n env e2 y) : Snd c n env (.Call (.Name id p) [e, e2] [] pos) (.range2 x y) :=
  fn2 (q := fun a b Q H' => ∃ i j, a = .int i ∧ b = .int j ∧ (i < 100000 ∧ -100000 < i ∧ j < 100000 ∧ -100000 < j) ∧ Q (.rng i j) H') W.ok E B hp hp2 h h2 fun zz zz => bi_range2
theorem tList (W : Wd c) (E : EnvOk env) (B : Bnm c env id (.type "list")) (hp : starred e = false) (h : Snd c n env e x) : Snd c n env (.Call (.Name id p) [e] [] pos) (.list x) := fn1 (x := x) (q := listQ) W.ok E B hp h fun zz zz => un_list
theorem tTuple (W : Wd c) (E : EnvOk env) (B : Bnm c env id (.type "tuple")) (hp : starred e = false) (h : Snd c n env e x) : Snd c n env (.Call (.Name id p) [e] [] pos) (.tuple x) := fn1 (x := x) (q := tupleQ) W.ok E B hp h fun zz zz => un_tuple
theorem tSorted (W : Wd c) (E : EnvOk env) (B : Bnm c env id (.builtin "sorted")) (hp : starred e = false) (h : Snd c n env e x) : Snd c n env (.Call (.Name id p) [e] [] pos) (.sorted x) := fn1 (x := x) (q := sortedQ) W.ok E B hp h fun zz zz => un_sorted W.ok
theorem tAbs (W : Wd c) (E : EnvOk env) (B : Bnm c env id (.builtin "abs")) (hp : starred e = false) (h : Snd c n env e x) : Snd c n env (.Call (.Name id p) [e] [] pos) (.abs x) :=
  fn1 (q := fun a Q H' => ∃ i, a = .int i ∧ Q (.int i.natAbs) H') W.ok E B hp h fun zz zz => un_abs
theorem tDict (W : Wd c) (E : EnvOk env) (B : Bnm c env id (.type "dict")) (hp : starred e = false) (h : Snd c (n + 1) env e x) : Snd c (n + 1) env (.Call (.Name id p) [e] [] pos) (.dict x) := fn1 (x := x) (q := dictQ) W.ok E B hp h fun zz zz => un_dict W.ok
theorem tInt (W : Wd c) (E : EnvOk env) (B : Bnm c env id (.type "int")) (hp : starred e = false) (h : Snd c n env e x) : Snd c n env (.Call (.Name id p) [e] [] pos) (.toInt x) :=
  fn1 (q := fun a Q H' => ∃ i, a = .int i ∧ Q (.int i) H') W.ok E B hp h fun zz zz => un_toInt
end
theorem ite_f {α : Type} {b : Bool} {x y : α} (h : b = false) : (if b = true then x else y) = y := by rw [h]; rfl
theorem any2_f {f : Expr → Bool} {a b : Expr} (hf : ∀ e, starred e = false → f e = false) (h1 : starred a = false) (h2 : starred b = false) : [a, b].any f = false := by rw [List.any_cons, List.any_cons, hf a h1, hf b h2]; rfl
theorem fm2 {f : Expr → Option Str} {a b : Expr} {x y : Str} (h1 : f a = some x) (h2 : f b = some y) : [a, b].filterMap f = [x, y] := by rw [List.filterMap_cons_some h1, List.filterMap_cons_some h2]; rfl
theorem two_ne {x y : Str} (hne : (x == y) = false) : ([x, y].length != 2 || [x, y].eraseDups.length != [x, y].length) = false := by
  have hne' : (y == x) = false := by
    have : y ≠ x := fun e => by rw [e] at hne; simp at hne
    simpa using this
  rw [List.eraseDups_cons]
  simp [hne', List.eraseDups_cons, List.filter_cons]
theorem ite2 {x y : Str} {names : List Str} {b d : Bool} {z : Sem (Option (List Str))} (e : names = [x, y]) (hne : (x == y) = false) (hb : b = false) (hd : d = false) :
    (if (names.length != 2 || names.eraseDups.length != names.length) = true then pure none else if b = true then pure none else if d = true then z else pure (some names)) = pure (some [x, y]) := by
  subst e
  exact (ite_f (two_ne hne)).trans ((ite_f hb).trans (ite_f hd))
theorem name_if {b : Bool} {x : Str} (h : b = true) : (if b = true then some x else none) = some x := if_pos h
theorem and_t {a b : Bool} (h : a = true) (k : b = true) : (a && b) = true := by rw [h, k]; rfl
theorem sw2 {x y : Str} {p p2 tp vp : Pos} {k k2 : Nat} {ea eb : Expr} (E : EnvOk env) (hx : env.kindOf x = some .local) (hy : env.kindOf y = some .local) (hne : (x == y) = false) (hl : (p2.line == p.line) = true) (hf : [ea, eb].all (foldedForSure 8) = false) (hc : [ea, eb].all (constantsAlone 8) = false)
    (h1 : starred ea = false) (h2 : starred eb = false) : swappedStores [.Tuple [.Name x p, .Name y p2] k tp] (.Tuple [ea, eb] k2 vp) env = pure (some [x, y]) := by
  refine (ite_f (b := (env.blockKind != ScopeKind.function)) (by unfold Env.blockKind; rw [E.kind]; rfl)).trans ?_
  refine (ite_f (any2_f ?_ h1 h2)).trans ?_
  · intro e h
    cases e <;> first | rfl | exact absurd (show true = false from h) (by decide)
  · exact ite2 (fm2 (name_if (and_t (by rw [hx]; rfl) (beq_self_eq_true p.line))) (name_if (and_t (by rw [hy]; rfl) hl))) hne hf hc
end
end Mine
set_option tactic.hygienic false
open PySem PySem.W PySem.Calls PyProof PyProof.Rows PySem.SeqAt
set_option maxRecDepth 100000
set_option maxHeartbeats 4000000
namespace Mine
section
variable {c : Cx} {n : Nat} {env : Env}
theorem nx0 (W : Wd c) : (Str.ofString "self") = c.nm 0 := (by kernel_rfl : (Str.ofString "self") = nmT 0).trans (W.nm 0).symm
theorem db0 : ((Str.ofString "self") == ("__debug__" : Str)) = false ∧ ((Str.ofString "self") == ("__classdict__" : Str)) = false := ⟨by kernel_rfl, by kernel_rfl⟩
theorem nx1 (W : Wd c) : (Str.ofString "kind") = c.nm 1 := (by kernel_rfl : (Str.ofString "kind") = nmT 1).trans (W.nm 1).symm
theorem db1 : ((Str.ofString "kind") == ("__debug__" : Str)) = false ∧ ((Str.ofString "kind") == ("__classdict__" : Str)) = false := ⟨by kernel_rfl, by kernel_rfl⟩
theorem nx2 (W : Wd c) : (Str.ofString "text") = c.nm 2 := (by kernel_rfl : (Str.ofString "text") = nmT 2).trans (W.nm 2).symm
theorem db2 : ((Str.ofString "text") == ("__debug__" : Str)) = false ∧ ((Str.ofString "text") == ("__classdict__" : Str)) = false := ⟨by kernel_rfl, by kernel_rfl⟩
theorem nx3 (W : Wd c) : (Str.ofString "at") = c.nm 3 := (by kernel_rfl : (Str.ofString "at") = nmT 3).trans (W.nm 3).symm
theorem db3 : ((Str.ofString "at") == ("__debug__" : Str)) = false ∧ ((Str.ofString "at") == ("__classdict__" : Str)) = false := ⟨by kernel_rfl, by kernel_rfl⟩
theorem nx4 (W : Wd c) : (Str.ofString "worth") = c.nm 4 := (by kernel_rfl : (Str.ofString "worth") = nmT 4).trans (W.nm 4).symm
theorem db4 : ((Str.ofString "worth") == ("__debug__" : Str)) = false ∧ ((Str.ofString "worth") == ("__classdict__" : Str)) = false := ⟨by kernel_rfl, by kernel_rfl⟩
theorem nx5 (W : Wd c) : (Str.ofString "grammar") = c.nm 5 := (by kernel_rfl : (Str.ofString "grammar") = nmT 5).trans (W.nm 5).symm
theorem db5 : ((Str.ofString "grammar") == ("__debug__" : Str)) = false ∧ ((Str.ofString "grammar") == ("__classdict__" : Str)) = false := ⟨by kernel_rfl, by kernel_rfl⟩
theorem nx6 (W : Wd c) : (Str.ofString "known") = c.nm 6 := (by kernel_rfl : (Str.ofString "known") = nmT 6).trans (W.nm 6).symm
theorem db6 : ((Str.ofString "known") == ("__debug__" : Str)) = false ∧ ((Str.ofString "known") == ("__classdict__" : Str)) = false := ⟨by kernel_rfl, by kernel_rfl⟩
theorem nx7 (W : Wd c) : (Str.ofString "found") = c.nm 7 := (by kernel_rfl : (Str.ofString "found") = nmT 7).trans (W.nm 7).symm
theorem db7 : ((Str.ofString "found") == ("__debug__" : Str)) = false ∧ ((Str.ofString "found") == ("__classdict__" : Str)) = false := ⟨by kernel_rfl, by kernel_rfl⟩
theorem nx8 (W : Wd c) : (Str.ofString "lacking") = c.nm 8 := (by kernel_rfl : (Str.ofString "lacking") = nmT 8).trans (W.nm 8).symm
theorem db8 : ((Str.ofString "lacking") == ("__debug__" : Str)) = false ∧ ((Str.ofString "lacking") == ("__classdict__" : Str)) = false := ⟨by kernel_rfl, by kernel_rfl⟩
theorem nx9 (W : Wd c) : (Str.ofString "users") = c.nm 9 := (by kernel_rfl : (Str.ofString "users") = nmT 9).trans (W.nm 9).symm
theorem db9 : ((Str.ofString "users") == ("__debug__" : Str)) = false ∧ ((Str.ofString "users") == ("__classdict__" : Str)) = false := ⟨by kernel_rfl, by kernel_rfl⟩
theorem nx10 (W : Wd c) : (Str.ofString "queue") = c.nm 10 := (by kernel_rfl : (Str.ofString "queue") = nmT 10).trans (W.nm 10).symm
theorem db10 : ((Str.ofString "queue") == ("__debug__" : Str)) = false ∧ ((Str.ofString "queue") == ("__classdict__" : Str)) = false := ⟨by kernel_rfl, by kernel_rfl⟩
theorem nx11 (W : Wd c) : (Str.ofString "rule") = c.nm 11 := (by kernel_rfl : (Str.ofString "rule") = nmT 11).trans (W.nm 11).symm
theorem db11 : ((Str.ofString "rule") == ("__debug__" : Str)) = false ∧ ((Str.ofString "rule") == ("__classdict__" : Str)) = false := ⟨by kernel_rfl, by kernel_rfl⟩
theorem nx12 (W : Wd c) : (Str.ofString "missing") = c.nm 12 := (by kernel_rfl : (Str.ofString "missing") = nmT 12).trans (W.nm 12).symm
theorem db12 : ((Str.ofString "missing") == ("__debug__" : Str)) = false ∧ ((Str.ofString "missing") == ("__classdict__" : Str)) = false := ⟨by kernel_rfl, by kernel_rfl⟩
theorem nx13 (W : Wd c) : (Str.ofString "symbol") = c.nm 13 := (by kernel_rfl : (Str.ofString "symbol") = nmT 13).trans (W.nm 13).symm
theorem db13 : ((Str.ofString "symbol") == ("__debug__" : Str)) = false ∧ ((Str.ofString "symbol") == ("__classdict__" : Str)) = false := ⟨by kernel_rfl, by kernel_rfl⟩
theorem nx14 (W : Wd c) : (Str.ofString "number") = c.nm 14 := (by kernel_rfl : (Str.ofString "number") = nmT 14).trans (W.nm 14).symm
theorem db14 : ((Str.ofString "number") == ("__debug__" : Str)) = false ∧ ((Str.ofString "number") == ("__classdict__" : Str)) = false := ⟨by kernel_rfl, by kernel_rfl⟩
theorem nx15 (W : Wd c) : (Str.ofString "left") = c.nm 15 := (by kernel_rfl : (Str.ofString "left") = nmT 15).trans (W.nm 15).symm
theorem db15 : ((Str.ofString "left") == ("__debug__" : Str)) = false ∧ ((Str.ofString "left") == ("__classdict__" : Str)) = false := ⟨by kernel_rfl, by kernel_rfl⟩
theorem nx16 (W : Wd c) : (Str.ofString "name") = c.nm 16 := (by kernel_rfl : (Str.ofString "name") = nmT 16).trans (W.nm 16).symm
theorem db16 : ((Str.ofString "name") == ("__debug__" : Str)) = false ∧ ((Str.ofString "name") == ("__classdict__" : Str)) = false := ⟨by kernel_rfl, by kernel_rfl⟩
theorem nx17 (W : Wd c) : (Str.ofString "children") = c.nm 17 := (by kernel_rfl : (Str.ofString "children") = nmT 17).trans (W.nm 17).symm
theorem db17 : ((Str.ofString "children") == ("__debug__" : Str)) = false ∧ ((Str.ofString "children") == ("__classdict__" : Str)) = false := ⟨by kernel_rfl, by kernel_rfl⟩
theorem nx18 (W : Wd c) : (Str.ofString "node") = c.nm 18 := (by kernel_rfl : (Str.ofString "node") = nmT 18).trans (W.nm 18).symm
theorem db18 : ((Str.ofString "node") == ("__debug__" : Str)) = false ∧ ((Str.ofString "node") == ("__classdict__" : Str)) = false := ⟨by kernel_rfl, by kernel_rfl⟩
theorem nx19 (W : Wd c) : (Str.ofString "token") = c.nm 19 := (by kernel_rfl : (Str.ofString "token") = nmT 19).trans (W.nm 19).symm
theorem db19 : ((Str.ofString "token") == ("__debug__" : Str)) = false ∧ ((Str.ofString "token") == ("__classdict__" : Str)) = false := ⟨by kernel_rfl, by kernel_rfl⟩
theorem nx20 (W : Wd c) : (Str.ofString "tree") = c.nm 20 := (by kernel_rfl : (Str.ofString "tree") = nmT 20).trans (W.nm 20).symm
theorem db20 : ((Str.ofString "tree") == ("__debug__" : Str)) = false ∧ ((Str.ofString "tree") == ("__classdict__" : Str)) = false := ⟨by kernel_rfl, by kernel_rfl⟩
theorem nx21 (W : Wd c) : (Str.ofString "line") = c.nm 21 := (by kernel_rfl : (Str.ofString "line") = nmT 21).trans (W.nm 21).symm
theorem db21 : ((Str.ofString "line") == ("__debug__" : Str)) = false ∧ ((Str.ofString "line") == ("__classdict__" : Str)) = false := ⟨by kernel_rfl, by kernel_rfl⟩
theorem nx22 (W : Wd c) : (Str.ofString "child") = c.nm 22 := (by kernel_rfl : (Str.ofString "child") = nmT 22).trans (W.nm 22).symm
theorem db22 : ((Str.ofString "child") == ("__debug__" : Str)) = false ∧ ((Str.ofString "child") == ("__classdict__" : Str)) = false := ⟨by kernel_rfl, by kernel_rfl⟩
theorem nx23 (W : Wd c) : (Str.ofString "nullables") = c.nm 23 := (by kernel_rfl : (Str.ofString "nullables") = nmT 23).trans (W.nm 23).symm
theorem db23 : ((Str.ofString "nullables") == ("__debug__" : Str)) = false ∧ ((Str.ofString "nullables") == ("__classdict__" : Str)) = false := ⟨by kernel_rfl, by kernel_rfl⟩
theorem nx24 (W : Wd c) : (Str.ofString "needs") = c.nm 24 := (by kernel_rfl : (Str.ofString "needs") = nmT 24).trans (W.nm 24).symm
theorem db24 : ((Str.ofString "needs") == ("__debug__" : Str)) = false ∧ ((Str.ofString "needs") == ("__classdict__" : Str)) = false := ⟨by kernel_rfl, by kernel_rfl⟩
theorem nx25 (W : Wd c) : (Str.ofString "order") = c.nm 25 := (by kernel_rfl : (Str.ofString "order") = nmT 25).trans (W.nm 25).symm
theorem db25 : ((Str.ofString "order") == ("__debug__" : Str)) = false ∧ ((Str.ofString "order") == ("__classdict__" : Str)) = false := ⟨by kernel_rfl, by kernel_rfl⟩
theorem nx26 (W : Wd c) : (Str.ofString "placed") = c.nm 26 := (by kernel_rfl : (Str.ofString "placed") = nmT 26).trans (W.nm 26).symm
theorem db26 : ((Str.ofString "placed") == ("__debug__" : Str)) = false ∧ ((Str.ofString "placed") == ("__classdict__" : Str)) = false := ⟨by kernel_rfl, by kernel_rfl⟩
theorem nx27 (W : Wd c) : (Str.ofString "solid") = c.nm 27 := (by kernel_rfl : (Str.ofString "solid") = nmT 27).trans (W.nm 27).symm
theorem db27 : ((Str.ofString "solid") == ("__debug__" : Str)) = false ∧ ((Str.ofString "solid") == ("__classdict__" : Str)) = false := ⟨by kernel_rfl, by kernel_rfl⟩
theorem nx28 (W : Wd c) : (Str.ofString "many") = c.nm 28 := (by kernel_rfl : (Str.ofString "many") = nmT 28).trans (W.nm 28).symm
theorem db28 : ((Str.ofString "many") == ("__debug__" : Str)) = false ∧ ((Str.ofString "many") == ("__classdict__" : Str)) = false := ⟨by kernel_rfl, by kernel_rfl⟩
theorem nx29 (W : Wd c) : (Str.ofString "others") = c.nm 29 := (by kernel_rfl : (Str.ofString "others") = nmT 29).trans (W.nm 29).symm
theorem db29 : ((Str.ofString "others") == ("__debug__" : Str)) = false ∧ ((Str.ofString "others") == ("__classdict__" : Str)) = false := ⟨by kernel_rfl, by kernel_rfl⟩
theorem nx30 (W : Wd c) : (Str.ofString "one") = c.nm 30 := (by kernel_rfl : (Str.ofString "one") = nmT 30).trans (W.nm 30).symm
theorem db30 : ((Str.ofString "one") == ("__debug__" : Str)) = false ∧ ((Str.ofString "one") == ("__classdict__" : Str)) = false := ⟨by kernel_rfl, by kernel_rfl⟩
theorem nx31 (W : Wd c) : (Str.ofString "right") = c.nm 31 := (by kernel_rfl : (Str.ofString "right") = nmT 31).trans (W.nm 31).symm
theorem db31 : ((Str.ofString "right") == ("__debug__" : Str)) = false ∧ ((Str.ofString "right") == ("__classdict__" : Str)) = false := ⟨by kernel_rfl, by kernel_rfl⟩
theorem nx32 (W : Wd c) : (Str.ofString "word") = c.nm 32 := (by kernel_rfl : (Str.ofString "word") = nmT 32).trans (W.nm 32).symm
theorem db32 : ((Str.ofString "word") == ("__debug__" : Str)) = false ∧ ((Str.ofString "word") == ("__classdict__" : Str)) = false := ⟨by kernel_rfl, by kernel_rfl⟩
theorem nx33 (W : Wd c) : (Str.ofString "begin") = c.nm 33 := (by kernel_rfl : (Str.ofString "begin") = nmT 33).trans (W.nm 33).symm
theorem db33 : ((Str.ofString "begin") == ("__debug__" : Str)) = false ∧ ((Str.ofString "begin") == ("__classdict__" : Str)) = false := ⟨by kernel_rfl, by kernel_rfl⟩
theorem nx34 (W : Wd c) : (Str.ofString "end") = c.nm 34 := (by kernel_rfl : (Str.ofString "end") = nmT 34).trans (W.nm 34).symm
theorem db34 : ((Str.ofString "end") == ("__debug__" : Str)) = false ∧ ((Str.ofString "end") == ("__classdict__" : Str)) = false := ⟨by kernel_rfl, by kernel_rfl⟩
theorem nx35 (W : Wd c) : (Str.ofString "counts") = c.nm 35 := (by kernel_rfl : (Str.ofString "counts") = nmT 35).trans (W.nm 35).symm
theorem db35 : ((Str.ofString "counts") == ("__debug__" : Str)) = false ∧ ((Str.ofString "counts") == ("__classdict__" : Str)) = false := ⟨by kernel_rfl, by kernel_rfl⟩
theorem nx36 (W : Wd c) : (Str.ofString "reach") = c.nm 36 := (by kernel_rfl : (Str.ofString "reach") = nmT 36).trans (W.nm 36).symm
theorem db36 : ((Str.ofString "reach") == ("__debug__" : Str)) = false ∧ ((Str.ofString "reach") == ("__classdict__" : Str)) = false := ⟨by kernel_rfl, by kernel_rfl⟩
theorem nx37 (W : Wd c) : (Str.ofString "later") = c.nm 37 := (by kernel_rfl : (Str.ofString "later") = nmT 37).trans (W.nm 37).symm
theorem db37 : ((Str.ofString "later") == ("__debug__" : Str)) = false ∧ ((Str.ofString "later") == ("__classdict__" : Str)) = false := ⟨by kernel_rfl, by kernel_rfl⟩
theorem nx38 (W : Wd c) : (Str.ofString "spot") = c.nm 38 := (by kernel_rfl : (Str.ofString "spot") = nmT 38).trans (W.nm 38).symm
theorem db38 : ((Str.ofString "spot") == ("__debug__" : Str)) = false ∧ ((Str.ofString "spot") == ("__classdict__" : Str)) = false := ⟨by kernel_rfl, by kernel_rfl⟩
theorem nx39 (W : Wd c) : (Str.ofString "goal") = c.nm 39 := (by kernel_rfl : (Str.ofString "goal") = nmT 39).trans (W.nm 39).symm
theorem db39 : ((Str.ofString "goal") == ("__debug__" : Str)) = false ∧ ((Str.ofString "goal") == ("__classdict__" : Str)) = false := ⟨by kernel_rfl, by kernel_rfl⟩
theorem nx40 (W : Wd c) : (Str.ofString "length") = c.nm 40 := (by kernel_rfl : (Str.ofString "length") = nmT 40).trans (W.nm 40).symm
theorem db40 : ((Str.ofString "length") == ("__debug__" : Str)) = false ∧ ((Str.ofString "length") == ("__classdict__" : Str)) = false := ⟨by kernel_rfl, by kernel_rfl⟩
theorem nx41 (W : Wd c) : (Str.ofString "trees") = c.nm 41 := (by kernel_rfl : (Str.ofString "trees") = nmT 41).trans (W.nm 41).symm
theorem db41 : ((Str.ofString "trees") == ("__debug__" : Str)) = false ∧ ((Str.ofString "trees") == ("__classdict__" : Str)) = false := ⟨by kernel_rfl, by kernel_rfl⟩
theorem nx42 (W : Wd c) : (Str.ofString "most") = c.nm 42 := (by kernel_rfl : (Str.ofString "most") = nmT 42).trans (W.nm 42).symm
theorem db42 : ((Str.ofString "most") == ("__debug__" : Str)) = false ∧ ((Str.ofString "most") == ("__classdict__" : Str)) = false := ⟨by kernel_rfl, by kernel_rfl⟩
theorem nx43 (W : Wd c) : (Str.ofString "ends") = c.nm 43 := (by kernel_rfl : (Str.ofString "ends") = nmT 43).trans (W.nm 43).symm
theorem db43 : ((Str.ofString "ends") == ("__debug__" : Str)) = false ∧ ((Str.ofString "ends") == ("__classdict__" : Str)) = false := ⟨by kernel_rfl, by kernel_rfl⟩
theorem nx44 (W : Wd c) : (Str.ofString "some") = c.nm 44 := (by kernel_rfl : (Str.ofString "some") = nmT 44).trans (W.nm 44).symm
theorem db44 : ((Str.ofString "some") == ("__debug__" : Str)) = false ∧ ((Str.ofString "some") == ("__classdict__" : Str)) = false := ⟨by kernel_rfl, by kernel_rfl⟩
theorem nx45 (W : Wd c) : (Str.ofString "row") = c.nm 45 := (by kernel_rfl : (Str.ofString "row") = nmT 45).trans (W.nm 45).symm
theorem db45 : ((Str.ofString "row") == ("__debug__" : Str)) = false ∧ ((Str.ofString "row") == ("__classdict__" : Str)) = false := ⟨by kernel_rfl, by kernel_rfl⟩
theorem nx46 (W : Wd c) : (Str.ofString "ahead") = c.nm 46 := (by kernel_rfl : (Str.ofString "ahead") = nmT 46).trans (W.nm 46).symm
theorem db46 : ((Str.ofString "ahead") == ("__debug__" : Str)) = false ∧ ((Str.ofString "ahead") == ("__classdict__" : Str)) = false := ⟨by kernel_rfl, by kernel_rfl⟩
theorem nx47 (W : Wd c) : (Str.ofString "level_of") = c.nm 47 := (by kernel_rfl : (Str.ofString "level_of") = nmT 47).trans (W.nm 47).symm
theorem db47 : ((Str.ofString "level_of") == ("__debug__" : Str)) = false ∧ ((Str.ofString "level_of") == ("__classdict__" : Str)) = false := ⟨by kernel_rfl, by kernel_rfl⟩
theorem nx48 (W : Wd c) : (Str.ofString "action") = c.nm 48 := (by kernel_rfl : (Str.ofString "action") = nmT 48).trans (W.nm 48).symm
theorem db48 : ((Str.ofString "action") == ("__debug__" : Str)) = false ∧ ((Str.ofString "action") == ("__classdict__" : Str)) = false := ⟨by kernel_rfl, by kernel_rfl⟩
theorem nx49 (W : Wd c) : (Str.ofString "before") = c.nm 49 := (by kernel_rfl : (Str.ofString "before") = nmT 49).trans (W.nm 49).symm
theorem db49 : ((Str.ofString "before") == ("__debug__" : Str)) = false ∧ ((Str.ofString "before") == ("__classdict__" : Str)) = false := ⟨by kernel_rfl, by kernel_rfl⟩
theorem nx50 (W : Wd c) : (Str.ofString "names") = c.nm 50 := (by kernel_rfl : (Str.ofString "names") = nmT 50).trans (W.nm 50).symm
theorem db50 : ((Str.ofString "names") == ("__debug__" : Str)) = false ∧ ((Str.ofString "names") == ("__classdict__" : Str)) = false := ⟨by kernel_rfl, by kernel_rfl⟩
theorem nx51 (W : Wd c) : (Str.ofString "terminal_count") = c.nm 51 := (by kernel_rfl : (Str.ofString "terminal_count") = nmT 51).trans (W.nm 51).symm
theorem db51 : ((Str.ofString "terminal_count") == ("__debug__" : Str)) = false ∧ ((Str.ofString "terminal_count") == ("__classdict__" : Str)) = false := ⟨by kernel_rfl, by kernel_rfl⟩
theorem nx52 (W : Wd c) : (Str.ofString "rules") = c.nm 52 := (by kernel_rfl : (Str.ofString "rules") = nmT 52).trans (W.nm 52).symm
theorem db52 : ((Str.ofString "rules") == ("__debug__" : Str)) = false ∧ ((Str.ofString "rules") == ("__classdict__" : Str)) = false := ⟨by kernel_rfl, by kernel_rfl⟩
theorem nx53 (W : Wd c) : (Str.ofString "levels") = c.nm 53 := (by kernel_rfl : (Str.ofString "levels") = nmT 53).trans (W.nm 53).symm
theorem db53 : ((Str.ofString "levels") == ("__debug__" : Str)) = false ∧ ((Str.ofString "levels") == ("__classdict__" : Str)) = false := ⟨by kernel_rfl, by kernel_rfl⟩
theorem nx54 (W : Wd c) : (Str.ofString "expect") = c.nm 54 := (by kernel_rfl : (Str.ofString "expect") = nmT 54).trans (W.nm 54).symm
theorem db54 : ((Str.ofString "expect") == ("__debug__" : Str)) = false ∧ ((Str.ofString "expect") == ("__classdict__" : Str)) = false := ⟨by kernel_rfl, by kernel_rfl⟩
theorem nx55 (W : Wd c) : (Str.ofString "start") = c.nm 55 := (by kernel_rfl : (Str.ofString "start") = nmT 55).trans (W.nm 55).symm
theorem db55 : ((Str.ofString "start") == ("__debug__" : Str)) = false ∧ ((Str.ofString "start") == ("__classdict__" : Str)) = false := ⟨by kernel_rfl, by kernel_rfl⟩
theorem nx56 (W : Wd c) : (Str.ofString "pairs") = c.nm 56 := (by kernel_rfl : (Str.ofString "pairs") = nmT 56).trans (W.nm 56).symm
theorem db56 : ((Str.ofString "pairs") == ("__debug__" : Str)) = false ∧ ((Str.ofString "pairs") == ("__classdict__" : Str)) = false := ⟨by kernel_rfl, by kernel_rfl⟩
theorem nx57 (W : Wd c) : (Str.ofString "lefts") = c.nm 57 := (by kernel_rfl : (Str.ofString "lefts") = nmT 57).trans (W.nm 57).symm
theorem db57 : ((Str.ofString "lefts") == ("__debug__" : Str)) = false ∧ ((Str.ofString "lefts") == ("__classdict__" : Str)) = false := ⟨by kernel_rfl, by kernel_rfl⟩
theorem nx58 (W : Wd c) : (Str.ofString "count") = c.nm 58 := (by kernel_rfl : (Str.ofString "count") = nmT 58).trans (W.nm 58).symm
theorem db58 : ((Str.ofString "count") == ("__debug__" : Str)) = false ∧ ((Str.ofString "count") == ("__classdict__" : Str)) = false := ⟨by kernel_rfl, by kernel_rfl⟩
theorem nx59 (W : Wd c) : (Str.ofString "parts") = c.nm 59 := (by kernel_rfl : (Str.ofString "parts") = nmT 59).trans (W.nm 59).symm
theorem db59 : ((Str.ofString "parts") == ("__debug__" : Str)) = false ∧ ((Str.ofString "parts") == ("__classdict__" : Str)) = false := ⟨by kernel_rfl, by kernel_rfl⟩
theorem nx60 (W : Wd c) : (Str.ofString "script") = c.nm 60 := (by kernel_rfl : (Str.ofString "script") = nmT 60).trans (W.nm 60).symm
theorem db60 : ((Str.ofString "script") == ("__debug__" : Str)) = false ∧ ((Str.ofString "script") == ("__classdict__" : Str)) = false := ⟨by kernel_rfl, by kernel_rfl⟩
theorem nx61 (W : Wd c) : (Str.ofString "cell") = c.nm 61 := (by kernel_rfl : (Str.ofString "cell") = nmT 61).trans (W.nm 61).symm
theorem db61 : ((Str.ofString "cell") == ("__debug__" : Str)) = false ∧ ((Str.ofString "cell") == ("__classdict__" : Str)) = false := ⟨by kernel_rfl, by kernel_rfl⟩
theorem nx62 (W : Wd c) : (Str.ofString "pen") = c.nm 62 := (by kernel_rfl : (Str.ofString "pen") = nmT 62).trans (W.nm 62).symm
theorem db62 : ((Str.ofString "pen") == ("__debug__" : Str)) = false ∧ ((Str.ofString "pen") == ("__classdict__" : Str)) = false := ⟨by kernel_rfl, by kernel_rfl⟩
theorem nx63 (W : Wd c) : (Str.ofString "digit") = c.nm 63 := (by kernel_rfl : (Str.ofString "digit") = nmT 63).trans (W.nm 63).symm
theorem db63 : ((Str.ofString "digit") == ("__debug__" : Str)) = false ∧ ((Str.ofString "digit") == ("__classdict__" : Str)) = false := ⟨by kernel_rfl, by kernel_rfl⟩
theorem nx64 (W : Wd c) : (Str.ofString "copies") = c.nm 64 := (by kernel_rfl : (Str.ofString "copies") = nmT 64).trans (W.nm 64).symm
theorem db64 : ((Str.ofString "copies") == ("__debug__" : Str)) = false ∧ ((Str.ofString "copies") == ("__classdict__" : Str)) = false := ⟨by kernel_rfl, by kernel_rfl⟩
theorem nx65 (W : Wd c) : (Str.ofString "signs") = c.nm 65 := (by kernel_rfl : (Str.ofString "signs") = nmT 65).trans (W.nm 65).symm
theorem db65 : ((Str.ofString "signs") == ("__debug__" : Str)) = false ∧ ((Str.ofString "signs") == ("__classdict__" : Str)) = false := ⟨by kernel_rfl, by kernel_rfl⟩
theorem nx66 (W : Wd c) : (Str.ofString "four") = c.nm 66 := (by kernel_rfl : (Str.ofString "four") = nmT 66).trans (W.nm 66).symm
theorem db66 : ((Str.ofString "four") == ("__debug__" : Str)) = false ∧ ((Str.ofString "four") == ("__classdict__" : Str)) = false := ⟨by kernel_rfl, by kernel_rfl⟩
theorem nx67 (W : Wd c) : (Str.ofString "sign") = c.nm 67 := (by kernel_rfl : (Str.ofString "sign") = nmT 67).trans (W.nm 67).symm
theorem db67 : ((Str.ofString "sign") == ("__debug__" : Str)) = false ∧ ((Str.ofString "sign") == ("__classdict__" : Str)) = false := ⟨by kernel_rfl, by kernel_rfl⟩
theorem nx68 (W : Wd c) : (Str.ofString "leaves") = c.nm 68 := (by kernel_rfl : (Str.ofString "leaves") = nmT 68).trans (W.nm 68).symm
theorem db68 : ((Str.ofString "leaves") == ("__debug__" : Str)) = false ∧ ((Str.ofString "leaves") == ("__classdict__" : Str)) = false := ⟨by kernel_rfl, by kernel_rfl⟩
theorem nx69 (W : Wd c) : (Str.ofString "three") = c.nm 69 := (by kernel_rfl : (Str.ofString "three") = nmT 69).trans (W.nm 69).symm
theorem db69 : ((Str.ofString "three") == ("__debug__" : Str)) = false ∧ ((Str.ofString "three") == ("__classdict__" : Str)) = false := ⟨by kernel_rfl, by kernel_rfl⟩
theorem nx70 (W : Wd c) : (Str.ofString "two") = c.nm 70 := (by kernel_rfl : (Str.ofString "two") = nmT 70).trans (W.nm 70).symm
theorem db70 : ((Str.ofString "two") == ("__debug__" : Str)) = false ∧ ((Str.ofString "two") == ("__classdict__" : Str)) = false := ⟨by kernel_rfl, by kernel_rfl⟩
theorem nx71 (W : Wd c) : (Str.ofString "rest") = c.nm 71 := (by kernel_rfl : (Str.ofString "rest") = nmT 71).trans (W.nm 71).symm
theorem db71 : ((Str.ofString "rest") == ("__debug__" : Str)) = false ∧ ((Str.ofString "rest") == ("__classdict__" : Str)) = false := ⟨by kernel_rfl, by kernel_rfl⟩
theorem nx72 (W : Wd c) : (Str.ofString "size") = c.nm 72 := (by kernel_rfl : (Str.ofString "size") = nmT 72).trans (W.nm 72).symm
theorem db72 : ((Str.ofString "size") == ("__debug__" : Str)) = false ∧ ((Str.ofString "size") == ("__classdict__" : Str)) = false := ⟨by kernel_rfl, by kernel_rfl⟩
theorem nx73 (W : Wd c) : (Str.ofString "turn") = c.nm 73 := (by kernel_rfl : (Str.ofString "turn") = nmT 73).trans (W.nm 73).symm
theorem db73 : ((Str.ofString "turn") == ("__debug__" : Str)) = false ∧ ((Str.ofString "turn") == ("__classdict__" : Str)) = false := ⟨by kernel_rfl, by kernel_rfl⟩
theorem nx74 (W : Wd c) : (Str.ofString "numbers") = c.nm 74 := (by kernel_rfl : (Str.ofString "numbers") = nmT 74).trans (W.nm 74).symm
theorem db74 : ((Str.ofString "numbers") == ("__debug__" : Str)) = false ∧ ((Str.ofString "numbers") == ("__classdict__" : Str)) = false := ⟨by kernel_rfl, by kernel_rfl⟩
theorem nx75 (W : Wd c) : (Str.ofString "due") = c.nm 75 := (by kernel_rfl : (Str.ofString "due") = nmT 75).trans (W.nm 75).symm
theorem db75 : ((Str.ofString "due") == ("__debug__" : Str)) = false ∧ ((Str.ofString "due") == ("__classdict__" : Str)) = false := ⟨by kernel_rfl, by kernel_rfl⟩
theorem nx76 (W : Wd c) : (Str.ofString "place") = c.nm 76 := (by kernel_rfl : (Str.ofString "place") = nmT 76).trans (W.nm 76).symm
theorem db76 : ((Str.ofString "place") == ("__debug__" : Str)) = false ∧ ((Str.ofString "place") == ("__classdict__" : Str)) = false := ⟨by kernel_rfl, by kernel_rfl⟩
theorem gm_list : ((Str.ofString "list"), ((.type "list") : Value)) ∈ gloL := List.mem_of_getElem? (i := 0) rfl
theorem gd_list : ((Str.ofString "list") == ("__debug__" : Str)) = false := by kernel_rfl
theorem gm_len : ((Str.ofString "len"), ((.builtin "len") : Value)) ∈ gloL := List.mem_of_getElem? (i := 1) rfl
theorem gd_len : ((Str.ofString "len") == ("__debug__" : Str)) = false := by kernel_rfl
theorem gm_range : ((Str.ofString "range"), ((.type "range") : Value)) ∈ gloL := List.mem_of_getElem? (i := 2) rfl
theorem gd_range : ((Str.ofString "range") == ("__debug__" : Str)) = false := by kernel_rfl
theorem gm_tuple : ((Str.ofString "tuple"), ((.type "tuple") : Value)) ∈ gloL := List.mem_of_getElem? (i := 3) rfl
theorem gd_tuple : ((Str.ofString "tuple") == ("__debug__" : Str)) = false := by kernel_rfl
theorem gm_sorted : ((Str.ofString "sorted"), ((.builtin "sorted") : Value)) ∈ gloL := List.mem_of_getElem? (i := 4) rfl
theorem gd_sorted : ((Str.ofString "sorted") == ("__debug__" : Str)) = false := by kernel_rfl
theorem gm_abs : ((Str.ofString "abs"), ((.builtin "abs") : Value)) ∈ gloL := List.mem_of_getElem? (i := 5) rfl
theorem gd_abs : ((Str.ofString "abs") == ("__debug__" : Str)) = false := by kernel_rfl
theorem gm_int : ((Str.ofString "int"), ((.type "int") : Value)) ∈ gloL := List.mem_of_getElem? (i := 6) rfl
theorem gd_int : ((Str.ofString "int") == ("__debug__" : Str)) = false := by kernel_rfl
theorem gm_dict : ((Str.ofString "dict"), ((.type "dict") : Value)) ∈ gloL := List.mem_of_getElem? (i := 7) rfl
theorem gd_dict : ((Str.ofString "dict") == ("__debug__" : Str)) = false := by kernel_rfl
theorem gm_spread : ((Str.ofString "spread"), ((.ref 102) : Value)) ∈ gloL := List.mem_of_getElem? (i := 8) rfl
theorem gd_spread : ((Str.ofString "spread") == ("__debug__" : Str)) = false := by kernel_rfl
theorem gm_nullable : ((Str.ofString "nullable"), ((.ref 109) : Value)) ∈ gloL := List.mem_of_getElem? (i := 9) rfl
theorem gd_nullable : ((Str.ofString "nullable") == ("__debug__" : Str)) = false := by kernel_rfl
theorem gm_postorder : ((Str.ofString "postorder"), ((.ref 215) : Value)) ∈ gloL := List.mem_of_getElem? (i := 10) rfl
theorem gd_postorder : ((Str.ofString "postorder") == ("__debug__" : Str)) = false := by kernel_rfl
theorem gm_unit_order : ((Str.ofString "unit_order"), ((.ref 220) : Value)) ∈ gloL := List.mem_of_getElem? (i := 11) rfl
theorem gd_unit_order : ((Str.ofString "unit_order") == ("__debug__" : Str)) = false := by kernel_rfl
theorem gm_ways : ((Str.ofString "ways"), ((.ref 227) : Value)) ∈ gloL := List.mem_of_getElem? (i := 12) rfl
theorem gd_ways : ((Str.ofString "ways") == ("__debug__" : Str)) = false := by kernel_rfl
theorem gm_count_trees : ((Str.ofString "count_trees"), ((.ref 234) : Value)) ∈ gloL := List.mem_of_getElem? (i := 13) rfl
theorem gd_count_trees : ((Str.ofString "count_trees") == ("__debug__" : Str)) = false := by kernel_rfl
theorem gm_rows_over : ((Str.ofString "rows_over"), ((.ref 241) : Value)) ∈ gloL := List.mem_of_getElem? (i := 14) rfl
theorem gd_rows_over : ((Str.ofString "rows_over") == ("__debug__" : Str)) = false := by kernel_rfl
theorem gm_trees_of : ((Str.ofString "trees_of"), ((.ref 249) : Value)) ∈ gloL := List.mem_of_getElem? (i := 15) rfl
theorem gd_trees_of : ((Str.ofString "trees_of") == ("__debug__" : Str)) = false := by kernel_rfl
theorem gm_last_terminal : ((Str.ofString "last_terminal"), ((.ref 361) : Value)) ∈ gloL := List.mem_of_getElem? (i := 16) rfl
theorem gd_last_terminal : ((Str.ofString "last_terminal") == ("__debug__" : Str)) = false := by kernel_rfl
theorem gm_plain_grammar : ((Str.ofString "plain_grammar"), ((.ref 367) : Value)) ∈ gloL := List.mem_of_getElem? (i := 17) rfl
theorem gd_plain_grammar : ((Str.ofString "plain_grammar") == ("__debug__" : Str)) = false := by kernel_rfl
theorem gm__law_pen : ((Str.ofString "_law_pen"), ((.ref 374) : Value)) ∈ gloL := List.mem_of_getElem? (i := 18) rfl
theorem gd__law_pen : ((Str.ofString "_law_pen") == ("__debug__" : Str)) = false := by kernel_rfl
theorem gm__law_draw : ((Str.ofString "_law_draw"), ((.ref 381) : Value)) ∈ gloL := List.mem_of_getElem? (i := 19) rfl
theorem gd__law_draw : ((Str.ofString "_law_draw") == ("__debug__" : Str)) = false := by kernel_rfl
theorem gm__law_factorial : ((Str.ofString "_law_factorial"), ((.ref 388) : Value)) ∈ gloL := List.mem_of_getElem? (i := 20) rfl
theorem gd__law_factorial : ((Str.ofString "_law_factorial") == ("__debug__" : Str)) = false := by kernel_rfl
theorem gm__law_due : ((Str.ofString "_law_due"), ((.ref 395) : Value)) ∈ gloL := List.mem_of_getElem? (i := 21) rfl
theorem gd__law_due : ((Str.ofString "_law_due") == ("__debug__" : Str)) = false := by kernel_rfl
theorem gm__law_pairs : ((Str.ofString "_law_pairs"), ((.ref 400) : Value)) ∈ gloL := List.mem_of_getElem? (i := 22) rfl
theorem gd__law_pairs : ((Str.ofString "_law_pairs") == ("__debug__" : Str)) = false := by kernel_rfl
theorem gm_Token : ((Str.ofString "Token"), ((.ref 93) : Value)) ∈ gloL := List.mem_of_getElem? (i := 23) rfl
theorem gd_Token : ((Str.ofString "Token") == ("__debug__" : Str)) = false := by kernel_rfl
theorem gm_Tree : ((Str.ofString "Tree"), ((.ref 171) : Value)) ∈ gloL := List.mem_of_getElem? (i := 24) rfl
theorem gd_Tree : ((Str.ofString "Tree") == ("__debug__" : Str)) = false := by kernel_rfl
theorem gm_Leaf : ((Str.ofString "Leaf"), ((.ref 206) : Value)) ∈ gloL := List.mem_of_getElem? (i := 25) rfl
theorem gd_Leaf : ((Str.ofString "Leaf") == ("__debug__" : Str)) = false := by kernel_rfl
theorem gm_Rule : ((Str.ofString "Rule"), ((.ref 268) : Value)) ∈ gloL := List.mem_of_getElem? (i := 26) rfl
theorem gd_Rule : ((Str.ofString "Rule") == ("__debug__" : Str)) = false := by kernel_rfl
theorem gm_Grammar : ((Str.ofString "Grammar"), ((.ref 350) : Value)) ∈ gloL := List.mem_of_getElem? (i := 27) rfl
theorem gd_Grammar : ((Str.ofString "Grammar") == ("__debug__" : Str)) = false := by kernel_rfl
noncomputable abbrev bd_Token_init : List Stmt := stBody (inAt 4 0)
noncomputable abbrev sc_Token_init : Scope := stScope (inAt 4 0)
noncomputable def ir_Token_init : Ss := (.cons
  (.asgAttr (.var 0) "kind" (.var 1)) (.cons
  (.asgAttr (.var 0) "text" (.var 2)) (.cons
  (.asgAttr (.var 0) "at" (.var 3)) (.cons
  (.asgAttr (.var 0) "worth" (.ite (.cmp .Is (.var 4) (.lit .none)) (.var 2) (.var 4))) .nil))))
theorem ok_Token_init (W : Wd c) (hs : env.scope = sc_Token_init) (E : EnvOk env) : SndSs c (n + 1) env bd_Token_init ir_Token_init :=
  (snds_s_cons
  (s_asgAttr W.ok (vN E (nx1 W) (.inl (sc_kind hs (by kernel_rfl))) db1) (vN E (nx0 W) (.inl (sc_kind hs (by kernel_rfl))) db0) rfl) (snds_s_cons
  (s_asgAttr W.ok (vN E (nx2 W) (.inl (sc_kind hs (by kernel_rfl))) db2) (vN E (nx0 W) (.inl (sc_kind hs (by kernel_rfl))) db0) rfl) (snds_s_cons
  (s_asgAttr W.ok (vN E (nx3 W) (.inl (sc_kind hs (by kernel_rfl))) db3) (vN E (nx0 W) (.inl (sc_kind hs (by kernel_rfl))) db0) rfl) (snds_s_cons
  (s_asgAttr W.ok (snd_ite (sndB_cmp W.ok (vN E (nx4 W) (.inl (sc_kind hs (by kernel_rfl))) db4) (snd_lit (.inl ⟨rfl, rfl⟩)) rfl) (vN E (nx2 W) (.inl (sc_kind hs (by kernel_rfl))) db2) (vN E (nx4 W) (.inl (sc_kind hs (by kernel_rfl))) db4)) (vN E (nx0 W) (.inl (sc_kind hs (by kernel_rfl))) db0) rfl) snds_s_nil))))
noncomputable abbrev bd_spread : List Stmt := stBody (topAt 6)
noncomputable abbrev sc_spread : Scope := stScope (topAt 6)
noncomputable def ir_spread : Ss := (.cons
  (.asg 7 (.list (.var 6))) (.cons
  (.asg 8 (.lst .nil)) (.cons
  (.asg 9 (.comp (.lst .nil) 13 (.var 7))) (.cons
  (.asg 10 (.lst .nil)) (.cons
  (.for (.one 11) (.attr (.var 5) "rules") (.cons
    (.asg 12 (.lit (.int 0))) (.cons
    (.for (.one 13) (.attr (.var 11) "right") (.cons
      (.iff (.not (.sub (.var 7) (.var 13))) (.cons
        (.asg 12 (.bin .Add (.var 12) (.lit (.int 1)))) (.cons
        (.expr (.append (.sub (.var 9) (.var 13)) (.attr (.var 11) "number"))) .nil)) .nil) .nil)) (.cons
    (.expr (.append (.var 8) (.var 12))) .nil)))) (.cons
  (.for (.one 11) (.attr (.var 5) "rules") (.cons
    (.iff (.and (.cmp .Eq (.sub (.var 8) (.attr (.var 11) "number")) (.lit (.int 0))) (.not (.sub (.var 7) (.attr (.var 11) "left")))) (.cons
      (.asgSub (.var 7) (.attr (.var 11) "left") (.lit (.bool true))) (.cons
      (.expr (.append (.var 10) (.attr (.var 11) "left"))) .nil)) .nil) .nil)) (.cons
  (.asg 3 (.lit (.int 0))) (.cons
  (.whl (.cmp .Lt (.var 3) (.len (.var 10))) (.cons
    (.for (.one 14) (.sub (.var 9) (.sub (.var 10) (.var 3))) (.cons
      (.asgSub (.var 8) (.var 14) (.bin .Sub (.sub (.var 8) (.var 14)) (.lit (.int 1)))) (.cons
      (.asg 15 (.attr (.sub (.attr (.var 5) "rules") (.var 14)) "left")) (.cons
      (.iff (.and (.cmp .Eq (.sub (.var 8) (.var 14)) (.lit (.int 0))) (.not (.sub (.var 7) (.var 15)))) (.cons
        (.asgSub (.var 7) (.var 15) (.lit (.bool true))) (.cons
        (.expr (.append (.var 10) (.var 15))) .nil)) .nil) .nil)))) (.cons
    (.asg 3 (.bin .Add (.var 3) (.lit (.int 1)))) .nil))) (.cons
  (.ret (.var 7)) .nil)))))))))
theorem ok_spread (W : Wd c) (hs : env.scope = sc_spread) (E : EnvOk env) : SndSs c (n + 1) env bd_spread ir_spread :=
  (snds_s_cons
  (s_asg W.ok E (tList W E (bn W (sc_kind hs (by kernel_rfl)) gm_list gd_list) rfl (vN E (nx6 W) (.inl (sc_kind hs (by kernel_rfl))) db6)) (nx7 W) (.inl (sc_kind hs (by kernel_rfl))) rfl) (snds_s_cons
  (s_asg W.ok E (snd_lst snds_nil) (nx8 W) (.inl (sc_kind hs (by kernel_rfl))) rfl) (snds_s_cons
  (tsComp W E hs (by kernel_rfl) (nx13 W) (fun zz => rfl) (vN E (nx7 W) (.inl (sc_kind hs (by kernel_rfl))) db7) (nx9 W) (sc_kind hs (by kernel_rfl)) rfl (by kernel_rfl) (fun zz zz E1 => (snd_lst snds_nil))) (snds_s_cons
  (s_asg W.ok E (snd_lst snds_nil) (nx10 W) (.inl (sc_kind hs (by kernel_rfl))) rfl) (snds_s_cons
  (s_for W.ok E (.one (nx11 W) (.inl (sc_kind hs (by kernel_rfl)))) (snd_attr W.ok rfl (vN E (nx5 W) (.inl (sc_kind hs (by kernel_rfl))) db5)) (snds_s_cons
    (s_asg W.ok E (snd_lit (.inr (.inr (.inl ⟨_, rfl, rfl⟩)))) (nx12 W) (.inl (sc_kind hs (by kernel_rfl))) rfl) (snds_s_cons
    (s_for W.ok E (.one (nx13 W) (.inl (sc_kind hs (by kernel_rfl)))) (snd_attr W.ok rfl (vN E (nx11 W) (.inl (sc_kind hs (by kernel_rfl))) db11)) (snds_s_cons
      (s_iff (sndB_not (sndB_val (snd_sub W.ok (vN E (nx7 W) (.inl (sc_kind hs (by kernel_rfl))) db7) (vN E (nx13 W) (.inl (sc_kind hs (by kernel_rfl))) db13)) rfl)) (snds_s_cons
        (s_asg W.ok E (snd_bin (vN E (nx12 W) (.inl (sc_kind hs (by kernel_rfl))) db12) (snd_lit (.inr (.inr (.inl ⟨_, rfl, rfl⟩))))) (nx12 W) (.inl (sc_kind hs (by kernel_rfl))) rfl) (snds_s_cons
        (s_expr (snd_append ⟨_, rfl⟩ (snd_sub W.ok (vN E (nx9 W) (.inl (sc_kind hs (by kernel_rfl))) db9) (vN E (nx13 W) (.inl (sc_kind hs (by kernel_rfl))) db13)) (snd_attr W.ok rfl (vN E (nx11 W) (.inl (sc_kind hs (by kernel_rfl))) db11)) rfl) (int_false E) rfl) snds_s_nil)) snds_s_nil) snds_s_nil) (fun zz => rfl)) (snds_s_cons
    (s_expr (snd_append ⟨_, rfl⟩ (vN E (nx8 W) (.inl (sc_kind hs (by kernel_rfl))) db8) (vN E (nx12 W) (.inl (sc_kind hs (by kernel_rfl))) db12) rfl) (int_false E) rfl) snds_s_nil))) (fun zz => rfl)) (snds_s_cons
  (s_for W.ok E (.one (nx11 W) (.inl (sc_kind hs (by kernel_rfl)))) (snd_attr W.ok rfl (vN E (nx5 W) (.inl (sc_kind hs (by kernel_rfl))) db5)) (snds_s_cons
    (s_iff (sndB_and (sndB_cmp W.ok (snd_sub W.ok (vN E (nx8 W) (.inl (sc_kind hs (by kernel_rfl))) db8) (snd_attr W.ok rfl (vN E (nx11 W) (.inl (sc_kind hs (by kernel_rfl))) db11))) (snd_lit (.inr (.inr (.inl ⟨_, rfl, rfl⟩)))) rfl) (sndB_not (sndB_val (snd_sub W.ok (vN E (nx7 W) (.inl (sc_kind hs (by kernel_rfl))) db7) (snd_attr W.ok rfl (vN E (nx11 W) (.inl (sc_kind hs (by kernel_rfl))) db11))) rfl))) (snds_s_cons
      (s_asgSub W.ok (snd_lit (.inr (.inl ⟨_, rfl, rfl⟩))) (vN E (nx7 W) (.inl (sc_kind hs (by kernel_rfl))) db7) (snd_attr W.ok rfl (vN E (nx11 W) (.inl (sc_kind hs (by kernel_rfl))) db11)) rfl) (snds_s_cons
      (s_expr (snd_append ⟨_, rfl⟩ (vN E (nx10 W) (.inl (sc_kind hs (by kernel_rfl))) db10) (snd_attr W.ok rfl (vN E (nx11 W) (.inl (sc_kind hs (by kernel_rfl))) db11)) rfl) (int_false E) rfl) snds_s_nil)) snds_s_nil) snds_s_nil) (fun zz => rfl)) (snds_s_cons
  (s_asg W.ok E (snd_lit (.inr (.inr (.inl ⟨_, rfl, rfl⟩)))) (nx3 W) (.inl (sc_kind hs (by kernel_rfl))) rfl) (snds_s_cons
  (s_whl (sndB_cmp W.ok (vN E (nx3 W) (.inl (sc_kind hs (by kernel_rfl))) db3) (tLen W E (bn W (sc_kind hs (by kernel_rfl)) gm_len gd_len) rfl (vN E (nx10 W) (.inl (sc_kind hs (by kernel_rfl))) db10)) rfl) (snds_s_cons
    (s_for W.ok E (.one (nx14 W) (.inl (sc_kind hs (by kernel_rfl)))) (snd_sub W.ok (vN E (nx9 W) (.inl (sc_kind hs (by kernel_rfl))) db9) (snd_sub W.ok (vN E (nx10 W) (.inl (sc_kind hs (by kernel_rfl))) db10) (vN E (nx3 W) (.inl (sc_kind hs (by kernel_rfl))) db3))) (snds_s_cons
      (s_asgSub W.ok (snd_bin (snd_sub W.ok (vN E (nx8 W) (.inl (sc_kind hs (by kernel_rfl))) db8) (vN E (nx14 W) (.inl (sc_kind hs (by kernel_rfl))) db14)) (snd_lit (.inr (.inr (.inl ⟨_, rfl, rfl⟩))))) (vN E (nx8 W) (.inl (sc_kind hs (by kernel_rfl))) db8) (vN E (nx14 W) (.inl (sc_kind hs (by kernel_rfl))) db14) rfl) (snds_s_cons
      (s_asg W.ok E (snd_attr W.ok rfl (snd_sub W.ok (snd_attr W.ok rfl (vN E (nx5 W) (.inl (sc_kind hs (by kernel_rfl))) db5)) (vN E (nx14 W) (.inl (sc_kind hs (by kernel_rfl))) db14))) (nx15 W) (.inl (sc_kind hs (by kernel_rfl))) rfl) (snds_s_cons
      (s_iff (sndB_and (sndB_cmp W.ok (snd_sub W.ok (vN E (nx8 W) (.inl (sc_kind hs (by kernel_rfl))) db8) (vN E (nx14 W) (.inl (sc_kind hs (by kernel_rfl))) db14)) (snd_lit (.inr (.inr (.inl ⟨_, rfl, rfl⟩)))) rfl) (sndB_not (sndB_val (snd_sub W.ok (vN E (nx7 W) (.inl (sc_kind hs (by kernel_rfl))) db7) (vN E (nx15 W) (.inl (sc_kind hs (by kernel_rfl))) db15)) rfl))) (snds_s_cons
        (s_asgSub W.ok (snd_lit (.inr (.inl ⟨_, rfl, rfl⟩))) (vN E (nx7 W) (.inl (sc_kind hs (by kernel_rfl))) db7) (vN E (nx15 W) (.inl (sc_kind hs (by kernel_rfl))) db15) rfl) (snds_s_cons
        (s_expr (snd_append ⟨_, rfl⟩ (vN E (nx10 W) (.inl (sc_kind hs (by kernel_rfl))) db10) (vN E (nx15 W) (.inl (sc_kind hs (by kernel_rfl))) db15) rfl) (int_false E) rfl) snds_s_nil)) snds_s_nil) snds_s_nil))) (fun zz => rfl)) (snds_s_cons
    (s_asg W.ok E (snd_bin (vN E (nx3 W) (.inl (sc_kind hs (by kernel_rfl))) db3) (snd_lit (.inr (.inr (.inl ⟨_, rfl, rfl⟩))))) (nx3 W) (.inl (sc_kind hs (by kernel_rfl))) rfl) snds_s_nil))) (snds_s_cons
  (s_ret (vN E (nx7 W) (.inl (sc_kind hs (by kernel_rfl))) db7)) snds_s_nil)))))))))
noncomputable abbrev bd_nullable : List Stmt := stBody (topAt 7)
noncomputable abbrev sc_nullable : Scope := stScope (topAt 7)
noncomputable def ir_nullable : Ss := (.cons
  (.ret (.call (.glob "spread" (.fn (.ref 102))) (.cons (.var 5) (.cons (.bin .Mult (.lst (.cons (.lit (.bool false)) .nil)) (.meth (.var 5) "symbol_count" .nil)) .nil)))) .nil)
theorem ok_nullable (W : Wd c) (hs : env.scope = sc_nullable) (E : EnvOk env) : SndSs c (n + 1) env bd_nullable ir_nullable :=
  (snds_s_cons
  (s_ret (snd_call W.ok E (bn W (sc_kind hs (by kernel_rfl)) gm_spread gd_spread) rfl nmx (snds_cons (vN E (nx5 W) (.inl (sc_kind hs (by kernel_rfl))) db5) (snds_cons (snd_bin (snd_lst (snds_cons (snd_lit (.inr (.inl ⟨_, rfl, rfl⟩))) snds_nil (starEach_plain _ rfl))) (snd_meth W.ok ⟨_, rfl⟩ (vN E (nx5 W) (.inl (sc_kind hs (by kernel_rfl))) db5) rfl (fun zz => rfl) snds_nil)) snds_nil (starEach_plain _ rfl)) (starEach_plain _ rfl)))) snds_s_nil)
noncomputable abbrev bd_Tree_init : List Stmt := stBody (inAt 9 0)
noncomputable abbrev sc_Tree_init : Scope := stScope (inAt 9 0)
noncomputable def ir_Tree_init : Ss := (.cons
  (.asgAttr (.var 0) "name" (.var 16)) (.cons
  (.asgAttr (.var 0) "rule" (.var 11)) (.cons
  (.asgAttr (.var 0) "children" (.list (.var 17))) .nil)))
theorem ok_Tree_init (W : Wd c) (hs : env.scope = sc_Tree_init) (E : EnvOk env) : SndSs c (n + 1) env bd_Tree_init ir_Tree_init :=
  (snds_s_cons
  (s_asgAttr W.ok (vN E (nx16 W) (.inl (sc_kind hs (by kernel_rfl))) db16) (vN E (nx0 W) (.inl (sc_kind hs (by kernel_rfl))) db0) rfl) (snds_s_cons
  (s_asgAttr W.ok (vN E (nx11 W) (.inl (sc_kind hs (by kernel_rfl))) db11) (vN E (nx0 W) (.inl (sc_kind hs (by kernel_rfl))) db0) rfl) (snds_s_cons
  (s_asgAttr W.ok (tList W E (bn W (sc_kind hs (by kernel_rfl)) gm_list gd_list) rfl (vN E (nx17 W) (.inl (sc_kind hs (by kernel_rfl))) db17)) (vN E (nx0 W) (.inl (sc_kind hs (by kernel_rfl))) db0) rfl) snds_s_nil)))
noncomputable abbrev bd_Tree_is_leaf : List Stmt := stBody (inAt 9 1)
noncomputable abbrev sc_Tree_is_leaf : Scope := stScope (inAt 9 1)
noncomputable def ir_Tree_is_leaf : Ss := (.cons
  (.ret (.lit (.bool false))) .nil)
theorem ok_Tree_is_leaf (W : Wd c) (hs : env.scope = sc_Tree_is_leaf) (E : EnvOk env) : SndSs c (n + 1) env bd_Tree_is_leaf ir_Tree_is_leaf :=
  (snds_s_cons
  (s_ret (snd_lit (.inr (.inl ⟨_, rfl, rfl⟩)))) snds_s_nil)
noncomputable abbrev bd_Tree_leaves : List Stmt := stBody (inAt 9 4)
noncomputable abbrev sc_Tree_leaves : Scope := stScope (inAt 9 4)
noncomputable def ir_Tree_leaves : Ss := (.cons
  (.ret (.compIf (.attr (.var 18) "token") 18 (.call (.glob "postorder" (.fn (.ref 215))) (.cons (.var 0) .nil)) (.meth (.var 18) "is_leaf" .nil))) .nil)
theorem ok_Tree_leaves (W : Wd c) (hs : env.scope = sc_Tree_leaves) (E : EnvOk env) : SndSs c (n + 1) env bd_Tree_leaves ir_Tree_leaves :=
  (snds_s_cons
  (s_ret (tCompIf W E hs (by kernel_rfl) (nx18 W) (fun zz => rfl) (snd_call W.ok E (bn W (sc_kind hs (by kernel_rfl)) gm_postorder gd_postorder) rfl nmx (snds_cons (vN E (nx0 W) (.inl (sc_kind hs (by kernel_rfl))) db0) snds_nil (starEach_plain _ rfl))) (fun zz zz E1 => (snd_attr W.ok rfl (vN E1 (nx18 W) (.inl (relabel_kind (by kernel_rfl) (by decide))) db18))) (fun zz zz E1 => (sndB_val (snd_meth W.ok ⟨_, rfl⟩ (vN E1 (nx18 W) (.inl (relabel_kind (by kernel_rfl) (by decide))) db18) rfl (fun zz => rfl) snds_nil) rfl)))) snds_s_nil)
noncomputable abbrev bd_Tree_reductions : List Stmt := stBody (inAt 9 5)
noncomputable abbrev sc_Tree_reductions : Scope := stScope (inAt 9 5)
noncomputable def ir_Tree_reductions : Ss := (.cons
  (.ret (.compIf (.attr (.var 18) "rule") 18 (.call (.glob "postorder" (.fn (.ref 215))) (.cons (.var 0) .nil)) (.not (.meth (.var 18) "is_leaf" .nil)))) .nil)
theorem ok_Tree_reductions (W : Wd c) (hs : env.scope = sc_Tree_reductions) (E : EnvOk env) : SndSs c (n + 1) env bd_Tree_reductions ir_Tree_reductions :=
  (snds_s_cons
  (s_ret (tCompIf W E hs (by kernel_rfl) (nx18 W) (fun zz => rfl) (snd_call W.ok E (bn W (sc_kind hs (by kernel_rfl)) gm_postorder gd_postorder) rfl nmx (snds_cons (vN E (nx0 W) (.inl (sc_kind hs (by kernel_rfl))) db0) snds_nil (starEach_plain _ rfl))) (fun zz zz E1 => (snd_attr W.ok rfl (vN E1 (nx18 W) (.inl (relabel_kind (by kernel_rfl) (by decide))) db18))) (fun zz zz E1 => (sndB_not (sndB_val (snd_meth W.ok ⟨_, rfl⟩ (vN E1 (nx18 W) (.inl (relabel_kind (by kernel_rfl) (by decide))) db18) rfl (fun zz => rfl) snds_nil) rfl))))) snds_s_nil)
noncomputable abbrev bd_Leaf_init : List Stmt := stBody (inAt 10 0)
noncomputable abbrev sc_Leaf_init : Scope := stScope (inAt 10 0)
noncomputable def ir_Leaf_init : Ss := (.cons
  (.asgAttr (.var 0) "name" (.attr (.var 19) "kind")) (.cons
  (.asgAttr (.var 0) "rule" (.lit (.int 0))) (.cons
  (.asgAttr (.var 0) "children" (.lst .nil)) (.cons
  (.asgAttr (.var 0) "token" (.var 19)) .nil))))
theorem ok_Leaf_init (W : Wd c) (hs : env.scope = sc_Leaf_init) (E : EnvOk env) : SndSs c (n + 1) env bd_Leaf_init ir_Leaf_init :=
  (snds_s_cons
  (s_asgAttr W.ok (snd_attr W.ok rfl (vN E (nx19 W) (.inl (sc_kind hs (by kernel_rfl))) db19)) (vN E (nx0 W) (.inl (sc_kind hs (by kernel_rfl))) db0) rfl) (snds_s_cons
  (s_asgAttr W.ok (snd_lit (.inr (.inr (.inl ⟨_, rfl, rfl⟩)))) (vN E (nx0 W) (.inl (sc_kind hs (by kernel_rfl))) db0) rfl) (snds_s_cons
  (s_asgAttr W.ok (snd_lst snds_nil) (vN E (nx0 W) (.inl (sc_kind hs (by kernel_rfl))) db0) rfl) (snds_s_cons
  (s_asgAttr W.ok (vN E (nx19 W) (.inl (sc_kind hs (by kernel_rfl))) db19) (vN E (nx0 W) (.inl (sc_kind hs (by kernel_rfl))) db0) rfl) snds_s_nil))))
noncomputable abbrev bd_Leaf_is_leaf : List Stmt := stBody (inAt 10 1)
noncomputable abbrev sc_Leaf_is_leaf : Scope := stScope (inAt 10 1)
noncomputable def ir_Leaf_is_leaf : Ss := (.cons
  (.ret (.lit (.bool true))) .nil)
theorem ok_Leaf_is_leaf (W : Wd c) (hs : env.scope = sc_Leaf_is_leaf) (E : EnvOk env) : SndSs c (n + 1) env bd_Leaf_is_leaf ir_Leaf_is_leaf :=
  (snds_s_cons
  (s_ret (snd_lit (.inr (.inl ⟨_, rfl, rfl⟩)))) snds_s_nil)
noncomputable abbrev bd_postorder : List Stmt := stBody (topAt 11)
noncomputable abbrev sc_postorder : Scope := stScope (topAt 11)
noncomputable def ir_postorder : Ss := (.cons
  (.asg 7 (.lst .nil)) (.cons
  (.asg 21 (.lst (.cons (.var 20) .nil))) (.cons
  (.whl (.cmp .NotEq (.var 21) (.lst .nil)) (.cons
    (.asg 18 (.pop (.var 21))) (.cons
    (.expr (.append (.var 7) (.var 18))) (.cons
    (.for (.one 22) (.attr (.var 18) "children") (.cons
      (.expr (.append (.var 21) (.var 22))) .nil)) .nil)))) (.cons
  (.ret (.rev (.var 7))) .nil))))
theorem ok_postorder (W : Wd c) (hs : env.scope = sc_postorder) (E : EnvOk env) : SndSs c (n + 1) env bd_postorder ir_postorder :=
  (snds_s_cons
  (s_asg W.ok E (snd_lst snds_nil) (nx7 W) (.inl (sc_kind hs (by kernel_rfl))) rfl) (snds_s_cons
  (s_asg W.ok E (snd_lst (snds_cons (vN E (nx20 W) (.inl (sc_kind hs (by kernel_rfl))) db20) snds_nil (starEach_plain _ rfl))) (nx21 W) (.inl (sc_kind hs (by kernel_rfl))) rfl) (snds_s_cons
  (s_whl (sndB_cmp W.ok (vN E (nx21 W) (.inl (sc_kind hs (by kernel_rfl))) db21) (snd_lst snds_nil) rfl) (snds_s_cons
    (s_asg W.ok E (snd_pop ⟨_, rfl⟩ (vN E (nx21 W) (.inl (sc_kind hs (by kernel_rfl))) db21)) (nx18 W) (.inl (sc_kind hs (by kernel_rfl))) rfl) (snds_s_cons
    (s_expr (snd_append ⟨_, rfl⟩ (vN E (nx7 W) (.inl (sc_kind hs (by kernel_rfl))) db7) (vN E (nx18 W) (.inl (sc_kind hs (by kernel_rfl))) db18) rfl) (int_false E) rfl) (snds_s_cons
    (s_for W.ok E (.one (nx22 W) (.inl (sc_kind hs (by kernel_rfl)))) (snd_attr W.ok rfl (vN E (nx18 W) (.inl (sc_kind hs (by kernel_rfl))) db18)) (snds_s_cons
      (s_expr (snd_append ⟨_, rfl⟩ (vN E (nx21 W) (.inl (sc_kind hs (by kernel_rfl))) db21) (vN E (nx22 W) (.inl (sc_kind hs (by kernel_rfl))) db22) rfl) (int_false E) rfl) snds_s_nil) (fun zz => rfl)) snds_s_nil)))) (snds_s_cons
  (s_ret (snd_rev (vN E (nx7 W) (.inl (sc_kind hs (by kernel_rfl))) db7))) snds_s_nil))))
noncomputable abbrev bd_unit_order : List Stmt := stBody (topAt 13)
noncomputable abbrev sc_unit_order : Scope := stScope (topAt 13)
noncomputable def ir_unit_order : Ss := (.cons
  (.asg 23 (.call (.glob "nullable" (.fn (.ref 109))) (.cons (.var 5) .nil))) (.cons
  (.asg 24 (.dct 0 .nil)) (.cons
  (.for (.one 13) (.range2 (.attr (.var 5) "terminal_count") (.meth (.var 5) "symbol_count" .nil)) (.cons
    (.asgSub (.var 24) (.var 13) (.dct 0 .nil)) .nil)) (.cons
  (.for (.one 11) (.attr (.var 5) "rules") (.cons
    (.asg 27 (.compIf (.var 13) 13 (.attr (.var 11) "right") (.not (.sub (.var 23) (.var 13))))) (.cons
    (.for (.one 13) (.attr (.var 11) "right") (.cons
      (.asg 29 (.ite (.sub (.var 23) (.var 13)) (.len (.var 27)) (.bin .Sub (.len (.var 27)) (.lit (.int 1))))) (.cons
      (.iff (.and (.cmp .Eq (.var 29) (.lit (.int 0))) (.not (.meth (.var 5) "is_terminal" (.cons (.var 13) .nil)))) (.cons
        (.asgSub (.sub (.var 24) (.attr (.var 11) "left")) (.var 13) (.lit (.bool true))) .nil) .nil) .nil))) .nil))) (.cons
  (.asg 25 (.lst .nil)) (.cons
  (.asg 26 (.dct 0 .nil)) (.cons
  (.whl (.cmp .Lt (.len (.var 25)) (.len (.var 24))) (.cons
    (.asg 28 (.len (.var 25))) (.cons
    (.for (.one 13) (.var 24) (.cons
      (.iff (.and (.cmp .NotIn (.var 13) (.var 26)) (.cmp .Eq (.compIf (.var 30) 30 (.sub (.var 24) (.var 13)) (.cmp .NotIn (.var 30) (.var 26))) (.lst .nil))) (.cons
        (.asgSub (.var 26) (.var 13) (.lit (.bool true))) (.cons
        (.expr (.append (.var 25) (.var 13))) .nil)) .nil) .nil)) (.cons
    (.iff (.cmp .Eq (.len (.var 25)) (.var 28)) (.cons
      .bad .nil) .nil) .nil)))) (.cons
  (.ret (.var 25)) .nil))))))))
theorem ok_unit_order (W : Wd c) (hs : env.scope = sc_unit_order) (E : EnvOk env) : SndSs c (n + 1) env bd_unit_order ir_unit_order :=
  (snds_s_cons
  (s_asg W.ok E (snd_call W.ok E (bn W (sc_kind hs (by kernel_rfl)) gm_nullable gd_nullable) rfl nmx (snds_cons (vN E (nx5 W) (.inl (sc_kind hs (by kernel_rfl))) db5) snds_nil (starEach_plain _ rfl))) (nx23 W) (.inr (sc_kind hs (by kernel_rfl))) rfl) (snds_s_cons
  (s_asg W.ok E snd_dct0 (nx24 W) (.inl (sc_kind hs (by kernel_rfl))) rfl) (snds_s_cons
  (s_for W.ok E (.one (nx13 W) (.inl (sc_kind hs (by kernel_rfl)))) (tRange2 W E (bn W (sc_kind hs (by kernel_rfl)) gm_range gd_range) rfl rfl (snd_attr W.ok rfl (vN E (nx5 W) (.inl (sc_kind hs (by kernel_rfl))) db5)) (snd_meth W.ok ⟨_, rfl⟩ (vN E (nx5 W) (.inl (sc_kind hs (by kernel_rfl))) db5) rfl (fun zz => rfl) snds_nil)) (snds_s_cons
    (s_asgSub W.ok snd_dct0 (vN E (nx24 W) (.inl (sc_kind hs (by kernel_rfl))) db24) (vN E (nx13 W) (.inl (sc_kind hs (by kernel_rfl))) db13) rfl) snds_s_nil) (fun zz => rfl)) (snds_s_cons
  (s_for W.ok E (.one (nx11 W) (.inl (sc_kind hs (by kernel_rfl)))) (snd_attr W.ok rfl (vN E (nx5 W) (.inl (sc_kind hs (by kernel_rfl))) db5)) (snds_s_cons
    (tsCompIf W E hs (by kernel_rfl) (nx13 W) (fun zz => rfl) (snd_attr W.ok rfl (vN E (nx11 W) (.inl (sc_kind hs (by kernel_rfl))) db11)) (nx27 W) (sc_kind hs (by kernel_rfl)) rfl (by kernel_rfl) (fun zz zz E1 => (vN E1 (nx13 W) (.inl (relabel_kind (by kernel_rfl) (by decide))) db13)) (fun zz zz E1 => (sndB_not (sndB_val (snd_sub W.ok (vN E1 (nx23 W) (.inr (relabel_free (by kernel_rfl))) db23) (vN E1 (nx13 W) (.inl (relabel_kind (by kernel_rfl) (by decide))) db13)) rfl)))) (snds_s_cons
    (s_for W.ok E (.one (nx13 W) (.inl (sc_kind hs (by kernel_rfl)))) (snd_attr W.ok rfl (vN E (nx11 W) (.inl (sc_kind hs (by kernel_rfl))) db11)) (snds_s_cons
      (s_asg W.ok E (snd_ite (sndB_val (snd_sub W.ok (vN E (nx23 W) (.inr (.inl (sc_kind hs (by kernel_rfl)))) db23) (vN E (nx13 W) (.inl (sc_kind hs (by kernel_rfl))) db13)) rfl) (tLen W E (bn W (sc_kind hs (by kernel_rfl)) gm_len gd_len) rfl (vN E (nx27 W) (.inl (sc_kind hs (by kernel_rfl))) db27)) (snd_bin (tLen W E (bn W (sc_kind hs (by kernel_rfl)) gm_len gd_len) rfl (vN E (nx27 W) (.inl (sc_kind hs (by kernel_rfl))) db27)) (snd_lit (.inr (.inr (.inl ⟨_, rfl, rfl⟩)))))) (nx29 W) (.inl (sc_kind hs (by kernel_rfl))) rfl) (snds_s_cons
      (s_iff (sndB_and (sndB_cmp W.ok (vN E (nx29 W) (.inl (sc_kind hs (by kernel_rfl))) db29) (snd_lit (.inr (.inr (.inl ⟨_, rfl, rfl⟩)))) rfl) (sndB_not (sndB_val (snd_meth W.ok ⟨_, rfl⟩ (vN E (nx5 W) (.inl (sc_kind hs (by kernel_rfl))) db5) rfl nmx (snds_cons (vN E (nx13 W) (.inl (sc_kind hs (by kernel_rfl))) db13) snds_nil (starEach_plain _ rfl))) rfl))) (snds_s_cons
        (s_asgSub W.ok (snd_lit (.inr (.inl ⟨_, rfl, rfl⟩))) (snd_sub W.ok (vN E (nx24 W) (.inl (sc_kind hs (by kernel_rfl))) db24) (snd_attr W.ok rfl (vN E (nx11 W) (.inl (sc_kind hs (by kernel_rfl))) db11))) (vN E (nx13 W) (.inl (sc_kind hs (by kernel_rfl))) db13) rfl) snds_s_nil) snds_s_nil) snds_s_nil)) (fun zz => rfl)) snds_s_nil)) (fun zz => rfl)) (snds_s_cons
  (s_asg W.ok E (snd_lst snds_nil) (nx25 W) (.inl (sc_kind hs (by kernel_rfl))) rfl) (snds_s_cons
  (s_asg W.ok E snd_dct0 (nx26 W) (.inr (sc_kind hs (by kernel_rfl))) rfl) (snds_s_cons
  (s_whl (sndB_cmp W.ok (tLen W E (bn W (sc_kind hs (by kernel_rfl)) gm_len gd_len) rfl (vN E (nx25 W) (.inl (sc_kind hs (by kernel_rfl))) db25)) (tLen W E (bn W (sc_kind hs (by kernel_rfl)) gm_len gd_len) rfl (vN E (nx24 W) (.inl (sc_kind hs (by kernel_rfl))) db24)) rfl) (snds_s_cons
    (s_asg W.ok E (tLen W E (bn W (sc_kind hs (by kernel_rfl)) gm_len gd_len) rfl (vN E (nx25 W) (.inl (sc_kind hs (by kernel_rfl))) db25)) (nx28 W) (.inl (sc_kind hs (by kernel_rfl))) rfl) (snds_s_cons
    (s_for W.ok E (.one (nx13 W) (.inl (sc_kind hs (by kernel_rfl)))) (vN E (nx24 W) (.inl (sc_kind hs (by kernel_rfl))) db24) (snds_s_cons
      (s_iff (sndB_and (sndB_cmp W.ok (vN E (nx13 W) (.inl (sc_kind hs (by kernel_rfl))) db13) (vN E (nx26 W) (.inr (.inl (sc_kind hs (by kernel_rfl)))) db26) rfl) (sndB_cmp W.ok (tCompIf W E hs (by kernel_rfl) (nx30 W) (fun zz => rfl) (snd_sub W.ok (vN E (nx24 W) (.inl (sc_kind hs (by kernel_rfl))) db24) (vN E (nx13 W) (.inl (sc_kind hs (by kernel_rfl))) db13)) (fun zz zz E1 => (vN E1 (nx30 W) (.inl (relabel_kind (by kernel_rfl) (by decide))) db30)) (fun zz zz E1 => (sndB_cmp W.ok (vN E1 (nx30 W) (.inl (relabel_kind (by kernel_rfl) (by decide))) db30) (vN E1 (nx26 W) (.inr (relabel_free (by kernel_rfl))) db26) rfl))) (snd_lst snds_nil) rfl)) (snds_s_cons
        (s_asgSub W.ok (snd_lit (.inr (.inl ⟨_, rfl, rfl⟩))) (vN E (nx26 W) (.inr (.inl (sc_kind hs (by kernel_rfl)))) db26) (vN E (nx13 W) (.inl (sc_kind hs (by kernel_rfl))) db13) rfl) (snds_s_cons
        (s_expr (snd_append ⟨_, rfl⟩ (vN E (nx25 W) (.inl (sc_kind hs (by kernel_rfl))) db25) (vN E (nx13 W) (.inl (sc_kind hs (by kernel_rfl))) db13) rfl) (int_false E) rfl) snds_s_nil)) snds_s_nil) snds_s_nil) (fun zz => rfl)) (snds_s_cons
    (s_iff (sndB_cmp W.ok (tLen W E (bn W (sc_kind hs (by kernel_rfl)) gm_len gd_len) rfl (vN E (nx25 W) (.inl (sc_kind hs (by kernel_rfl))) db25)) (vN E (nx28 W) (.inl (sc_kind hs (by kernel_rfl))) db28) rfl) (snds_s_cons
      s_bad snds_s_nil) snds_s_nil) snds_s_nil)))) (snds_s_cons
  (s_ret (vN E (nx25 W) (.inl (sc_kind hs (by kernel_rfl))) db25)) snds_s_nil))))))))
noncomputable abbrev bd_ways : List Stmt := stBody (topAt 14)
noncomputable abbrev sc_ways : Scope := stScope (topAt 14)
noncomputable def ir_ways : Ss := (.cons
  (.asg 36 (.dct 0 (.cons (.var 33) (.cons (.lit (.int 1)) .nil)))) (.cons
  (.for (.one 13) (.var 31) (.cons
    (.asg 37 (.dct 0 .nil)) (.cons
    (.for (.one 38) (.var 36) (.cons
      (.iff (.and (.cmp .Lt (.var 38) (.var 34)) (.cmp .Eq (.sub (.var 32) (.var 38)) (.var 13))) (.cons
        (.asgSub (.var 37) (.bin .Add (.var 38) (.lit (.int 1))) (.bin .Add (.get (.var 37) (.bin .Add (.var 38) (.lit (.int 1))) (.lit (.int 0))) (.sub (.var 36) (.var 38)))) .nil) .nil) (.cons
      (.for (.one 39) (.range2 (.var 38) (.bin .Add (.var 34) (.lit (.int 1)))) (.cons
        (.asg 28 (.get (.var 35) (.tup (.cons (.var 13) (.cons (.var 38) (.cons (.var 39) .nil)))) (.lit (.int 0)))) (.cons
        (.iff (.cmp .Gt (.var 28) (.lit (.int 0))) (.cons
          (.asgSub (.var 37) (.var 39) (.bin .Add (.get (.var 37) (.var 39) (.lit (.int 0))) (.bin .Mult (.sub (.var 36) (.var 38)) (.var 28)))) .nil) .nil) .nil))) .nil))) (.cons
    (.asg 36 (.var 37)) .nil)))) (.cons
  (.ret (.get (.var 36) (.var 34) (.lit (.int 0)))) .nil)))
theorem ok_ways (W : Wd c) (hs : env.scope = sc_ways) (E : EnvOk env) : SndSs c (n + 1) env bd_ways ir_ways :=
  (snds_s_cons
  (s_asg W.ok E (snd_dct rfl rfl nmx (Nat.le_of_ble_eq_true rfl) (by decide) (psnd_cons (vN E (nx33 W) (.inl (sc_kind hs (by kernel_rfl))) db33) (snd_lit (.inr (.inr (.inl ⟨_, rfl, rfl⟩)))) psnd_nil)) (nx36 W) (.inl (sc_kind hs (by kernel_rfl))) rfl) (snds_s_cons
  (s_for W.ok E (.one (nx13 W) (.inl (sc_kind hs (by kernel_rfl)))) (vN E (nx31 W) (.inl (sc_kind hs (by kernel_rfl))) db31) (snds_s_cons
    (s_asg W.ok E snd_dct0 (nx37 W) (.inl (sc_kind hs (by kernel_rfl))) rfl) (snds_s_cons
    (s_for W.ok E (.one (nx38 W) (.inl (sc_kind hs (by kernel_rfl)))) (vN E (nx36 W) (.inl (sc_kind hs (by kernel_rfl))) db36) (snds_s_cons
      (s_iff (sndB_and (sndB_cmp W.ok (vN E (nx38 W) (.inl (sc_kind hs (by kernel_rfl))) db38) (vN E (nx34 W) (.inl (sc_kind hs (by kernel_rfl))) db34) rfl) (sndB_cmp W.ok (snd_sub W.ok (vN E (nx32 W) (.inl (sc_kind hs (by kernel_rfl))) db32) (vN E (nx38 W) (.inl (sc_kind hs (by kernel_rfl))) db38)) (vN E (nx13 W) (.inl (sc_kind hs (by kernel_rfl))) db13) rfl)) (snds_s_cons
        (s_asgSub W.ok (snd_bin (snd_get W.ok ⟨_, rfl⟩ (vN E (nx37 W) (.inl (sc_kind hs (by kernel_rfl))) db37) (snd_bin (vN E (nx38 W) (.inl (sc_kind hs (by kernel_rfl))) db38) (snd_lit (.inr (.inr (.inl ⟨_, rfl, rfl⟩))))) (snd_lit (.inr (.inr (.inl ⟨_, rfl, rfl⟩)))) rfl rfl) (snd_sub W.ok (vN E (nx36 W) (.inl (sc_kind hs (by kernel_rfl))) db36) (vN E (nx38 W) (.inl (sc_kind hs (by kernel_rfl))) db38))) (vN E (nx37 W) (.inl (sc_kind hs (by kernel_rfl))) db37) (snd_bin (vN E (nx38 W) (.inl (sc_kind hs (by kernel_rfl))) db38) (snd_lit (.inr (.inr (.inl ⟨_, rfl, rfl⟩))))) rfl) snds_s_nil) snds_s_nil) (snds_s_cons
      (s_for W.ok E (.one (nx39 W) (.inl (sc_kind hs (by kernel_rfl)))) (tRange2 W E (bn W (sc_kind hs (by kernel_rfl)) gm_range gd_range) rfl rfl (vN E (nx38 W) (.inl (sc_kind hs (by kernel_rfl))) db38) (snd_bin (vN E (nx34 W) (.inl (sc_kind hs (by kernel_rfl))) db34) (snd_lit (.inr (.inr (.inl ⟨_, rfl, rfl⟩)))))) (snds_s_cons
        (s_asg W.ok E (snd_get W.ok ⟨_, rfl⟩ (vN E (nx35 W) (.inl (sc_kind hs (by kernel_rfl))) db35) (snd_tup (snds_cons (vN E (nx13 W) (.inl (sc_kind hs (by kernel_rfl))) db13) (snds_cons (vN E (nx38 W) (.inl (sc_kind hs (by kernel_rfl))) db38) (snds_cons (vN E (nx39 W) (.inl (sc_kind hs (by kernel_rfl))) db39) snds_nil (starEach_plain _ rfl)) (starEach_plain _ rfl)) (starEach_plain _ rfl))) (snd_lit (.inr (.inr (.inl ⟨_, rfl, rfl⟩)))) rfl rfl) (nx28 W) (.inl (sc_kind hs (by kernel_rfl))) rfl) (snds_s_cons
        (s_iff (sndB_cmp W.ok (vN E (nx28 W) (.inl (sc_kind hs (by kernel_rfl))) db28) (snd_lit (.inr (.inr (.inl ⟨_, rfl, rfl⟩)))) rfl) (snds_s_cons
          (s_asgSub W.ok (snd_bin (snd_get W.ok ⟨_, rfl⟩ (vN E (nx37 W) (.inl (sc_kind hs (by kernel_rfl))) db37) (vN E (nx39 W) (.inl (sc_kind hs (by kernel_rfl))) db39) (snd_lit (.inr (.inr (.inl ⟨_, rfl, rfl⟩)))) rfl rfl) (snd_bin (snd_sub W.ok (vN E (nx36 W) (.inl (sc_kind hs (by kernel_rfl))) db36) (vN E (nx38 W) (.inl (sc_kind hs (by kernel_rfl))) db38)) (vN E (nx28 W) (.inl (sc_kind hs (by kernel_rfl))) db28))) (vN E (nx37 W) (.inl (sc_kind hs (by kernel_rfl))) db37) (vN E (nx39 W) (.inl (sc_kind hs (by kernel_rfl))) db39) rfl) snds_s_nil) snds_s_nil) snds_s_nil)) (fun zz => rfl)) snds_s_nil)) (fun zz => rfl)) (snds_s_cons
    (s_asg W.ok E (vN E (nx37 W) (.inl (sc_kind hs (by kernel_rfl))) db37) (nx36 W) (.inl (sc_kind hs (by kernel_rfl))) rfl) snds_s_nil))) (fun zz => rfl)) (snds_s_cons
  (s_ret (snd_get W.ok ⟨_, rfl⟩ (vN E (nx36 W) (.inl (sc_kind hs (by kernel_rfl))) db36) (vN E (nx34 W) (.inl (sc_kind hs (by kernel_rfl))) db34) (snd_lit (.inr (.inr (.inl ⟨_, rfl, rfl⟩)))) rfl rfl)) snds_s_nil)))
noncomputable abbrev bd_count_trees : List Stmt := stBody (topAt 15)
noncomputable abbrev sc_count_trees : Scope := stScope (topAt 15)
noncomputable def ir_count_trees : Ss := (.cons
  (.asg 25 (.call (.glob "unit_order" (.fn (.ref 220))) (.cons (.var 5) .nil))) (.cons
  (.asg 35 (.dct 2 .nil)) (.cons
  (.for (.one 40) (.range1 (.bin .Add (.len (.var 32)) (.lit (.int 1)))) (.cons
    (.for (.one 33) (.range1 (.bin .Sub (.bin .Add (.len (.var 32)) (.lit (.int 1))) (.var 40))) (.cons
      (.for (.one 13) (.var 25) (.cons
        (.asg 28 (.lit (.int 0))) (.cons
        (.for (.one 11) (.meth (.var 5) "rules_of" (.cons (.var 13) .nil)) (.cons
          (.asg 28 (.bin .Add (.var 28) (.call (.glob "ways" (.fn (.ref 227))) (.cons (.attr (.sub (.attr (.var 5) "rules") (.var 11)) "right") (.cons (.var 32) (.cons (.var 33) (.cons (.bin .Add (.var 33) (.var 40)) (.cons (.var 35) .nil)))))))) .nil)) (.cons
        (.iff (.cmp .Gt (.var 28) (.lit (.int 0))) (.cons
          (.asgSub (.var 35) (.tup (.cons (.var 13) (.cons (.var 33) (.cons (.bin .Add (.var 33) (.var 40)) .nil)))) (.var 28)) .nil) .nil) .nil)))) .nil)) .nil)) (.cons
  (.ret (.get (.var 35) (.tup (.cons (.sub (.attr (.sub (.attr (.var 5) "rules") (.lit (.int 0))) "right") (.lit (.int 0))) (.cons (.lit (.int 0)) (.cons (.len (.var 32)) .nil)))) (.lit (.int 0)))) .nil))))
theorem ok_count_trees (W : Wd c) (hs : env.scope = sc_count_trees) (E : EnvOk env) : SndSs c (n + 1) env bd_count_trees ir_count_trees :=
  (snds_s_cons
  (s_asg W.ok E (snd_call W.ok E (bn W (sc_kind hs (by kernel_rfl)) gm_unit_order gd_unit_order) rfl nmx (snds_cons (vN E (nx5 W) (.inl (sc_kind hs (by kernel_rfl))) db5) snds_nil (starEach_plain _ rfl))) (nx25 W) (.inl (sc_kind hs (by kernel_rfl))) rfl) (snds_s_cons
  (s_asg W.ok E snd_dct0 (nx35 W) (.inl (sc_kind hs (by kernel_rfl))) rfl) (snds_s_cons
  (s_for W.ok E (.one (nx40 W) (.inl (sc_kind hs (by kernel_rfl)))) (tRange1 W E (bn W (sc_kind hs (by kernel_rfl)) gm_range gd_range) rfl (snd_bin (tLen W E (bn W (sc_kind hs (by kernel_rfl)) gm_len gd_len) rfl (vN E (nx32 W) (.inl (sc_kind hs (by kernel_rfl))) db32)) (snd_lit (.inr (.inr (.inl ⟨_, rfl, rfl⟩)))))) (snds_s_cons
    (s_for W.ok E (.one (nx33 W) (.inl (sc_kind hs (by kernel_rfl)))) (tRange1 W E (bn W (sc_kind hs (by kernel_rfl)) gm_range gd_range) rfl (snd_bin (snd_bin (tLen W E (bn W (sc_kind hs (by kernel_rfl)) gm_len gd_len) rfl (vN E (nx32 W) (.inl (sc_kind hs (by kernel_rfl))) db32)) (snd_lit (.inr (.inr (.inl ⟨_, rfl, rfl⟩))))) (vN E (nx40 W) (.inl (sc_kind hs (by kernel_rfl))) db40))) (snds_s_cons
      (s_for W.ok E (.one (nx13 W) (.inl (sc_kind hs (by kernel_rfl)))) (vN E (nx25 W) (.inl (sc_kind hs (by kernel_rfl))) db25) (snds_s_cons
        (s_asg W.ok E (snd_lit (.inr (.inr (.inl ⟨_, rfl, rfl⟩)))) (nx28 W) (.inl (sc_kind hs (by kernel_rfl))) rfl) (snds_s_cons
        (s_for W.ok E (.one (nx11 W) (.inl (sc_kind hs (by kernel_rfl)))) (snd_meth W.ok ⟨_, rfl⟩ (vN E (nx5 W) (.inl (sc_kind hs (by kernel_rfl))) db5) rfl nmx (snds_cons (vN E (nx13 W) (.inl (sc_kind hs (by kernel_rfl))) db13) snds_nil (starEach_plain _ rfl))) (snds_s_cons
          (s_asg W.ok E (snd_bin (vN E (nx28 W) (.inl (sc_kind hs (by kernel_rfl))) db28) (snd_call W.ok E (bn W (sc_kind hs (by kernel_rfl)) gm_ways gd_ways) rfl nmx (snds_cons (snd_attr W.ok rfl (snd_sub W.ok (snd_attr W.ok rfl (vN E (nx5 W) (.inl (sc_kind hs (by kernel_rfl))) db5)) (vN E (nx11 W) (.inl (sc_kind hs (by kernel_rfl))) db11))) (snds_cons (vN E (nx32 W) (.inl (sc_kind hs (by kernel_rfl))) db32) (snds_cons (vN E (nx33 W) (.inl (sc_kind hs (by kernel_rfl))) db33) (snds_cons (snd_bin (vN E (nx33 W) (.inl (sc_kind hs (by kernel_rfl))) db33) (vN E (nx40 W) (.inl (sc_kind hs (by kernel_rfl))) db40)) (snds_cons (vN E (nx35 W) (.inl (sc_kind hs (by kernel_rfl))) db35) snds_nil (starEach_plain _ rfl)) (starEach_plain _ rfl)) (starEach_plain _ rfl)) (starEach_plain _ rfl)) (starEach_plain _ rfl)))) (nx28 W) (.inl (sc_kind hs (by kernel_rfl))) rfl) snds_s_nil) (fun zz => rfl)) (snds_s_cons
        (s_iff (sndB_cmp W.ok (vN E (nx28 W) (.inl (sc_kind hs (by kernel_rfl))) db28) (snd_lit (.inr (.inr (.inl ⟨_, rfl, rfl⟩)))) rfl) (snds_s_cons
          (s_asgSub W.ok (vN E (nx28 W) (.inl (sc_kind hs (by kernel_rfl))) db28) (vN E (nx35 W) (.inl (sc_kind hs (by kernel_rfl))) db35) (snd_tup (snds_cons (vN E (nx13 W) (.inl (sc_kind hs (by kernel_rfl))) db13) (snds_cons (vN E (nx33 W) (.inl (sc_kind hs (by kernel_rfl))) db33) (snds_cons (snd_bin (vN E (nx33 W) (.inl (sc_kind hs (by kernel_rfl))) db33) (vN E (nx40 W) (.inl (sc_kind hs (by kernel_rfl))) db40)) snds_nil (starEach_plain _ rfl)) (starEach_plain _ rfl)) (starEach_plain _ rfl))) rfl) snds_s_nil) snds_s_nil) snds_s_nil))) (fun zz => rfl)) snds_s_nil) (fun zz => rfl)) snds_s_nil) (fun zz => rfl)) (snds_s_cons
  (s_ret (snd_get W.ok ⟨_, rfl⟩ (vN E (nx35 W) (.inl (sc_kind hs (by kernel_rfl))) db35) (snd_tup (snds_cons (snd_sub W.ok (snd_attr W.ok rfl (snd_sub W.ok (snd_attr W.ok rfl (vN E (nx5 W) (.inl (sc_kind hs (by kernel_rfl))) db5)) (snd_lit (.inr (.inr (.inl ⟨_, rfl, rfl⟩)))))) (snd_lit (.inr (.inr (.inl ⟨_, rfl, rfl⟩))))) (snds_cons (snd_lit (.inr (.inr (.inl ⟨_, rfl, rfl⟩)))) (snds_cons (tLen W E (bn W (sc_kind hs (by kernel_rfl)) gm_len gd_len) rfl (vN E (nx32 W) (.inl (sc_kind hs (by kernel_rfl))) db32)) snds_nil (starEach_plain _ rfl)) (starEach_plain _ rfl)) (starEach_plain _ rfl))) (snd_lit (.inr (.inr (.inl ⟨_, rfl, rfl⟩)))) rfl rfl)) snds_s_nil))))
noncomputable abbrev bd_rows_over : List Stmt := stBody (topAt 16)
noncomputable abbrev sc_rows_over : Scope := stScope (topAt 16)
noncomputable def ir_rows_over : Ss := (.cons
  (.asg 36 (.dct 0 (.cons (.var 33) (.cons (.lst (.cons (.tup .nil) .nil)) .nil)))) (.cons
  (.for (.one 13) (.var 31) (.cons
    (.asg 37 (.dct 0 .nil)) (.cons
    (.for (.one 38) (.sorted (.var 36)) (.cons
      (.asg 43 (.lst .nil)) (.cons
      (.iff (.and (.cmp .Lt (.var 38) (.var 34)) (.cmp .Eq (.sub (.var 32) (.var 38)) (.var 13))) (.cons
        (.asg 16 (.sub (.attr (.var 5) "names") (.var 13))) (.cons
        (.expr (.append (.var 43) (.tup (.cons (.bin .Add (.var 38) (.lit (.int 1))) (.cons (.lst (.cons (.call (.glob "Leaf" (.fn (.ref 206))) (.cons (.call (.glob "Token" (.fn (.ref 93))) (.cons (.var 16) (.cons (.var 16) (.cons (.lit .none) .nil)))) .nil)) .nil)) .nil))))) .nil)) .nil) (.cons
      (.for (.one 39) (.range2 (.var 38) (.bin .Add (.var 34) (.lit (.int 1)))) (.cons
        (.iff (.cmp .In (.tup (.cons (.var 13) (.cons (.var 38) (.cons (.var 39) .nil)))) (.var 41)) (.cons
          (.expr (.append (.var 43) (.tup (.cons (.var 39) (.cons (.sub (.var 41) (.tup (.cons (.var 13) (.cons (.var 38) (.cons (.var 39) .nil))))) .nil))))) .nil) .nil) .nil)) (.cons
      (.for (.two 39 44) (.var 43) (.cons
        (.asg 45 (.setd (.var 37) (.var 39) (.lst .nil))) (.cons
        (.for (.one 46) (.sub (.var 36) (.var 38)) (.cons
          (.for (.one 30) (.var 44) (.cons
            (.iff (.cmp .Lt (.len (.var 45)) (.var 42)) (.cons
              (.expr (.append (.var 45) (.bin .Add (.var 46) (.tup (.cons (.var 30) .nil))))) .nil) .nil) .nil)) .nil)) .nil))) .nil))))) (.cons
    (.asg 36 (.var 37)) .nil)))) (.cons
  (.ret (.get (.var 36) (.var 34) (.lst .nil))) .nil)))
theorem ok_rows_over (W : Wd c) (hs : env.scope = sc_rows_over) (E : EnvOk env) : SndSs c (n + 1) env bd_rows_over ir_rows_over :=
  (snds_s_cons
  (s_asg W.ok E (snd_dct rfl rfl nmx (Nat.le_of_ble_eq_true rfl) (by decide) (psnd_cons (vN E (nx33 W) (.inl (sc_kind hs (by kernel_rfl))) db33) (snd_lst (snds_cons (snd_tup snds_nil) snds_nil (starEach_plain _ rfl))) psnd_nil)) (nx36 W) (.inl (sc_kind hs (by kernel_rfl))) rfl) (snds_s_cons
  (s_for W.ok E (.one (nx13 W) (.inl (sc_kind hs (by kernel_rfl)))) (vN E (nx31 W) (.inl (sc_kind hs (by kernel_rfl))) db31) (snds_s_cons
    (s_asg W.ok E snd_dct0 (nx37 W) (.inl (sc_kind hs (by kernel_rfl))) rfl) (snds_s_cons
    (s_for W.ok E (.one (nx38 W) (.inl (sc_kind hs (by kernel_rfl)))) (tSorted W E (bn W (sc_kind hs (by kernel_rfl)) gm_sorted gd_sorted) rfl (vN E (nx36 W) (.inl (sc_kind hs (by kernel_rfl))) db36)) (snds_s_cons
      (s_asg W.ok E (snd_lst snds_nil) (nx43 W) (.inl (sc_kind hs (by kernel_rfl))) rfl) (snds_s_cons
      (s_iff (sndB_and (sndB_cmp W.ok (vN E (nx38 W) (.inl (sc_kind hs (by kernel_rfl))) db38) (vN E (nx34 W) (.inl (sc_kind hs (by kernel_rfl))) db34) rfl) (sndB_cmp W.ok (snd_sub W.ok (vN E (nx32 W) (.inl (sc_kind hs (by kernel_rfl))) db32) (vN E (nx38 W) (.inl (sc_kind hs (by kernel_rfl))) db38)) (vN E (nx13 W) (.inl (sc_kind hs (by kernel_rfl))) db13) rfl)) (snds_s_cons
        (s_asg W.ok E (snd_sub W.ok (snd_attr W.ok rfl (vN E (nx5 W) (.inl (sc_kind hs (by kernel_rfl))) db5)) (vN E (nx13 W) (.inl (sc_kind hs (by kernel_rfl))) db13)) (nx16 W) (.inl (sc_kind hs (by kernel_rfl))) rfl) (snds_s_cons
        (s_expr (snd_append ⟨_, rfl⟩ (vN E (nx43 W) (.inl (sc_kind hs (by kernel_rfl))) db43) (snd_tup (snds_cons (snd_bin (vN E (nx38 W) (.inl (sc_kind hs (by kernel_rfl))) db38) (snd_lit (.inr (.inr (.inl ⟨_, rfl, rfl⟩))))) (snds_cons (snd_lst (snds_cons (snd_call W.ok E (bn W (sc_kind hs (by kernel_rfl)) gm_Leaf gd_Leaf) rfl nmx (snds_cons (snd_call W.ok E (bn W (sc_kind hs (by kernel_rfl)) gm_Token gd_Token) rfl nmx (snds_cons (vN E (nx16 W) (.inl (sc_kind hs (by kernel_rfl))) db16) (snds_cons (vN E (nx16 W) (.inl (sc_kind hs (by kernel_rfl))) db16) (snds_cons (snd_lit (.inl ⟨rfl, rfl⟩)) snds_nil (starEach_plain _ rfl)) (starEach_plain _ rfl)) (starEach_plain _ rfl))) snds_nil (starEach_plain _ rfl))) snds_nil (starEach_plain _ rfl))) snds_nil (starEach_plain _ rfl)) (starEach_plain _ rfl))) rfl) (int_false E) rfl) snds_s_nil)) snds_s_nil) (snds_s_cons
      (s_for W.ok E (.one (nx39 W) (.inl (sc_kind hs (by kernel_rfl)))) (tRange2 W E (bn W (sc_kind hs (by kernel_rfl)) gm_range gd_range) rfl rfl (vN E (nx38 W) (.inl (sc_kind hs (by kernel_rfl))) db38) (snd_bin (vN E (nx34 W) (.inl (sc_kind hs (by kernel_rfl))) db34) (snd_lit (.inr (.inr (.inl ⟨_, rfl, rfl⟩)))))) (snds_s_cons
        (s_iff (sndB_cmp W.ok (snd_tup (snds_cons (vN E (nx13 W) (.inl (sc_kind hs (by kernel_rfl))) db13) (snds_cons (vN E (nx38 W) (.inl (sc_kind hs (by kernel_rfl))) db38) (snds_cons (vN E (nx39 W) (.inl (sc_kind hs (by kernel_rfl))) db39) snds_nil (starEach_plain _ rfl)) (starEach_plain _ rfl)) (starEach_plain _ rfl))) (vN E (nx41 W) (.inl (sc_kind hs (by kernel_rfl))) db41) rfl) (snds_s_cons
          (s_expr (snd_append ⟨_, rfl⟩ (vN E (nx43 W) (.inl (sc_kind hs (by kernel_rfl))) db43) (snd_tup (snds_cons (vN E (nx39 W) (.inl (sc_kind hs (by kernel_rfl))) db39) (snds_cons (snd_sub W.ok (vN E (nx41 W) (.inl (sc_kind hs (by kernel_rfl))) db41) (snd_tup (snds_cons (vN E (nx13 W) (.inl (sc_kind hs (by kernel_rfl))) db13) (snds_cons (vN E (nx38 W) (.inl (sc_kind hs (by kernel_rfl))) db38) (snds_cons (vN E (nx39 W) (.inl (sc_kind hs (by kernel_rfl))) db39) snds_nil (starEach_plain _ rfl)) (starEach_plain _ rfl)) (starEach_plain _ rfl)))) snds_nil (starEach_plain _ rfl)) (starEach_plain _ rfl))) rfl) (int_false E) rfl) snds_s_nil) snds_s_nil) snds_s_nil) (fun zz => rfl)) (snds_s_cons
      (s_for W.ok E (.two (nx39 W) (nx44 W) (.inl (sc_kind hs (by kernel_rfl))) (.inl (sc_kind hs (by kernel_rfl)))) (vN E (nx43 W) (.inl (sc_kind hs (by kernel_rfl))) db43) (snds_s_cons
        (s_asg W.ok E (snd_setd W.ok ⟨_, rfl⟩ (vN E (nx37 W) (.inl (sc_kind hs (by kernel_rfl))) db37) (vN E (nx39 W) (.inl (sc_kind hs (by kernel_rfl))) db39) (snd_lst snds_nil) rfl rfl) (nx45 W) (.inl (sc_kind hs (by kernel_rfl))) rfl) (snds_s_cons
        (s_for W.ok E (.one (nx46 W) (.inl (sc_kind hs (by kernel_rfl)))) (snd_sub W.ok (vN E (nx36 W) (.inl (sc_kind hs (by kernel_rfl))) db36) (vN E (nx38 W) (.inl (sc_kind hs (by kernel_rfl))) db38)) (snds_s_cons
          (s_for W.ok E (.one (nx30 W) (.inl (sc_kind hs (by kernel_rfl)))) (vN E (nx44 W) (.inl (sc_kind hs (by kernel_rfl))) db44) (snds_s_cons
            (s_iff (sndB_cmp W.ok (tLen W E (bn W (sc_kind hs (by kernel_rfl)) gm_len gd_len) rfl (vN E (nx45 W) (.inl (sc_kind hs (by kernel_rfl))) db45)) (vN E (nx42 W) (.inl (sc_kind hs (by kernel_rfl))) db42) rfl) (snds_s_cons
              (s_expr (snd_append ⟨_, rfl⟩ (vN E (nx45 W) (.inl (sc_kind hs (by kernel_rfl))) db45) (snd_bin (vN E (nx46 W) (.inl (sc_kind hs (by kernel_rfl))) db46) (snd_tup (snds_cons (vN E (nx30 W) (.inl (sc_kind hs (by kernel_rfl))) db30) snds_nil (starEach_plain _ rfl)))) rfl) (int_false E) rfl) snds_s_nil) snds_s_nil) snds_s_nil) (fun zz => rfl)) snds_s_nil) (fun zz => rfl)) snds_s_nil)) (fun zz => rfl)) snds_s_nil)))) (fun zz => rfl)) (snds_s_cons
    (s_asg W.ok E (vN E (nx37 W) (.inl (sc_kind hs (by kernel_rfl))) db37) (nx36 W) (.inl (sc_kind hs (by kernel_rfl))) rfl) snds_s_nil))) (fun zz => rfl)) (snds_s_cons
  (s_ret (snd_get W.ok ⟨_, rfl⟩ (vN E (nx36 W) (.inl (sc_kind hs (by kernel_rfl))) db36) (vN E (nx34 W) (.inl (sc_kind hs (by kernel_rfl))) db34) (snd_lst snds_nil) rfl rfl)) snds_s_nil)))
noncomputable abbrev bd_trees_of : List Stmt := stBody (topAt 17)
noncomputable abbrev sc_trees_of : Scope := stScope (topAt 17)
noncomputable def ir_trees_of : Ss := (.cons
  (.asg 25 (.call (.glob "unit_order" (.fn (.ref 220))) (.cons (.var 5) .nil))) (.cons
  (.asg 41 (.dct 2 .nil)) (.cons
  (.for (.one 40) (.range1 (.bin .Add (.len (.var 32)) (.lit (.int 1)))) (.cons
    (.for (.one 33) (.range1 (.bin .Sub (.bin .Add (.len (.var 32)) (.lit (.int 1))) (.var 40))) (.cons
      (.for (.one 13) (.var 25) (.cons
        (.asg 7 (.lst .nil)) (.cons
        (.for (.one 11) (.meth (.var 5) "rules_of" (.cons (.var 13) .nil)) (.cons
          (.asg 31 (.attr (.sub (.attr (.var 5) "rules") (.var 11)) "right")) (.cons
          (.for (.one 45) (.call (.glob "rows_over" (.fn (.ref 241))) (.cons (.var 5) (.cons (.var 31) (.cons (.var 32) (.cons (.var 33) (.cons (.bin .Add (.var 33) (.var 40)) (.cons (.var 41) (.cons (.var 42) .nil)))))))) (.cons
            (.expr (.append (.var 7) (.call (.glob "Tree" (.fn (.ref 171))) (.cons (.sub (.attr (.var 5) "names") (.var 13)) (.cons (.var 11) (.cons (.list (.var 45)) .nil)))))) .nil)) .nil))) (.cons
        (.iff (.cmp .NotEq (.var 7) (.lst .nil)) (.cons
          (.asgSub (.var 41) (.tup (.cons (.var 13) (.cons (.var 33) (.cons (.bin .Add (.var 33) (.var 40)) .nil)))) (.cutTo (.var 7) (.var 42))) .nil) .nil) .nil)))) .nil)) .nil)) (.cons
  (.ret (.get (.var 41) (.tup (.cons (.sub (.attr (.sub (.attr (.var 5) "rules") (.lit (.int 0))) "right") (.lit (.int 0))) (.cons (.lit (.int 0)) (.cons (.len (.var 32)) .nil)))) (.lst .nil))) .nil))))
theorem ok_trees_of (W : Wd c) (hs : env.scope = sc_trees_of) (E : EnvOk env) : SndSs c (n + 1) env bd_trees_of ir_trees_of :=
  (snds_s_cons
  (s_asg W.ok E (snd_call W.ok E (bn W (sc_kind hs (by kernel_rfl)) gm_unit_order gd_unit_order) rfl nmx (snds_cons (vN E (nx5 W) (.inl (sc_kind hs (by kernel_rfl))) db5) snds_nil (starEach_plain _ rfl))) (nx25 W) (.inl (sc_kind hs (by kernel_rfl))) rfl) (snds_s_cons
  (s_asg W.ok E snd_dct0 (nx41 W) (.inl (sc_kind hs (by kernel_rfl))) rfl) (snds_s_cons
  (s_for W.ok E (.one (nx40 W) (.inl (sc_kind hs (by kernel_rfl)))) (tRange1 W E (bn W (sc_kind hs (by kernel_rfl)) gm_range gd_range) rfl (snd_bin (tLen W E (bn W (sc_kind hs (by kernel_rfl)) gm_len gd_len) rfl (vN E (nx32 W) (.inl (sc_kind hs (by kernel_rfl))) db32)) (snd_lit (.inr (.inr (.inl ⟨_, rfl, rfl⟩)))))) (snds_s_cons
    (s_for W.ok E (.one (nx33 W) (.inl (sc_kind hs (by kernel_rfl)))) (tRange1 W E (bn W (sc_kind hs (by kernel_rfl)) gm_range gd_range) rfl (snd_bin (snd_bin (tLen W E (bn W (sc_kind hs (by kernel_rfl)) gm_len gd_len) rfl (vN E (nx32 W) (.inl (sc_kind hs (by kernel_rfl))) db32)) (snd_lit (.inr (.inr (.inl ⟨_, rfl, rfl⟩))))) (vN E (nx40 W) (.inl (sc_kind hs (by kernel_rfl))) db40))) (snds_s_cons
      (s_for W.ok E (.one (nx13 W) (.inl (sc_kind hs (by kernel_rfl)))) (vN E (nx25 W) (.inl (sc_kind hs (by kernel_rfl))) db25) (snds_s_cons
        (s_asg W.ok E (snd_lst snds_nil) (nx7 W) (.inl (sc_kind hs (by kernel_rfl))) rfl) (snds_s_cons
        (s_for W.ok E (.one (nx11 W) (.inl (sc_kind hs (by kernel_rfl)))) (snd_meth W.ok ⟨_, rfl⟩ (vN E (nx5 W) (.inl (sc_kind hs (by kernel_rfl))) db5) rfl nmx (snds_cons (vN E (nx13 W) (.inl (sc_kind hs (by kernel_rfl))) db13) snds_nil (starEach_plain _ rfl))) (snds_s_cons
          (s_asg W.ok E (snd_attr W.ok rfl (snd_sub W.ok (snd_attr W.ok rfl (vN E (nx5 W) (.inl (sc_kind hs (by kernel_rfl))) db5)) (vN E (nx11 W) (.inl (sc_kind hs (by kernel_rfl))) db11))) (nx31 W) (.inl (sc_kind hs (by kernel_rfl))) rfl) (snds_s_cons
          (s_for W.ok E (.one (nx45 W) (.inl (sc_kind hs (by kernel_rfl)))) (snd_call W.ok E (bn W (sc_kind hs (by kernel_rfl)) gm_rows_over gd_rows_over) rfl nmx (snds_cons (vN E (nx5 W) (.inl (sc_kind hs (by kernel_rfl))) db5) (snds_cons (vN E (nx31 W) (.inl (sc_kind hs (by kernel_rfl))) db31) (snds_cons (vN E (nx32 W) (.inl (sc_kind hs (by kernel_rfl))) db32) (snds_cons (vN E (nx33 W) (.inl (sc_kind hs (by kernel_rfl))) db33) (snds_cons (snd_bin (vN E (nx33 W) (.inl (sc_kind hs (by kernel_rfl))) db33) (vN E (nx40 W) (.inl (sc_kind hs (by kernel_rfl))) db40)) (snds_cons (vN E (nx41 W) (.inl (sc_kind hs (by kernel_rfl))) db41) (snds_cons (vN E (nx42 W) (.inl (sc_kind hs (by kernel_rfl))) db42) snds_nil (starEach_plain _ rfl)) (starEach_plain _ rfl)) (starEach_plain _ rfl)) (starEach_plain _ rfl)) (starEach_plain _ rfl)) (starEach_plain _ rfl)) (starEach_plain _ rfl))) (snds_s_cons
            (s_expr (snd_append ⟨_, rfl⟩ (vN E (nx7 W) (.inl (sc_kind hs (by kernel_rfl))) db7) (snd_call W.ok E (bn W (sc_kind hs (by kernel_rfl)) gm_Tree gd_Tree) rfl nmx (snds_cons (snd_sub W.ok (snd_attr W.ok rfl (vN E (nx5 W) (.inl (sc_kind hs (by kernel_rfl))) db5)) (vN E (nx13 W) (.inl (sc_kind hs (by kernel_rfl))) db13)) (snds_cons (vN E (nx11 W) (.inl (sc_kind hs (by kernel_rfl))) db11) (snds_cons (tList W E (bn W (sc_kind hs (by kernel_rfl)) gm_list gd_list) rfl (vN E (nx45 W) (.inl (sc_kind hs (by kernel_rfl))) db45)) snds_nil (starEach_plain _ rfl)) (starEach_plain _ rfl)) (starEach_plain _ rfl))) rfl) (int_false E) rfl) snds_s_nil) (fun zz => rfl)) snds_s_nil)) (fun zz => rfl)) (snds_s_cons
        (s_iff (sndB_cmp W.ok (vN E (nx7 W) (.inl (sc_kind hs (by kernel_rfl))) db7) (snd_lst snds_nil) rfl) (snds_s_cons
          (s_asgSub W.ok (snd_cutTo (vN E (nx7 W) (.inl (sc_kind hs (by kernel_rfl))) db7) (vN E (nx42 W) (.inl (sc_kind hs (by kernel_rfl))) db42)) (vN E (nx41 W) (.inl (sc_kind hs (by kernel_rfl))) db41) (snd_tup (snds_cons (vN E (nx13 W) (.inl (sc_kind hs (by kernel_rfl))) db13) (snds_cons (vN E (nx33 W) (.inl (sc_kind hs (by kernel_rfl))) db33) (snds_cons (snd_bin (vN E (nx33 W) (.inl (sc_kind hs (by kernel_rfl))) db33) (vN E (nx40 W) (.inl (sc_kind hs (by kernel_rfl))) db40)) snds_nil (starEach_plain _ rfl)) (starEach_plain _ rfl)) (starEach_plain _ rfl))) rfl) snds_s_nil) snds_s_nil) snds_s_nil))) (fun zz => rfl)) snds_s_nil) (fun zz => rfl)) snds_s_nil) (fun zz => rfl)) (snds_s_cons
  (s_ret (snd_get W.ok ⟨_, rfl⟩ (vN E (nx41 W) (.inl (sc_kind hs (by kernel_rfl))) db41) (snd_tup (snds_cons (snd_sub W.ok (snd_attr W.ok rfl (snd_sub W.ok (snd_attr W.ok rfl (vN E (nx5 W) (.inl (sc_kind hs (by kernel_rfl))) db5)) (snd_lit (.inr (.inr (.inl ⟨_, rfl, rfl⟩)))))) (snd_lit (.inr (.inr (.inl ⟨_, rfl, rfl⟩))))) (snds_cons (snd_lit (.inr (.inr (.inl ⟨_, rfl, rfl⟩)))) (snds_cons (tLen W E (bn W (sc_kind hs (by kernel_rfl)) gm_len gd_len) rfl (vN E (nx32 W) (.inl (sc_kind hs (by kernel_rfl))) db32)) snds_nil (starEach_plain _ rfl)) (starEach_plain _ rfl)) (starEach_plain _ rfl))) (snd_lst snds_nil) rfl rfl)) snds_s_nil))))
noncomputable abbrev bd_Rule_init : List Stmt := stBody (inAt 21 0)
noncomputable abbrev sc_Rule_init : Scope := stScope (inAt 21 0)
noncomputable def ir_Rule_init : Ss := (.cons
  (.asgAttr (.var 0) "number" (.var 14)) (.cons
  (.asgAttr (.var 0) "left" (.var 15)) (.cons
  (.asgAttr (.var 0) "right" (.var 31)) (.cons
  (.asgAttr (.var 0) "level_of" (.var 47)) (.cons
  (.asgAttr (.var 0) "action" (.var 48)) (.cons
  (.asgAttr (.var 0) "line" (.var 21)) (.cons
  (.asgAttr (.var 0) "before" (.var 49)) .nil)))))))
theorem ok_Rule_init (W : Wd c) (hs : env.scope = sc_Rule_init) (E : EnvOk env) : SndSs c (n + 1) env bd_Rule_init ir_Rule_init :=
  (snds_s_cons
  (s_asgAttr W.ok (vN E (nx14 W) (.inl (sc_kind hs (by kernel_rfl))) db14) (vN E (nx0 W) (.inl (sc_kind hs (by kernel_rfl))) db0) rfl) (snds_s_cons
  (s_asgAttr W.ok (vN E (nx15 W) (.inl (sc_kind hs (by kernel_rfl))) db15) (vN E (nx0 W) (.inl (sc_kind hs (by kernel_rfl))) db0) rfl) (snds_s_cons
  (s_asgAttr W.ok (vN E (nx31 W) (.inl (sc_kind hs (by kernel_rfl))) db31) (vN E (nx0 W) (.inl (sc_kind hs (by kernel_rfl))) db0) rfl) (snds_s_cons
  (s_asgAttr W.ok (vN E (nx47 W) (.inl (sc_kind hs (by kernel_rfl))) db47) (vN E (nx0 W) (.inl (sc_kind hs (by kernel_rfl))) db0) rfl) (snds_s_cons
  (s_asgAttr W.ok (vN E (nx48 W) (.inl (sc_kind hs (by kernel_rfl))) db48) (vN E (nx0 W) (.inl (sc_kind hs (by kernel_rfl))) db0) rfl) (snds_s_cons
  (s_asgAttr W.ok (vN E (nx21 W) (.inl (sc_kind hs (by kernel_rfl))) db21) (vN E (nx0 W) (.inl (sc_kind hs (by kernel_rfl))) db0) rfl) (snds_s_cons
  (s_asgAttr W.ok (vN E (nx49 W) (.inl (sc_kind hs (by kernel_rfl))) db49) (vN E (nx0 W) (.inl (sc_kind hs (by kernel_rfl))) db0) rfl) snds_s_nil)))))))
noncomputable abbrev bd_Grammar_init : List Stmt := stBody (inAt 22 0)
noncomputable abbrev sc_Grammar_init : Scope := stScope (inAt 22 0)
noncomputable def ir_Grammar_init : Ss := (.cons
  (.asgAttr (.var 0) "names" (.var 50)) (.cons
  (.asgAttr (.var 0) "terminal_count" (.var 51)) (.cons
  (.asgAttr (.var 0) "rules" (.var 52)) (.cons
  (.asgAttr (.var 0) "levels" (.var 53)) (.cons
  (.asgAttr (.var 0) "expect" (.var 54)) (.cons
  (.asgAttr (.var 0) "start" (.var 55)) (.cons
  (.asgAttr (.var 0) "by_left" (.comp (.lst .nil) 16 (.attr (.var 0) "names"))) (.cons
  (.asgAttr (.var 0) "offsets" (.lst .nil)) (.cons
  (.asgAttr (.var 0) "owners" (.lst .nil)) (.cons
  (.for (.one 11) (.attr (.var 0) "rules") (.cons
    (.expr (.append (.sub (.attr (.var 0) "by_left") (.attr (.var 11) "left")) (.attr (.var 11) "number"))) (.cons
    (.expr (.append (.attr (.var 0) "offsets") (.len (.attr (.var 0) "owners")))) (.cons
    (.expr (.extend (.attr (.var 0) "owners") (.bin .Mult (.lst (.cons (.attr (.var 11) "number") .nil)) (.bin .Add (.len (.attr (.var 11) "right")) (.lit (.int 1)))))) .nil)))) (.cons
  (.asgAttr (.var 0) "item_count" (.len (.attr (.var 0) "owners"))) .nil)))))))))))
theorem ok_Grammar_init (W : Wd c) (hs : env.scope = sc_Grammar_init) (E : EnvOk env) : SndSs c (n + 1) env bd_Grammar_init ir_Grammar_init :=
  (snds_s_cons
  (s_asgAttr W.ok (vN E (nx50 W) (.inl (sc_kind hs (by kernel_rfl))) db50) (vN E (nx0 W) (.inl (sc_kind hs (by kernel_rfl))) db0) rfl) (snds_s_cons
  (s_asgAttr W.ok (vN E (nx51 W) (.inl (sc_kind hs (by kernel_rfl))) db51) (vN E (nx0 W) (.inl (sc_kind hs (by kernel_rfl))) db0) rfl) (snds_s_cons
  (s_asgAttr W.ok (vN E (nx52 W) (.inl (sc_kind hs (by kernel_rfl))) db52) (vN E (nx0 W) (.inl (sc_kind hs (by kernel_rfl))) db0) rfl) (snds_s_cons
  (s_asgAttr W.ok (vN E (nx53 W) (.inl (sc_kind hs (by kernel_rfl))) db53) (vN E (nx0 W) (.inl (sc_kind hs (by kernel_rfl))) db0) rfl) (snds_s_cons
  (s_asgAttr W.ok (vN E (nx54 W) (.inl (sc_kind hs (by kernel_rfl))) db54) (vN E (nx0 W) (.inl (sc_kind hs (by kernel_rfl))) db0) rfl) (snds_s_cons
  (s_asgAttr W.ok (vN E (nx55 W) (.inl (sc_kind hs (by kernel_rfl))) db55) (vN E (nx0 W) (.inl (sc_kind hs (by kernel_rfl))) db0) rfl) (snds_s_cons
  (s_asgAttr W.ok (tComp W E hs (by kernel_rfl) (nx16 W) (fun zz => rfl) (snd_attr W.ok rfl (vN E (nx0 W) (.inl (sc_kind hs (by kernel_rfl))) db0)) (fun zz zz E1 => (snd_lst snds_nil))) (vN E (nx0 W) (.inl (sc_kind hs (by kernel_rfl))) db0) rfl) (snds_s_cons
  (s_asgAttr W.ok (snd_lst snds_nil) (vN E (nx0 W) (.inl (sc_kind hs (by kernel_rfl))) db0) rfl) (snds_s_cons
  (s_asgAttr W.ok (snd_lst snds_nil) (vN E (nx0 W) (.inl (sc_kind hs (by kernel_rfl))) db0) rfl) (snds_s_cons
  (s_for W.ok E (.one (nx11 W) (.inl (sc_kind hs (by kernel_rfl)))) (snd_attr W.ok rfl (vN E (nx0 W) (.inl (sc_kind hs (by kernel_rfl))) db0)) (snds_s_cons
    (s_expr (snd_append ⟨_, rfl⟩ (snd_sub W.ok (snd_attr W.ok rfl (vN E (nx0 W) (.inl (sc_kind hs (by kernel_rfl))) db0)) (snd_attr W.ok rfl (vN E (nx11 W) (.inl (sc_kind hs (by kernel_rfl))) db11))) (snd_attr W.ok rfl (vN E (nx11 W) (.inl (sc_kind hs (by kernel_rfl))) db11)) rfl) (int_false E) rfl) (snds_s_cons
    (s_expr (snd_append ⟨_, rfl⟩ (snd_attr W.ok rfl (vN E (nx0 W) (.inl (sc_kind hs (by kernel_rfl))) db0)) (tLen W E (bn W (sc_kind hs (by kernel_rfl)) gm_len gd_len) rfl (snd_attr W.ok rfl (vN E (nx0 W) (.inl (sc_kind hs (by kernel_rfl))) db0))) rfl) (int_false E) rfl) (snds_s_cons
    (s_expr (snd_extend ⟨_, rfl⟩ (snd_attr W.ok rfl (vN E (nx0 W) (.inl (sc_kind hs (by kernel_rfl))) db0)) (snd_bin (snd_lst (snds_cons (snd_attr W.ok rfl (vN E (nx11 W) (.inl (sc_kind hs (by kernel_rfl))) db11)) snds_nil (starEach_plain _ rfl))) (snd_bin (tLen W E (bn W (sc_kind hs (by kernel_rfl)) gm_len gd_len) rfl (snd_attr W.ok rfl (vN E (nx11 W) (.inl (sc_kind hs (by kernel_rfl))) db11))) (snd_lit (.inr (.inr (.inl ⟨_, rfl, rfl⟩)))))) rfl) (int_false E) rfl) snds_s_nil))) (fun zz => rfl)) (snds_s_cons
  (s_asgAttr W.ok (tLen W E (bn W (sc_kind hs (by kernel_rfl)) gm_len gd_len) rfl (snd_attr W.ok rfl (vN E (nx0 W) (.inl (sc_kind hs (by kernel_rfl))) db0))) (vN E (nx0 W) (.inl (sc_kind hs (by kernel_rfl))) db0) rfl) snds_s_nil)))))))))))
noncomputable abbrev bd_Grammar_symbol_count : List Stmt := stBody (inAt 22 1)
noncomputable abbrev sc_Grammar_symbol_count : Scope := stScope (inAt 22 1)
noncomputable def ir_Grammar_symbol_count : Ss := (.cons
  (.ret (.len (.attr (.var 0) "names"))) .nil)
theorem ok_Grammar_symbol_count (W : Wd c) (hs : env.scope = sc_Grammar_symbol_count) (E : EnvOk env) : SndSs c (n + 1) env bd_Grammar_symbol_count ir_Grammar_symbol_count :=
  (snds_s_cons
  (s_ret (tLen W E (bn W (sc_kind hs (by kernel_rfl)) gm_len gd_len) rfl (snd_attr W.ok rfl (vN E (nx0 W) (.inl (sc_kind hs (by kernel_rfl))) db0)))) snds_s_nil)
noncomputable abbrev bd_Grammar_is_terminal : List Stmt := stBody (inAt 22 2)
noncomputable abbrev sc_Grammar_is_terminal : Scope := stScope (inAt 22 2)
noncomputable def ir_Grammar_is_terminal : Ss := (.cons
  (.ret (.cmp .Lt (.var 13) (.attr (.var 0) "terminal_count"))) .nil)
theorem ok_Grammar_is_terminal (W : Wd c) (hs : env.scope = sc_Grammar_is_terminal) (E : EnvOk env) : SndSs c (n + 1) env bd_Grammar_is_terminal ir_Grammar_is_terminal :=
  (snds_s_cons
  (s_ret (snd_cmp W.ok (vN E (nx13 W) (.inl (sc_kind hs (by kernel_rfl))) db13) (snd_attr W.ok rfl (vN E (nx0 W) (.inl (sc_kind hs (by kernel_rfl))) db0)) rfl)) snds_s_nil)
noncomputable abbrev bd_Grammar_number : List Stmt := stBody (inAt 22 4)
noncomputable abbrev sc_Grammar_number : Scope := stScope (inAt 22 4)
noncomputable def ir_Grammar_number : Ss := (.cons
  (.ret (.ite (.cmp .In (.var 16) (.attr (.var 0) "names")) (.index (.attr (.var 0) "names") (.var 16)) (.neg 1))) .nil)
theorem ok_Grammar_number (W : Wd c) (hs : env.scope = sc_Grammar_number) (E : EnvOk env) : SndSs c (n + 1) env bd_Grammar_number ir_Grammar_number :=
  (snds_s_cons
  (s_ret (snd_ite (sndB_cmp W.ok (vN E (nx16 W) (.inl (sc_kind hs (by kernel_rfl))) db16) (snd_attr W.ok rfl (vN E (nx0 W) (.inl (sc_kind hs (by kernel_rfl))) db0)) rfl) (snd_index ⟨_, rfl⟩ (snd_attr W.ok rfl (vN E (nx0 W) (.inl (sc_kind hs (by kernel_rfl))) db0)) (vN E (nx16 W) (.inl (sc_kind hs (by kernel_rfl))) db16) rfl) snd_neg)) snds_s_nil)
noncomputable abbrev bd_Grammar_rules_of : List Stmt := stBody (inAt 22 5)
noncomputable abbrev sc_Grammar_rules_of : Scope := stScope (inAt 22 5)
noncomputable def ir_Grammar_rules_of : Ss := (.cons
  (.ret (.list (.sub (.attr (.var 0) "by_left") (.var 13)))) .nil)
theorem ok_Grammar_rules_of (W : Wd c) (hs : env.scope = sc_Grammar_rules_of) (E : EnvOk env) : SndSs c (n + 1) env bd_Grammar_rules_of ir_Grammar_rules_of :=
  (snds_s_cons
  (s_ret (tList W E (bn W (sc_kind hs (by kernel_rfl)) gm_list gd_list) rfl (snd_sub W.ok (snd_attr W.ok rfl (vN E (nx0 W) (.inl (sc_kind hs (by kernel_rfl))) db0)) (vN E (nx13 W) (.inl (sc_kind hs (by kernel_rfl))) db13)))) snds_s_nil)
noncomputable abbrev bd_last_terminal : List Stmt := stBody (topAt 23)
noncomputable abbrev sc_last_terminal : Scope := stScope (topAt 23)
noncomputable def ir_last_terminal : Ss := (.cons
  (.asg 7 (.neg 1)) (.cons
  (.for (.one 13) (.var 31) (.cons
    (.iff (.cmp .Lt (.var 13) (.var 51)) (.cons
      (.asg 7 (.var 13)) .nil) .nil) .nil)) (.cons
  (.ret (.var 7)) .nil)))
theorem ok_last_terminal (W : Wd c) (hs : env.scope = sc_last_terminal) (E : EnvOk env) : SndSs c (n + 1) env bd_last_terminal ir_last_terminal :=
  (snds_s_cons
  (s_asg W.ok E snd_neg (nx7 W) (.inl (sc_kind hs (by kernel_rfl))) rfl) (snds_s_cons
  (s_for W.ok E (.one (nx13 W) (.inl (sc_kind hs (by kernel_rfl)))) (vN E (nx31 W) (.inl (sc_kind hs (by kernel_rfl))) db31) (snds_s_cons
    (s_iff (sndB_cmp W.ok (vN E (nx13 W) (.inl (sc_kind hs (by kernel_rfl))) db13) (vN E (nx51 W) (.inl (sc_kind hs (by kernel_rfl))) db51) rfl) (snds_s_cons
      (s_asg W.ok E (vN E (nx13 W) (.inl (sc_kind hs (by kernel_rfl))) db13) (nx7 W) (.inl (sc_kind hs (by kernel_rfl))) rfl) snds_s_nil) snds_s_nil) snds_s_nil) (fun zz => rfl)) (snds_s_cons
  (s_ret (vN E (nx7 W) (.inl (sc_kind hs (by kernel_rfl))) db7)) snds_s_nil)))
noncomputable abbrev bd_plain_grammar : List Stmt := stBody (topAt 24)
noncomputable abbrev sc_plain_grammar : Scope := stScope (topAt 24)
noncomputable def ir_plain_grammar : Ss := (.cons
  (.asg 57 (.lst .nil)) (.cons
  (.for (.two 15 59) (.var 56) (.cons
    (.iff (.or (.cmp .Eq (.var 15) (.lit (.str "error"))) (.cmp .In (.cutTo (.var 15) (.lit (.int 1))) (.tup (.cons (.lit (.str "")) (.cons (.lit (.str "$")) (.cons (.lit (.str "'")) .nil)))))) (.cons
      .bad .nil) .nil) (.cons
    (.iff (.cmp .NotIn (.var 15) (.var 57)) (.cons
      (.expr (.append (.var 57) (.var 15))) .nil) .nil) .nil))) (.cons
  (.asg 33 (.ite (.or (.cmp .IsNot (.var 55) (.lit .none)) (.cmp .Eq (.var 57) (.lst .nil))) (.var 55) (.sub (.var 57) (.lit (.int 0))))) (.cons
  (.iff (.cmp .NotIn (.var 33) (.var 57)) (.cons
    .bad .nil) .nil) (.cons
  (.asg 50 (.list (.glob "OWN_TERMINALS" ownT))) (.cons
  (.for (.two 15 59) (.var 56) (.cons
    (.for (.one 16) (.var 59) (.cons
      (.iff (.and (.cmp .NotIn (.var 16) (.var 57)) (.cmp .NotIn (.var 16) (.var 50))) (.cons
        (.expr (.append (.var 50) (.var 16))) .nil) .nil) .nil)) .nil)) (.cons
  (.asg 58 (.len (.var 50))) (.cons
  (.asg 50 (.bin .Add (.bin .Add (.var 50) (.lst (.cons (.lit (.str "$accept")) .nil))) (.var 57))) (.cons
  (.asg 52 (.lst (.cons (.call (.glob "Rule" (.fn (.ref 268))) (.cons (.lit (.int 0)) (.cons (.var 58) (.cons (.tup (.cons (.index (.var 50) (.var 33)) (.cons (.glob "END" (.int 0)) .nil))) (.cons (.glob "END" (.int 0)) .nil))))) .nil))) (.cons
  (.for (.two 15 59) (.var 56) (.cons
    (.asg 31 (.tuple (.comp (.index (.var 50) (.var 16)) 16 (.var 59)))) (.cons
    (.expr (.append (.var 52) (.call (.glob "Rule" (.fn (.ref 268))) (.cons (.len (.var 52)) (.cons (.index (.var 50) (.var 15)) (.cons (.var 31) (.cons (.call (.glob "last_terminal" (.fn (.ref 361))) (.cons (.var 31) (.cons (.var 58) .nil))) .nil))))))) .nil))) (.cons
  (.ret (.call (.glob "Grammar" (.fn (.ref 350))) (.cons (.var 50) (.cons (.var 58) (.cons (.var 52) (.cons (.dct 0 .nil) (.cons (.lit .none) (.cons (.index (.var 50) (.var 33)) .nil)))))))) .nil)))))))))))
theorem ok_plain_grammar (W : Wd c) (hs : env.scope = sc_plain_grammar) (E : EnvOk env) : SndSs c (n + 1) env bd_plain_grammar ir_plain_grammar :=
  (snds_s_cons
  (s_asg W.ok E (snd_lst snds_nil) (nx57 W) (.inl (sc_kind hs (by kernel_rfl))) rfl) (snds_s_cons
  (s_for W.ok E (.two (nx15 W) (nx59 W) (.inl (sc_kind hs (by kernel_rfl))) (.inl (sc_kind hs (by kernel_rfl)))) (vN E (nx56 W) (.inl (sc_kind hs (by kernel_rfl))) db56) (snds_s_cons
    (s_iff (sndB_or (sndB_cmp W.ok (vN E (nx15 W) (.inl (sc_kind hs (by kernel_rfl))) db15) (snd_lit (.inr (.inr (.inr ⟨_, rfl, rfl⟩)))) rfl) (sndB_cmp W.ok (snd_cutTo (vN E (nx15 W) (.inl (sc_kind hs (by kernel_rfl))) db15) (snd_lit (.inr (.inr (.inl ⟨_, rfl, rfl⟩))))) (snd_tup (snds_cons (snd_lit (.inr (.inr (.inr ⟨_, rfl, rfl⟩)))) (snds_cons (snd_lit (.inr (.inr (.inr ⟨_, rfl, rfl⟩)))) (snds_cons (snd_lit (.inr (.inr (.inr ⟨_, rfl, rfl⟩)))) snds_nil (starEach_plain _ rfl)) (starEach_plain _ rfl)) (starEach_plain _ rfl))) rfl)) (snds_s_cons
      s_bad snds_s_nil) snds_s_nil) (snds_s_cons
    (s_iff (sndB_cmp W.ok (vN E (nx15 W) (.inl (sc_kind hs (by kernel_rfl))) db15) (vN E (nx57 W) (.inl (sc_kind hs (by kernel_rfl))) db57) rfl) (snds_s_cons
      (s_expr (snd_append ⟨_, rfl⟩ (vN E (nx57 W) (.inl (sc_kind hs (by kernel_rfl))) db57) (vN E (nx15 W) (.inl (sc_kind hs (by kernel_rfl))) db15) rfl) (int_false E) rfl) snds_s_nil) snds_s_nil) snds_s_nil)) (fun zz => rfl)) (snds_s_cons
  (s_asg W.ok E (snd_ite (sndB_or (sndB_cmp W.ok (vN E (nx55 W) (.inl (sc_kind hs (by kernel_rfl))) db55) (snd_lit (.inl ⟨rfl, rfl⟩)) rfl) (sndB_cmp W.ok (vN E (nx57 W) (.inl (sc_kind hs (by kernel_rfl))) db57) (snd_lst snds_nil) rfl)) (vN E (nx55 W) (.inl (sc_kind hs (by kernel_rfl))) db55) (snd_sub W.ok (vN E (nx57 W) (.inl (sc_kind hs (by kernel_rfl))) db57) (snd_lit (.inr (.inr (.inl ⟨_, rfl, rfl⟩)))))) (nx33 W) (.inl (sc_kind hs (by kernel_rfl))) rfl) (snds_s_cons
  (s_iff (sndB_cmp W.ok (vN E (nx33 W) (.inl (sc_kind hs (by kernel_rfl))) db33) (vN E (nx57 W) (.inl (sc_kind hs (by kernel_rfl))) db57) rfl) (snds_s_cons
    s_bad snds_s_nil) snds_s_nil) (snds_s_cons
  (s_asg W.ok E (tList W E (bn W (sc_kind hs (by kernel_rfl)) gm_list gd_list) rfl (vOwn W E (sc_kind hs (by kernel_rfl)))) (nx50 W) (.inr (sc_kind hs (by kernel_rfl))) rfl) (snds_s_cons
  (s_for W.ok E (.two (nx15 W) (nx59 W) (.inl (sc_kind hs (by kernel_rfl))) (.inl (sc_kind hs (by kernel_rfl)))) (vN E (nx56 W) (.inl (sc_kind hs (by kernel_rfl))) db56) (snds_s_cons
    (s_for W.ok E (.one (nx16 W) (.inl (sc_kind hs (by kernel_rfl)))) (vN E (nx59 W) (.inl (sc_kind hs (by kernel_rfl))) db59) (snds_s_cons
      (s_iff (sndB_and (sndB_cmp W.ok (vN E (nx16 W) (.inl (sc_kind hs (by kernel_rfl))) db16) (vN E (nx57 W) (.inl (sc_kind hs (by kernel_rfl))) db57) rfl) (sndB_cmp W.ok (vN E (nx16 W) (.inl (sc_kind hs (by kernel_rfl))) db16) (vN E (nx50 W) (.inr (.inl (sc_kind hs (by kernel_rfl)))) db50) rfl)) (snds_s_cons
        (s_expr (snd_append ⟨_, rfl⟩ (vN E (nx50 W) (.inr (.inl (sc_kind hs (by kernel_rfl)))) db50) (vN E (nx16 W) (.inl (sc_kind hs (by kernel_rfl))) db16) rfl) (int_false E) rfl) snds_s_nil) snds_s_nil) snds_s_nil) (fun zz => rfl)) snds_s_nil) (fun zz => rfl)) (snds_s_cons
  (s_asg W.ok E (tLen W E (bn W (sc_kind hs (by kernel_rfl)) gm_len gd_len) rfl (vN E (nx50 W) (.inr (.inl (sc_kind hs (by kernel_rfl)))) db50)) (nx58 W) (.inl (sc_kind hs (by kernel_rfl))) rfl) (snds_s_cons
  (s_asg W.ok E (snd_bin (snd_bin (vN E (nx50 W) (.inr (.inl (sc_kind hs (by kernel_rfl)))) db50) (snd_lst (snds_cons (snd_lit (.inr (.inr (.inr ⟨_, rfl, rfl⟩)))) snds_nil (starEach_plain _ rfl)))) (vN E (nx57 W) (.inl (sc_kind hs (by kernel_rfl))) db57)) (nx50 W) (.inr (sc_kind hs (by kernel_rfl))) rfl) (snds_s_cons
  (s_asg W.ok E (snd_lst (snds_cons (snd_call W.ok E (bn W (sc_kind hs (by kernel_rfl)) gm_Rule gd_Rule) rfl nmx (snds_cons (snd_lit (.inr (.inr (.inl ⟨_, rfl, rfl⟩)))) (snds_cons (vN E (nx58 W) (.inl (sc_kind hs (by kernel_rfl))) db58) (snds_cons (snd_tup (snds_cons (snd_index ⟨_, rfl⟩ (vN E (nx50 W) (.inr (.inl (sc_kind hs (by kernel_rfl)))) db50) (vN E (nx33 W) (.inl (sc_kind hs (by kernel_rfl))) db33) rfl) (snds_cons (vEnd W E (sc_kind hs (by kernel_rfl))) snds_nil (starEach_plain _ rfl)) (starEach_plain _ rfl))) (snds_cons (vEnd W E (sc_kind hs (by kernel_rfl))) snds_nil (starEach_plain _ rfl)) (starEach_plain _ rfl)) (starEach_plain _ rfl)) (starEach_plain _ rfl))) snds_nil (starEach_plain _ rfl))) (nx52 W) (.inl (sc_kind hs (by kernel_rfl))) rfl) (snds_s_cons
  (s_for W.ok E (.two (nx15 W) (nx59 W) (.inl (sc_kind hs (by kernel_rfl))) (.inl (sc_kind hs (by kernel_rfl)))) (vN E (nx56 W) (.inl (sc_kind hs (by kernel_rfl))) db56) (snds_s_cons
    (s_asg W.ok E (tTuple W E (bn W (sc_kind hs (by kernel_rfl)) gm_tuple gd_tuple) rfl (tComp W E hs (by kernel_rfl) (nx16 W) (fun zz => rfl) (vN E (nx59 W) (.inl (sc_kind hs (by kernel_rfl))) db59) (fun zz zz E1 => (snd_index ⟨_, rfl⟩ (vN E1 (nx50 W) (.inr (relabel_free (by kernel_rfl))) db50) (vN E1 (nx16 W) (.inl (relabel_kind (by kernel_rfl) (by decide))) db16) rfl)))) (nx31 W) (.inl (sc_kind hs (by kernel_rfl))) rfl) (snds_s_cons
    (s_expr (snd_append ⟨_, rfl⟩ (vN E (nx52 W) (.inl (sc_kind hs (by kernel_rfl))) db52) (snd_call W.ok E (bn W (sc_kind hs (by kernel_rfl)) gm_Rule gd_Rule) rfl nmx (snds_cons (tLen W E (bn W (sc_kind hs (by kernel_rfl)) gm_len gd_len) rfl (vN E (nx52 W) (.inl (sc_kind hs (by kernel_rfl))) db52)) (snds_cons (snd_index ⟨_, rfl⟩ (vN E (nx50 W) (.inr (.inl (sc_kind hs (by kernel_rfl)))) db50) (vN E (nx15 W) (.inl (sc_kind hs (by kernel_rfl))) db15) rfl) (snds_cons (vN E (nx31 W) (.inl (sc_kind hs (by kernel_rfl))) db31) (snds_cons (snd_call W.ok E (bn W (sc_kind hs (by kernel_rfl)) gm_last_terminal gd_last_terminal) rfl nmx (snds_cons (vN E (nx31 W) (.inl (sc_kind hs (by kernel_rfl))) db31) (snds_cons (vN E (nx58 W) (.inl (sc_kind hs (by kernel_rfl))) db58) snds_nil (starEach_plain _ rfl)) (starEach_plain _ rfl))) snds_nil (starEach_plain _ rfl)) (starEach_plain _ rfl)) (starEach_plain _ rfl)) (starEach_plain _ rfl))) rfl) (int_false E) rfl) snds_s_nil)) (fun zz => rfl)) (snds_s_cons
  (s_ret (snd_call W.ok E (bn W (sc_kind hs (by kernel_rfl)) gm_Grammar gd_Grammar) rfl nmx (snds_cons (vN E (nx50 W) (.inr (.inl (sc_kind hs (by kernel_rfl)))) db50) (snds_cons (vN E (nx58 W) (.inl (sc_kind hs (by kernel_rfl))) db58) (snds_cons (vN E (nx52 W) (.inl (sc_kind hs (by kernel_rfl))) db52) (snds_cons snd_dct0 (snds_cons (snd_lit (.inl ⟨rfl, rfl⟩)) (snds_cons (snd_index ⟨_, rfl⟩ (vN E (nx50 W) (.inr (.inl (sc_kind hs (by kernel_rfl)))) db50) (vN E (nx33 W) (.inl (sc_kind hs (by kernel_rfl))) db33) rfl) snds_nil (starEach_plain _ rfl)) (starEach_plain _ rfl)) (starEach_plain _ rfl)) (starEach_plain _ rfl)) (starEach_plain _ rfl)) (starEach_plain _ rfl)))) snds_s_nil)))))))))))
noncomputable abbrev bd_law_pen : List Stmt := stBody (topAt 26)
noncomputable abbrev sc_law_pen : Scope := stScope (topAt 26)
noncomputable def ir_law_pen : Ss := (.cons
  (.asg 14 (.lit (.int 1))) (.cons
  (.for (.one 61) (.cutTo (.var 60) (.lit (.int 63))) (.cons
    (.asg 14 (.bin .Add (.bin .Add (.bin .Mult (.var 14) (.lit (.int 1000003))) (.bin .Mult (.lit (.int 2)) (.abs (.toInt (.var 61))))) (.ite (.cmp .Lt (.var 61) (.lit (.int 0))) (.lit (.int 1)) (.lit (.int 0))))) .nil)) (.cons
  (.ret (.lst (.cons (.var 14) (.cons (.lit (.int 0)) .nil)))) .nil)))
theorem ok_law_pen (W : Wd c) (hs : env.scope = sc_law_pen) (E : EnvOk env) : SndSs c (n + 1) env bd_law_pen ir_law_pen :=
  (snds_s_cons
  (s_asg W.ok E (snd_lit (.inr (.inr (.inl ⟨_, rfl, rfl⟩)))) (nx14 W) (.inl (sc_kind hs (by kernel_rfl))) rfl) (snds_s_cons
  (s_for W.ok E (.one (nx61 W) (.inl (sc_kind hs (by kernel_rfl)))) (snd_cutTo (vN E (nx60 W) (.inl (sc_kind hs (by kernel_rfl))) db60) (snd_lit (.inr (.inr (.inl ⟨_, rfl, rfl⟩))))) (snds_s_cons
    (s_asg W.ok E (snd_bin (snd_bin (snd_bin (vN E (nx14 W) (.inl (sc_kind hs (by kernel_rfl))) db14) (snd_lit (.inr (.inr (.inl ⟨_, rfl, rfl⟩))))) (snd_bin (snd_lit (.inr (.inr (.inl ⟨_, rfl, rfl⟩)))) (tAbs W E (bn W (sc_kind hs (by kernel_rfl)) gm_abs gd_abs) rfl (tInt W E (bn W (sc_kind hs (by kernel_rfl)) gm_int gd_int) rfl (vN E (nx61 W) (.inl (sc_kind hs (by kernel_rfl))) db61))))) (snd_ite (sndB_cmp W.ok (vN E (nx61 W) (.inl (sc_kind hs (by kernel_rfl))) db61) (snd_lit (.inr (.inr (.inl ⟨_, rfl, rfl⟩)))) rfl) (snd_lit (.inr (.inr (.inl ⟨_, rfl, rfl⟩)))) (snd_lit (.inr (.inr (.inl ⟨_, rfl, rfl⟩)))))) (nx14 W) (.inl (sc_kind hs (by kernel_rfl))) rfl) snds_s_nil) (fun zz => rfl)) (snds_s_cons
  (s_ret (snd_lst (snds_cons (vN E (nx14 W) (.inl (sc_kind hs (by kernel_rfl))) db14) (snds_cons (snd_lit (.inr (.inr (.inl ⟨_, rfl, rfl⟩)))) snds_nil (starEach_plain _ rfl)) (starEach_plain _ rfl)))) snds_s_nil)))
noncomputable abbrev bd_law_draw : List Stmt := stBody (topAt 27)
noncomputable abbrev sc_law_draw : Scope := stScope (topAt 27)
noncomputable def ir_law_draw : Ss := (.cons
  (.iff (.cmp .Lt (.sub (.var 62) (.lit (.int 0))) (.var 28)) (.cons
    (.asgSub (.var 62) (.lit (.int 1)) (.bin .Add (.sub (.var 62) (.lit (.int 1))) (.lit (.int 1)))) (.cons
    (.asgSub (.var 62) (.lit (.int 0)) (.bin .Add (.bin .Add (.sub (.var 62) (.lit (.int 0))) (.lit (.int 104729))) (.bin .Mult (.lit (.int 7919)) (.bin .Pow (.sub (.var 62) (.lit (.int 1))) (.lit (.int 5)))))) .nil)) .nil) (.cons
  (.asg 63 (.bin .Mod (.sub (.var 62) (.lit (.int 0))) (.var 28))) (.cons
  (.asgSub (.var 62) (.lit (.int 0)) (.bin .FloorDiv (.sub (.var 62) (.lit (.int 0))) (.var 28))) (.cons
  (.ret (.var 63)) .nil))))
theorem ok_law_draw (W : Wd c) (hs : env.scope = sc_law_draw) (E : EnvOk env) : SndSs c (n + 1) env bd_law_draw ir_law_draw :=
  (snds_s_cons
  (s_iff (sndB_cmp W.ok (snd_sub W.ok (vN E (nx62 W) (.inl (sc_kind hs (by kernel_rfl))) db62) (snd_lit (.inr (.inr (.inl ⟨_, rfl, rfl⟩))))) (vN E (nx28 W) (.inl (sc_kind hs (by kernel_rfl))) db28) rfl) (snds_s_cons
    (s_asgSub W.ok (snd_bin (snd_sub W.ok (vN E (nx62 W) (.inl (sc_kind hs (by kernel_rfl))) db62) (snd_lit (.inr (.inr (.inl ⟨_, rfl, rfl⟩))))) (snd_lit (.inr (.inr (.inl ⟨_, rfl, rfl⟩))))) (vN E (nx62 W) (.inl (sc_kind hs (by kernel_rfl))) db62) (snd_lit (.inr (.inr (.inl ⟨_, rfl, rfl⟩)))) rfl) (snds_s_cons
    (s_asgSub W.ok (snd_bin (snd_bin (snd_sub W.ok (vN E (nx62 W) (.inl (sc_kind hs (by kernel_rfl))) db62) (snd_lit (.inr (.inr (.inl ⟨_, rfl, rfl⟩))))) (snd_lit (.inr (.inr (.inl ⟨_, rfl, rfl⟩))))) (snd_bin (snd_lit (.inr (.inr (.inl ⟨_, rfl, rfl⟩)))) (snd_bin (snd_sub W.ok (vN E (nx62 W) (.inl (sc_kind hs (by kernel_rfl))) db62) (snd_lit (.inr (.inr (.inl ⟨_, rfl, rfl⟩))))) (snd_lit (.inr (.inr (.inl ⟨_, rfl, rfl⟩))))))) (vN E (nx62 W) (.inl (sc_kind hs (by kernel_rfl))) db62) (snd_lit (.inr (.inr (.inl ⟨_, rfl, rfl⟩)))) rfl) snds_s_nil)) snds_s_nil) (snds_s_cons
  (s_asg W.ok E (snd_bin (snd_sub W.ok (vN E (nx62 W) (.inl (sc_kind hs (by kernel_rfl))) db62) (snd_lit (.inr (.inr (.inl ⟨_, rfl, rfl⟩))))) (vN E (nx28 W) (.inl (sc_kind hs (by kernel_rfl))) db28)) (nx63 W) (.inl (sc_kind hs (by kernel_rfl))) rfl) (snds_s_cons
  (s_asgSub W.ok (snd_bin (snd_sub W.ok (vN E (nx62 W) (.inl (sc_kind hs (by kernel_rfl))) db62) (snd_lit (.inr (.inr (.inl ⟨_, rfl, rfl⟩))))) (vN E (nx28 W) (.inl (sc_kind hs (by kernel_rfl))) db28)) (vN E (nx62 W) (.inl (sc_kind hs (by kernel_rfl))) db62) (snd_lit (.inr (.inr (.inl ⟨_, rfl, rfl⟩)))) rfl) (snds_s_cons
  (s_ret (vN E (nx63 W) (.inl (sc_kind hs (by kernel_rfl))) db63)) snds_s_nil))))
noncomputable abbrev bd_law_factorial : List Stmt := stBody (topAt 28)
noncomputable abbrev sc_law_factorial : Scope := stScope (topAt 28)
noncomputable def ir_law_factorial : Ss := (.cons
  (.asg 7 (.lit (.int 1))) (.cons
  (.for (.one 14) (.range2 (.lit (.int 2)) (.bin .Add (.var 28) (.lit (.int 1)))) (.cons
    (.asg 7 (.bin .Mult (.var 7) (.var 14))) .nil)) (.cons
  (.ret (.var 7)) .nil)))
theorem ok_law_factorial (W : Wd c) (hs : env.scope = sc_law_factorial) (E : EnvOk env) : SndSs c (n + 1) env bd_law_factorial ir_law_factorial :=
  (snds_s_cons
  (s_asg W.ok E (snd_lit (.inr (.inr (.inl ⟨_, rfl, rfl⟩)))) (nx7 W) (.inl (sc_kind hs (by kernel_rfl))) rfl) (snds_s_cons
  (s_for W.ok E (.one (nx14 W) (.inl (sc_kind hs (by kernel_rfl)))) (tRange2 W E (bn W (sc_kind hs (by kernel_rfl)) gm_range gd_range) rfl rfl (snd_lit (.inr (.inr (.inl ⟨_, rfl, rfl⟩)))) (snd_bin (vN E (nx28 W) (.inl (sc_kind hs (by kernel_rfl))) db28) (snd_lit (.inr (.inr (.inl ⟨_, rfl, rfl⟩)))))) (snds_s_cons
    (s_asg W.ok E (snd_bin (vN E (nx7 W) (.inl (sc_kind hs (by kernel_rfl))) db7) (vN E (nx14 W) (.inl (sc_kind hs (by kernel_rfl))) db14)) (nx7 W) (.inl (sc_kind hs (by kernel_rfl))) rfl) snds_s_nil) (fun zz => rfl)) (snds_s_cons
  (s_ret (vN E (nx7 W) (.inl (sc_kind hs (by kernel_rfl))) db7)) snds_s_nil)))
noncomputable abbrev bd_law_due : List Stmt := stBody (topAt 29)
noncomputable abbrev sc_law_due : Scope := stScope (topAt 29)
noncomputable def ir_law_due : Ss := (.cons
  (.asg2 68 7 (.len (.var 32)) (.lit (.int 0))) (.cons
  (.for (.one 66) (.range1 (.var 68)) (.cons
    (.for (.one 69) (.range1 (.var 68)) (.cons
      (.asg 70 (.bin .Sub (.bin .Sub (.bin .Sub (.var 68) (.lit (.int 1))) (.bin .Mult (.lit (.int 2)) (.var 69))) (.bin .Mult (.lit (.int 3)) (.var 66)))) (.cons
      (.iff (.cmp .GtE (.var 70) (.lit (.int 0))) (.cons
        (.asg 28 (.call (.glob "_law_factorial" (.fn (.ref 388))) (.cons (.bin .Sub (.bin .Add (.bin .Add (.bin .Add (.var 68) (.var 70)) (.var 69)) (.var 66)) (.lit (.int 1))) .nil))) (.cons
        (.for (.one 14) (.tup (.cons (.var 68) (.cons (.var 70) (.cons (.var 69) (.cons (.var 66) .nil))))) (.cons
          (.asg 28 (.bin .FloorDiv (.var 28) (.call (.glob "_law_factorial" (.fn (.ref 388))) (.cons (.var 14) .nil)))) .nil)) (.cons
        (.asg 7 (.bin .Add (.var 7) (.bin .Mult (.bin .Mult (.bin .Mult (.var 28) (.bin .Pow (.sub (.var 64) (.lit (.int 2))) (.var 70))) (.bin .Pow (.sub (.var 64) (.lit (.int 3))) (.var 69))) (.bin .Pow (.sub (.var 64) (.lit (.int 4))) (.var 66))))) .nil))) .nil) .nil))) .nil)) (.cons
  (.for (.one 67) (.var 32) (.cons
    (.asg 7 (.bin .Mult (.var 7) (.sub (.var 65) (.var 67)))) .nil)) (.cons
  (.ret (.var 7)) .nil))))
theorem ok_law_due (W : Wd c) (hs : env.scope = sc_law_due) (E : EnvOk env) : SndSs c (n + 1) env bd_law_due ir_law_due :=
  (snds_s_cons
  (s_asg2 W.ok E (tLen W E (bn W (sc_kind hs (by kernel_rfl)) gm_len gd_len) rfl (vN E (nx32 W) (.inl (sc_kind hs (by kernel_rfl))) db32)) (snd_lit (.inr (.inr (.inl ⟨_, rfl, rfl⟩)))) (nx68 W) (nx7 W) (.inl (sc_kind hs (by kernel_rfl))) (.inl (sc_kind hs (by kernel_rfl))) rfl rfl (sw2 E (sc_kind hs (by kernel_rfl)) (sc_kind hs (by kernel_rfl)) (by decide +kernel) rfl (by kernel_rfl) (by kernel_rfl) rfl rfl)) (snds_s_cons
  (s_for W.ok E (.one (nx66 W) (.inl (sc_kind hs (by kernel_rfl)))) (tRange1 W E (bn W (sc_kind hs (by kernel_rfl)) gm_range gd_range) rfl (vN E (nx68 W) (.inl (sc_kind hs (by kernel_rfl))) db68)) (snds_s_cons
    (s_for W.ok E (.one (nx69 W) (.inl (sc_kind hs (by kernel_rfl)))) (tRange1 W E (bn W (sc_kind hs (by kernel_rfl)) gm_range gd_range) rfl (vN E (nx68 W) (.inl (sc_kind hs (by kernel_rfl))) db68)) (snds_s_cons
      (s_asg W.ok E (snd_bin (snd_bin (snd_bin (vN E (nx68 W) (.inl (sc_kind hs (by kernel_rfl))) db68) (snd_lit (.inr (.inr (.inl ⟨_, rfl, rfl⟩))))) (snd_bin (snd_lit (.inr (.inr (.inl ⟨_, rfl, rfl⟩)))) (vN E (nx69 W) (.inl (sc_kind hs (by kernel_rfl))) db69))) (snd_bin (snd_lit (.inr (.inr (.inl ⟨_, rfl, rfl⟩)))) (vN E (nx66 W) (.inl (sc_kind hs (by kernel_rfl))) db66))) (nx70 W) (.inl (sc_kind hs (by kernel_rfl))) rfl) (snds_s_cons
      (s_iff (sndB_cmp W.ok (vN E (nx70 W) (.inl (sc_kind hs (by kernel_rfl))) db70) (snd_lit (.inr (.inr (.inl ⟨_, rfl, rfl⟩)))) rfl) (snds_s_cons
        (s_asg W.ok E (snd_call W.ok E (bn W (sc_kind hs (by kernel_rfl)) gm__law_factorial gd__law_factorial) rfl nmx (snds_cons (snd_bin (snd_bin (snd_bin (snd_bin (vN E (nx68 W) (.inl (sc_kind hs (by kernel_rfl))) db68) (vN E (nx70 W) (.inl (sc_kind hs (by kernel_rfl))) db70)) (vN E (nx69 W) (.inl (sc_kind hs (by kernel_rfl))) db69)) (vN E (nx66 W) (.inl (sc_kind hs (by kernel_rfl))) db66)) (snd_lit (.inr (.inr (.inl ⟨_, rfl, rfl⟩))))) snds_nil (starEach_plain _ rfl))) (nx28 W) (.inl (sc_kind hs (by kernel_rfl))) rfl) (snds_s_cons
        (s_for W.ok E (.one (nx14 W) (.inl (sc_kind hs (by kernel_rfl)))) (snd_tup (snds_cons (vN E (nx68 W) (.inl (sc_kind hs (by kernel_rfl))) db68) (snds_cons (vN E (nx70 W) (.inl (sc_kind hs (by kernel_rfl))) db70) (snds_cons (vN E (nx69 W) (.inl (sc_kind hs (by kernel_rfl))) db69) (snds_cons (vN E (nx66 W) (.inl (sc_kind hs (by kernel_rfl))) db66) snds_nil (starEach_plain _ rfl)) (starEach_plain _ rfl)) (starEach_plain _ rfl)) (starEach_plain _ rfl))) (snds_s_cons
          (s_asg W.ok E (snd_bin (vN E (nx28 W) (.inl (sc_kind hs (by kernel_rfl))) db28) (snd_call W.ok E (bn W (sc_kind hs (by kernel_rfl)) gm__law_factorial gd__law_factorial) rfl nmx (snds_cons (vN E (nx14 W) (.inl (sc_kind hs (by kernel_rfl))) db14) snds_nil (starEach_plain _ rfl)))) (nx28 W) (.inl (sc_kind hs (by kernel_rfl))) rfl) snds_s_nil) (fun zz => rfl)) (snds_s_cons
        (s_asg W.ok E (snd_bin (vN E (nx7 W) (.inl (sc_kind hs (by kernel_rfl))) db7) (snd_bin (snd_bin (snd_bin (vN E (nx28 W) (.inl (sc_kind hs (by kernel_rfl))) db28) (snd_bin (snd_sub W.ok (vN E (nx64 W) (.inl (sc_kind hs (by kernel_rfl))) db64) (snd_lit (.inr (.inr (.inl ⟨_, rfl, rfl⟩))))) (vN E (nx70 W) (.inl (sc_kind hs (by kernel_rfl))) db70))) (snd_bin (snd_sub W.ok (vN E (nx64 W) (.inl (sc_kind hs (by kernel_rfl))) db64) (snd_lit (.inr (.inr (.inl ⟨_, rfl, rfl⟩))))) (vN E (nx69 W) (.inl (sc_kind hs (by kernel_rfl))) db69))) (snd_bin (snd_sub W.ok (vN E (nx64 W) (.inl (sc_kind hs (by kernel_rfl))) db64) (snd_lit (.inr (.inr (.inl ⟨_, rfl, rfl⟩))))) (vN E (nx66 W) (.inl (sc_kind hs (by kernel_rfl))) db66)))) (nx7 W) (.inl (sc_kind hs (by kernel_rfl))) rfl) snds_s_nil))) snds_s_nil) snds_s_nil)) (fun zz => rfl)) snds_s_nil) (fun zz => rfl)) (snds_s_cons
  (s_for W.ok E (.one (nx67 W) (.inl (sc_kind hs (by kernel_rfl)))) (vN E (nx32 W) (.inl (sc_kind hs (by kernel_rfl))) db32) (snds_s_cons
    (s_asg W.ok E (snd_bin (vN E (nx7 W) (.inl (sc_kind hs (by kernel_rfl))) db7) (snd_sub W.ok (vN E (nx65 W) (.inl (sc_kind hs (by kernel_rfl))) db65) (vN E (nx67 W) (.inl (sc_kind hs (by kernel_rfl))) db67))) (nx7 W) (.inl (sc_kind hs (by kernel_rfl))) rfl) snds_s_nil) (fun zz => rfl)) (snds_s_cons
  (s_ret (vN E (nx7 W) (.inl (sc_kind hs (by kernel_rfl))) db7)) snds_s_nil))))
noncomputable abbrev bd_law_pairs : List Stmt := stBody (topAt 30)
noncomputable abbrev sc_law_pairs : Scope := stScope (topAt 30)
noncomputable def ir_law_pairs : Ss := (.cons
  (.asg 71 (.comp2 (.tup (.cons (.lit (.str "S")) (.cons (.bin .Mult (.tup (.cons (.lit (.str "S")) .nil)) (.var 72)) .nil))) 72 (.tup (.cons (.lit (.int 2)) (.cons (.lit (.int 3)) (.cons (.lit (.int 4)) .nil)))) 73 (.range1 (.sub (.var 64) (.var 72))))) (.cons
  (.asg 71 (.bin .Add (.var 71) (.comp2 (.tup (.cons (.lit (.str "S")) (.cons (.tup (.cons (.var 67) .nil)) .nil))) 67 (.tup (.cons (.lit (.str "a")) (.cons (.lit (.str "b")) .nil))) 73 (.range1 (.sub (.var 65) (.var 67)))))) (.cons
  (.asg 56 (.lst .nil)) (.cons
  (.whl (.cmp .NotEq (.var 71) (.lst .nil)) (.cons
    (.asg 3 (.call (.glob "_law_draw" (.fn (.ref 381))) (.cons (.var 62) (.cons (.len (.var 71)) .nil)))) (.cons
    (.expr (.append (.var 56) (.sub (.var 71) (.var 3)))) (.cons
    (.asg 71 (.bin .Add (.cutTo (.var 71) (.var 3)) (.cutFrom (.var 71) (.bin .Add (.var 3) (.lit (.int 1)))))) .nil)))) (.cons
  (.ret (.var 56)) .nil)))))
theorem ok_law_pairs (W : Wd c) (hs : env.scope = sc_law_pairs) (E : EnvOk env) : SndSs c (n + 1) env bd_law_pairs ir_law_pairs :=
  (snds_s_cons
  (tsComp2 W E hs (by kernel_rfl) (by decide) (nx72 W) (nx73 W) (fun zz => rfl) (fun zz zz zz => rfl) (snd_tup (snds_cons (snd_lit (.inr (.inr (.inl ⟨_, rfl, rfl⟩)))) (snds_cons (snd_lit (.inr (.inr (.inl ⟨_, rfl, rfl⟩)))) (snds_cons (snd_lit (.inr (.inr (.inl ⟨_, rfl, rfl⟩)))) snds_nil (starEach_plain _ rfl)) (starEach_plain _ rfl)) (starEach_plain _ rfl))) (nx71 W) (sc_kind hs (by kernel_rfl)) rfl (by kernel_rfl) (fun zz zz E1 => (snd_tup (snds_cons (snd_lit (.inr (.inr (.inr ⟨_, rfl, rfl⟩)))) (snds_cons (snd_bin (snd_tup (snds_cons (snd_lit (.inr (.inr (.inr ⟨_, rfl, rfl⟩)))) snds_nil (starEach_plain _ rfl))) (vN E1 (nx72 W) (.inl (relabel_kind (by kernel_rfl) (by decide))) db72)) snds_nil (starEach_plain _ rfl)) (starEach_plain _ rfl)))) (fun zz zz E1 => (tRange1 W E1 (bn W (relabel_kind (by kernel_rfl) (by decide)) gm_range gd_range) rfl (snd_sub W.ok (vN E1 (nx64 W) (.inr (relabel_free (by kernel_rfl))) db64) (vN E1 (nx72 W) (.inl (relabel_kind (by kernel_rfl) (by decide))) db72))))) (snds_s_cons
  (s_asg W.ok E (snd_bin (vN E (nx71 W) (.inl (sc_kind hs (by kernel_rfl))) db71) (tComp2 W E hs (by kernel_rfl) (by decide) (nx67 W) (nx73 W) (fun zz => rfl) (fun zz zz zz => rfl) (snd_tup (snds_cons (snd_lit (.inr (.inr (.inr ⟨_, rfl, rfl⟩)))) (snds_cons (snd_lit (.inr (.inr (.inr ⟨_, rfl, rfl⟩)))) snds_nil (starEach_plain _ rfl)) (starEach_plain _ rfl))) (fun zz zz E1 => (snd_tup (snds_cons (snd_lit (.inr (.inr (.inr ⟨_, rfl, rfl⟩)))) (snds_cons (snd_tup (snds_cons (vN E1 (nx67 W) (.inl (relabel_kind (by kernel_rfl) (by decide))) db67) snds_nil (starEach_plain _ rfl))) snds_nil (starEach_plain _ rfl)) (starEach_plain _ rfl)))) (fun zz zz E1 => (tRange1 W E1 (bn W (relabel_kind (by kernel_rfl) (by decide)) gm_range gd_range) rfl (snd_sub W.ok (vN E1 (nx65 W) (.inr (relabel_free (by kernel_rfl))) db65) (vN E1 (nx67 W) (.inl (relabel_kind (by kernel_rfl) (by decide))) db67)))))) (nx71 W) (.inl (sc_kind hs (by kernel_rfl))) rfl) (snds_s_cons
  (s_asg W.ok E (snd_lst snds_nil) (nx56 W) (.inl (sc_kind hs (by kernel_rfl))) rfl) (snds_s_cons
  (s_whl (sndB_cmp W.ok (vN E (nx71 W) (.inl (sc_kind hs (by kernel_rfl))) db71) (snd_lst snds_nil) rfl) (snds_s_cons
    (s_asg W.ok E (snd_call W.ok E (bn W (sc_kind hs (by kernel_rfl)) gm__law_draw gd__law_draw) rfl nmx (snds_cons (vN E (nx62 W) (.inl (sc_kind hs (by kernel_rfl))) db62) (snds_cons (tLen W E (bn W (sc_kind hs (by kernel_rfl)) gm_len gd_len) rfl (vN E (nx71 W) (.inl (sc_kind hs (by kernel_rfl))) db71)) snds_nil (starEach_plain _ rfl)) (starEach_plain _ rfl))) (nx3 W) (.inl (sc_kind hs (by kernel_rfl))) rfl) (snds_s_cons
    (s_expr (snd_append ⟨_, rfl⟩ (vN E (nx56 W) (.inl (sc_kind hs (by kernel_rfl))) db56) (snd_sub W.ok (vN E (nx71 W) (.inl (sc_kind hs (by kernel_rfl))) db71) (vN E (nx3 W) (.inl (sc_kind hs (by kernel_rfl))) db3)) rfl) (int_false E) rfl) (snds_s_cons
    (s_asg W.ok E (snd_bin (snd_cutTo (vN E (nx71 W) (.inl (sc_kind hs (by kernel_rfl))) db71) (vN E (nx3 W) (.inl (sc_kind hs (by kernel_rfl))) db3)) (snd_cutFrom (vN E (nx71 W) (.inl (sc_kind hs (by kernel_rfl))) db71) (snd_bin (vN E (nx3 W) (.inl (sc_kind hs (by kernel_rfl))) db3) (snd_lit (.inr (.inr (.inl ⟨_, rfl, rfl⟩))))))) (nx71 W) (.inl (sc_kind hs (by kernel_rfl))) rfl) snds_s_nil)))) (snds_s_cons
  (s_ret (vN E (nx56 W) (.inl (sc_kind hs (by kernel_rfl))) db56)) snds_s_nil)))))
noncomputable abbrev bd_law : List Stmt := stBody (topAt 31)
noncomputable abbrev sc_law : Scope := stScope (topAt 31)
noncomputable def ir_law : Ss := (.cons
  (.asg 62 (.call (.glob "_law_pen" (.fn (.ref 374))) (.cons (.var 60) .nil))) (.cons
  (.asg 64 (.dct 0 (.cons (.lit (.int 2)) (.cons (.call (.glob "_law_draw" (.fn (.ref 381))) (.cons (.var 62) (.cons (.lit (.int 3)) .nil))) (.cons (.lit (.int 3)) (.cons (.call (.glob "_law_draw" (.fn (.ref 381))) (.cons (.var 62) (.cons (.lit (.int 3)) .nil))) (.cons (.lit (.int 4)) (.cons (.call (.glob "_law_draw" (.fn (.ref 381))) (.cons (.var 62) (.cons (.lit (.int 2)) .nil))) .nil)))))))) (.cons
  (.asg 65 (.dct 1 (.cons (.lit (.str "a")) (.cons (.bin .Add (.lit (.int 1)) (.call (.glob "_law_draw" (.fn (.ref 381))) (.cons (.var 62) (.cons (.lit (.int 2)) .nil)))) (.cons (.lit (.str "b")) (.cons (.bin .Add (.lit (.int 1)) (.call (.glob "_law_draw" (.fn (.ref 381))) (.cons (.var 62) (.cons (.lit (.int 2)) .nil)))) .nil)))))) (.cons
  (.asg 32 (.join (.lit (.str "")) (.comp (.sub (.lit (.str "ab")) (.call (.glob "_law_draw" (.fn (.ref 381))) (.cons (.var 62) (.cons (.lit (.int 2)) .nil)))) 73 (.range1 (.bin .Add (.lit (.int 1)) (.call (.glob "_law_draw" (.fn (.ref 381))) (.cons (.var 62) (.cons (.lit (.int 5)) .nil)))))))) (.cons
  (.asg 5 (.call (.glob "plain_grammar" (.fn (.ref 367))) (.cons (.call (.glob "_law_pairs" (.fn (.ref 400))) (.cons (.var 62) (.cons (.var 64) (.cons (.var 65) .nil)))) .nil))) (.cons
  (.asg 74 (.comp (.meth (.var 5) "number" (.cons (.var 67) .nil)) 67 (.var 32))) (.cons
  (.asg 75 (.call (.glob "_law_due" (.fn (.ref 395))) (.cons (.var 64) (.cons (.var 65) (.cons (.var 32) .nil))))) (.cons
  (.iff (.or (.cmp .NotEq (.call (.glob "count_trees" (.fn (.ref 234))) (.cons (.var 5) (.cons (.var 74) .nil))) (.var 75)) (.cmp .NotEq (.call (.glob "count_trees" (.fn (.ref 234))) (.cons (.var 5) (.cons (.lst .nil) .nil))) (.lit (.int 0)))) (.cons
    (.ret (.lit (.bool false))) .nil) .nil) (.cons
  (.asg 76 (.call (.glob "_law_draw" (.fn (.ref 381))) (.cons (.var 62) (.cons (.bin .Add (.len (.var 32)) (.lit (.int 1))) .nil)))) (.cons
  (.iff (.cmp .NotEq (.call (.glob "count_trees" (.fn (.ref 234))) (.cons (.var 5) (.cons (.bin .Add (.bin .Add (.cutTo (.var 74) (.var 76)) (.lst (.cons (.lit (.int 2)) .nil))) (.cutFrom (.var 74) (.var 76))) .nil))) (.lit (.int 0))) (.cons
    (.ret (.lit (.bool false))) .nil) .nil) (.cons
  (.iff (.cmp .Gt (.var 75) (.lit (.int 9))) (.cons
    (.ret (.lit (.bool true))) .nil) .nil) (.cons
  (.asg 41 (.call (.glob "trees_of" (.fn (.ref 249))) (.cons (.var 5) (.cons (.var 74) (.cons (.bin .Add (.var 75) (.lit (.int 1))) .nil))))) (.cons
  (.iff (.cmp .NotEq (.comp (.join (.lit (.str "")) (.comp (.attr (.var 19) "kind") 19 (.meth (.var 20) "leaves" .nil))) 20 (.var 41)) (.bin .Mult (.lst (.cons (.var 32) .nil)) (.var 75))) (.cons
    (.ret (.lit (.bool false))) .nil) .nil) (.cons
  (.ret (.cmp .Eq (.len (.dict (.comp (.tup (.cons (.tuple (.meth (.var 20) "reductions" .nil)) (.cons (.lit (.bool true)) .nil))) 20 (.var 41)))) (.var 75))) .nil))))))))))))))
theorem ok_law (W : Wd c) (hs : env.scope = sc_law) (E : EnvOk env) : SndSs c (n + 1) env bd_law ir_law :=
  (snds_s_cons
  (s_asg W.ok E (snd_call W.ok E (bn W (sc_kind hs (by kernel_rfl)) gm__law_pen gd__law_pen) rfl nmx (snds_cons (vN E (nx60 W) (.inl (sc_kind hs (by kernel_rfl))) db60) snds_nil (starEach_plain _ rfl))) (nx62 W) (.inr (sc_kind hs (by kernel_rfl))) rfl) (snds_s_cons
  (s_asg W.ok E (snd_dct rfl rfl nmx (Nat.le_of_ble_eq_true rfl) (by decide) (psnd_cons (snd_lit (.inr (.inr (.inl ⟨_, rfl, rfl⟩)))) (snd_call W.ok E (bn W (sc_kind hs (by kernel_rfl)) gm__law_draw gd__law_draw) rfl nmx (snds_cons (vN E (nx62 W) (.inr (.inl (sc_kind hs (by kernel_rfl)))) db62) (snds_cons (snd_lit (.inr (.inr (.inl ⟨_, rfl, rfl⟩)))) snds_nil (starEach_plain _ rfl)) (starEach_plain _ rfl))) (psnd_cons (snd_lit (.inr (.inr (.inl ⟨_, rfl, rfl⟩)))) (snd_call W.ok E (bn W (sc_kind hs (by kernel_rfl)) gm__law_draw gd__law_draw) rfl nmx (snds_cons (vN E (nx62 W) (.inr (.inl (sc_kind hs (by kernel_rfl)))) db62) (snds_cons (snd_lit (.inr (.inr (.inl ⟨_, rfl, rfl⟩)))) snds_nil (starEach_plain _ rfl)) (starEach_plain _ rfl))) (psnd_cons (snd_lit (.inr (.inr (.inl ⟨_, rfl, rfl⟩)))) (snd_call W.ok E (bn W (sc_kind hs (by kernel_rfl)) gm__law_draw gd__law_draw) rfl nmx (snds_cons (vN E (nx62 W) (.inr (.inl (sc_kind hs (by kernel_rfl)))) db62) (snds_cons (snd_lit (.inr (.inr (.inl ⟨_, rfl, rfl⟩)))) snds_nil (starEach_plain _ rfl)) (starEach_plain _ rfl))) psnd_nil)))) (nx64 W) (.inl (sc_kind hs (by kernel_rfl))) rfl) (snds_s_cons
  (s_asg W.ok E (snd_dct rfl rfl nmx (Nat.le_of_ble_eq_true rfl) (by decide) (psnd_cons (snd_lit (.inr (.inr (.inr ⟨_, rfl, rfl⟩)))) (snd_bin (snd_lit (.inr (.inr (.inl ⟨_, rfl, rfl⟩)))) (snd_call W.ok E (bn W (sc_kind hs (by kernel_rfl)) gm__law_draw gd__law_draw) rfl nmx (snds_cons (vN E (nx62 W) (.inr (.inl (sc_kind hs (by kernel_rfl)))) db62) (snds_cons (snd_lit (.inr (.inr (.inl ⟨_, rfl, rfl⟩)))) snds_nil (starEach_plain _ rfl)) (starEach_plain _ rfl)))) (psnd_cons (snd_lit (.inr (.inr (.inr ⟨_, rfl, rfl⟩)))) (snd_bin (snd_lit (.inr (.inr (.inl ⟨_, rfl, rfl⟩)))) (snd_call W.ok E (bn W (sc_kind hs (by kernel_rfl)) gm__law_draw gd__law_draw) rfl nmx (snds_cons (vN E (nx62 W) (.inr (.inl (sc_kind hs (by kernel_rfl)))) db62) (snds_cons (snd_lit (.inr (.inr (.inl ⟨_, rfl, rfl⟩)))) snds_nil (starEach_plain _ rfl)) (starEach_plain _ rfl)))) psnd_nil))) (nx65 W) (.inl (sc_kind hs (by kernel_rfl))) rfl) (snds_s_cons
  (s_asg W.ok E (snd_join ⟨_, rfl⟩ (snd_lit (.inr (.inr (.inr ⟨_, rfl, rfl⟩)))) (tComp W E hs (by kernel_rfl) (nx73 W) (fun zz => rfl) (tRange1 W E (bn W (sc_kind hs (by kernel_rfl)) gm_range gd_range) rfl (snd_bin (snd_lit (.inr (.inr (.inl ⟨_, rfl, rfl⟩)))) (snd_call W.ok E (bn W (sc_kind hs (by kernel_rfl)) gm__law_draw gd__law_draw) rfl nmx (snds_cons (vN E (nx62 W) (.inr (.inl (sc_kind hs (by kernel_rfl)))) db62) (snds_cons (snd_lit (.inr (.inr (.inl ⟨_, rfl, rfl⟩)))) snds_nil (starEach_plain _ rfl)) (starEach_plain _ rfl))))) (fun zz zz E1 => (snd_sub W.ok (snd_lit (.inr (.inr (.inr ⟨_, rfl, rfl⟩)))) (snd_call W.ok E1 (bn W (relabel_kind (by kernel_rfl) (by decide)) gm__law_draw gd__law_draw) rfl nmx (snds_cons (vN E1 (nx62 W) (.inr (relabel_free (by kernel_rfl))) db62) (snds_cons (snd_lit (.inr (.inr (.inl ⟨_, rfl, rfl⟩)))) snds_nil (starEach_plain _ rfl)) (starEach_plain _ rfl)))))) rfl) (nx32 W) (.inl (sc_kind hs (by kernel_rfl))) rfl) (snds_s_cons
  (s_asg W.ok E (snd_call W.ok E (bn W (sc_kind hs (by kernel_rfl)) gm_plain_grammar gd_plain_grammar) rfl nmx (snds_cons (snd_call W.ok E (bn W (sc_kind hs (by kernel_rfl)) gm__law_pairs gd__law_pairs) rfl nmx (snds_cons (vN E (nx62 W) (.inr (.inl (sc_kind hs (by kernel_rfl)))) db62) (snds_cons (vN E (nx64 W) (.inl (sc_kind hs (by kernel_rfl))) db64) (snds_cons (vN E (nx65 W) (.inl (sc_kind hs (by kernel_rfl))) db65) snds_nil (starEach_plain _ rfl)) (starEach_plain _ rfl)) (starEach_plain _ rfl))) snds_nil (starEach_plain _ rfl))) (nx5 W) (.inr (sc_kind hs (by kernel_rfl))) rfl) (snds_s_cons
  (tsComp W E hs (by kernel_rfl) (nx67 W) (fun zz => rfl) (vN E (nx32 W) (.inl (sc_kind hs (by kernel_rfl))) db32) (nx74 W) (sc_kind hs (by kernel_rfl)) rfl (by kernel_rfl) (fun zz zz E1 => (snd_meth W.ok ⟨_, rfl⟩ (vN E1 (nx5 W) (.inr (relabel_free (by kernel_rfl))) db5) rfl nmx (snds_cons (vN E1 (nx67 W) (.inl (relabel_kind (by kernel_rfl) (by decide))) db67) snds_nil (starEach_plain _ rfl))))) (snds_s_cons
  (s_asg W.ok E (snd_call W.ok E (bn W (sc_kind hs (by kernel_rfl)) gm__law_due gd__law_due) rfl nmx (snds_cons (vN E (nx64 W) (.inl (sc_kind hs (by kernel_rfl))) db64) (snds_cons (vN E (nx65 W) (.inl (sc_kind hs (by kernel_rfl))) db65) (snds_cons (vN E (nx32 W) (.inl (sc_kind hs (by kernel_rfl))) db32) snds_nil (starEach_plain _ rfl)) (starEach_plain _ rfl)) (starEach_plain _ rfl))) (nx75 W) (.inl (sc_kind hs (by kernel_rfl))) rfl) (snds_s_cons
  (s_iff (sndB_or (sndB_cmp W.ok (snd_call W.ok E (bn W (sc_kind hs (by kernel_rfl)) gm_count_trees gd_count_trees) rfl nmx (snds_cons (vN E (nx5 W) (.inr (.inl (sc_kind hs (by kernel_rfl)))) db5) (snds_cons (vN E (nx74 W) (.inl (sc_kind hs (by kernel_rfl))) db74) snds_nil (starEach_plain _ rfl)) (starEach_plain _ rfl))) (vN E (nx75 W) (.inl (sc_kind hs (by kernel_rfl))) db75) rfl) (sndB_cmp W.ok (snd_call W.ok E (bn W (sc_kind hs (by kernel_rfl)) gm_count_trees gd_count_trees) rfl nmx (snds_cons (vN E (nx5 W) (.inr (.inl (sc_kind hs (by kernel_rfl)))) db5) (snds_cons (snd_lst snds_nil) snds_nil (starEach_plain _ rfl)) (starEach_plain _ rfl))) (snd_lit (.inr (.inr (.inl ⟨_, rfl, rfl⟩)))) rfl)) (snds_s_cons
    (s_ret (snd_lit (.inr (.inl ⟨_, rfl, rfl⟩)))) snds_s_nil) snds_s_nil) (snds_s_cons
  (s_asg W.ok E (snd_call W.ok E (bn W (sc_kind hs (by kernel_rfl)) gm__law_draw gd__law_draw) rfl nmx (snds_cons (vN E (nx62 W) (.inr (.inl (sc_kind hs (by kernel_rfl)))) db62) (snds_cons (snd_bin (tLen W E (bn W (sc_kind hs (by kernel_rfl)) gm_len gd_len) rfl (vN E (nx32 W) (.inl (sc_kind hs (by kernel_rfl))) db32)) (snd_lit (.inr (.inr (.inl ⟨_, rfl, rfl⟩))))) snds_nil (starEach_plain _ rfl)) (starEach_plain _ rfl))) (nx76 W) (.inl (sc_kind hs (by kernel_rfl))) rfl) (snds_s_cons
  (s_iff (sndB_cmp W.ok (snd_call W.ok E (bn W (sc_kind hs (by kernel_rfl)) gm_count_trees gd_count_trees) rfl nmx (snds_cons (vN E (nx5 W) (.inr (.inl (sc_kind hs (by kernel_rfl)))) db5) (snds_cons (snd_bin (snd_bin (snd_cutTo (vN E (nx74 W) (.inl (sc_kind hs (by kernel_rfl))) db74) (vN E (nx76 W) (.inl (sc_kind hs (by kernel_rfl))) db76)) (snd_lst (snds_cons (snd_lit (.inr (.inr (.inl ⟨_, rfl, rfl⟩)))) snds_nil (starEach_plain _ rfl)))) (snd_cutFrom (vN E (nx74 W) (.inl (sc_kind hs (by kernel_rfl))) db74) (vN E (nx76 W) (.inl (sc_kind hs (by kernel_rfl))) db76))) snds_nil (starEach_plain _ rfl)) (starEach_plain _ rfl))) (snd_lit (.inr (.inr (.inl ⟨_, rfl, rfl⟩)))) rfl) (snds_s_cons
    (s_ret (snd_lit (.inr (.inl ⟨_, rfl, rfl⟩)))) snds_s_nil) snds_s_nil) (snds_s_cons
  (s_iff (sndB_cmp W.ok (vN E (nx75 W) (.inl (sc_kind hs (by kernel_rfl))) db75) (snd_lit (.inr (.inr (.inl ⟨_, rfl, rfl⟩)))) rfl) (snds_s_cons
    (s_ret (snd_lit (.inr (.inl ⟨_, rfl, rfl⟩)))) snds_s_nil) snds_s_nil) (snds_s_cons
  (s_asg W.ok E (snd_call W.ok E (bn W (sc_kind hs (by kernel_rfl)) gm_trees_of gd_trees_of) rfl nmx (snds_cons (vN E (nx5 W) (.inr (.inl (sc_kind hs (by kernel_rfl)))) db5) (snds_cons (vN E (nx74 W) (.inl (sc_kind hs (by kernel_rfl))) db74) (snds_cons (snd_bin (vN E (nx75 W) (.inl (sc_kind hs (by kernel_rfl))) db75) (snd_lit (.inr (.inr (.inl ⟨_, rfl, rfl⟩))))) snds_nil (starEach_plain _ rfl)) (starEach_plain _ rfl)) (starEach_plain _ rfl))) (nx41 W) (.inl (sc_kind hs (by kernel_rfl))) rfl) (snds_s_cons
  (s_iff (sndB_cmp W.ok (tComp W E hs (by kernel_rfl) (nx20 W) (fun zz => rfl) (vN E (nx41 W) (.inl (sc_kind hs (by kernel_rfl))) db41) (fun zz zz E1 => (snd_join ⟨_, rfl⟩ (snd_lit (.inr (.inr (.inr ⟨_, rfl, rfl⟩)))) (tComp W E1 rfl (by kernel_rfl) (nx19 W) (fun zz => rfl) (snd_meth W.ok ⟨_, rfl⟩ (vN E1 (nx20 W) (.inl (relabel_kind (by kernel_rfl) (by decide))) db20) rfl (fun zz => rfl) snds_nil) (fun zz zz E2 => (snd_attr W.ok rfl (vN E2 (nx19 W) (.inl (relabel_kind (by kernel_rfl) (by decide))) db19)))) rfl))) (snd_bin (snd_lst (snds_cons (vN E (nx32 W) (.inl (sc_kind hs (by kernel_rfl))) db32) snds_nil (starEach_plain _ rfl))) (vN E (nx75 W) (.inl (sc_kind hs (by kernel_rfl))) db75)) rfl) (snds_s_cons
    (s_ret (snd_lit (.inr (.inl ⟨_, rfl, rfl⟩)))) snds_s_nil) snds_s_nil) (snds_s_cons
  (s_ret (snd_cmp W.ok (tLen W E (bn W (sc_kind hs (by kernel_rfl)) gm_len gd_len) rfl (tDict W E (bn W (sc_kind hs (by kernel_rfl)) gm_dict gd_dict) rfl (tComp W E hs (by kernel_rfl) (nx20 W) (fun zz => rfl) (vN E (nx41 W) (.inl (sc_kind hs (by kernel_rfl))) db41) (fun zz zz E1 => (snd_tup (snds_cons (tTuple W E1 (bn W (relabel_kind (by kernel_rfl) (by decide)) gm_tuple gd_tuple) rfl (snd_meth W.ok ⟨_, rfl⟩ (vN E1 (nx20 W) (.inl (relabel_kind (by kernel_rfl) (by decide))) db20) rfl (fun zz => rfl) snds_nil)) (snds_cons (snd_lit (.inr (.inl ⟨_, rfl, rfl⟩))) snds_nil (starEach_plain _ rfl)) (starEach_plain _ rfl))))))) (vN E (nx75 W) (.inl (sc_kind hs (by kernel_rfl))) db75) rfl)) snds_s_nil))))))))))))))
end
end Mine
set_option tactic.hygienic false
open PySem PySem.W PySem.Calls PyProof PyProof.Rows PySem.SeqAt
set_option maxRecDepth 100000
set_option maxHeartbeats 4000000
namespace Mine
section
variable {c : Cx} {n : Nat}
theorem Room.le {n m : Nat} {A : Around} (h : Room m A) (le : n ≤ m) : Room n A := ⟨h.1, by have := h.2.1; lia, by have := h.2.2; lia⟩
theorem nle {n a b : Nat} (h : Nat.ble a b = true) : n + a ≤ n + b := Nat.add_le_add_left (Nat.le_of_ble_eq_true h) n
theorem CallOK.up {n m : Nat} {f : V} {args : List V} {Q : V → Hp → Prop} {H : Hp} (h : CallOK c n f args Q H) (le : n ≤ m) : CallOK c m f args Q H :=
  fun A s f' args' room rh rf ra => h A s f' args' (room.le le) rh rf ra
end
end Mine
set_option tactic.hygienic false
open PySem PySem.W PySem.Calls PyProof PyProof.Rows PySem.SeqAt
set_option maxRecDepth 100000
set_option maxHeartbeats 4000000
namespace Mine
section
variable {c : Cx} {n : Nat}
noncomputable def FnAt (c : Cx) (g : Addr) (body : List Stmt) (sc : Scope) (ps : List Nat) (k : Nat) (dv : List (V × Value)) : Prop := ∃ fd, FnOk c g fd body ps k dv ∧ fd.scope = sc
theorem call_at (W : Wd c) {g : Addr} {body : List Stmt} {sc : Scope} {ps : List Nat} {k : Nat} {dv : List (V × Value)} {ir : Ss} {args : List V} {Q : V → Hp → Prop} {H : Hp} (F : FnAt c g body sc ps k dv)
    (ok : ∀ env, env.scope = sc → EnvOk env → SndSs c n env body ir) (hlen : args.length = k) (q : swps c n ir (fun f zz H' => match f with | .next => Q .none H' | .ret v => Q v H') (bindM ps (args ++ dv.map (fun zz => zz.1)) noLo) H) : CallOK c (n + 1) (.fn (.ref g)) args Q H := by
  obtain ⟨fd, F, hs⟩ := F
  exact call_fn W.ok F hlen (fun L E => ok _ hs E) q
noncomputable def Hle (H H' : Hp) : Prop := ∀ a o, H a = some o → H' a = some o
theorem Hle.refl (H : Hp) : Hle H H := fun zz zz e => e
theorem Hle.trans {H H' H'' : Hp} (x : Hle H H') (y : Hle H' H'') : Hle H H'' := fun a o e => y a o (x a o e)
theorem Hle.non {H H' : Hp} (x : Hle H H') {a : Addr} (e : H' a = none) : H a = none := by
  cases q : H a with
  | none => rfl
  | some o => rw [x a o q] at e; cases e
theorem Hle.put {H H' : Hp} (x : Hle H H') {a : Addr} (e : H a = none) (o : O) : Hle H (H'.put a o) := fun b ob eb => by
  by_cases q : b = a
  · subst q; rw [e] at eb; cases eb
  · rw [Hp.put_ne q]; exact x b ob eb
theorem ne_of {H : Hp} {a b : Addr} {o : O} (h1 : H a = some o) (h2 : H b = none) : a ≠ b := by rintro rfl; rw [h1] at h2; cases h2
theorem put_get {H : Hp} {a b : Addr} {o x : O} (h1 : H a = some o) (h2 : H b = none) : (H.put b x) a = some o := by rw [Hp.put_ne (ne_of h1 h2)]; exact h1
theorem put_put {H : Hp} {a : Addr} {x y : O} : (H.put a x).put a y = H.put a y := by funext b; simp only [Hp.put]; split <;> rfl
theorem put_non {H : Hp} {a b : Addr} {x : O} (h : (H.put b x) a = none) : H a = none := by
  by_cases q : a = b
  · subst q; rw [Hp.put_self] at h; cases h
  · rwa [Hp.put_ne q] at h
theorem put_ne' {H : Hp} {a b : Addr} {o x : O} (h2 : a ≠ b) (h1 : H a = some o) : (H.put b x) a = some o := by rw [Hp.put_ne h2]; exact h1
theorem put_get' {H : Hp} {a b : Addr} {o x : O} (h1 : H a = some o) (h2 : a ≠ b) : (H.put b x) a = some o := by rw [Hp.put_ne h2]; exact h1
theorem forGo_ind {turn : V → (Lo → Hp → Prop) → (V → Lo → Hp → Prop) → Lo → Hp → Prop} {src : Option Addr} {H₀ : Hp} {Q : Fl → Lo → Hp → Prop}
    (I : List V → Lo → Hp → Prop) (hst : ∀ r m H, I r m H → StillAt src H₀ H) (h0 : ∀ m H, I [] m H → Q .next m H)
    (h1 : ∀ x r m H, I (x :: r) m H → ∀ K : Lo → Hp → Prop, (∀ m H, I r m H → K m H) → turn x K (fun v => Q (.ret v)) m H) : ∀ (l : List V) (m : Lo) (H : Hp), I l m H → forGo turn src H₀ Q l m H := by
  intro l
  induction l with
  | nil => exact fun m H h => ⟨hst _ _ _ h, h0 _ _ h⟩
  | cons x r ih => exact fun m H h => ⟨hst _ _ _ h, h1 x r m H h _ ih⟩
theorem compGo_ind {turn : V → (V → Hp → Prop) → Hp → Prop} {src : Option Addr} {H₀ : Hp} {K : List V → Hp → Prop}
    (I : List V → List V → Hp → Prop) (hst : ∀ r acc H, I r acc H → StillAt src H₀ H) (h0 : ∀ acc H, I [] acc H → K acc H)
    (h1 : ∀ x r acc H, I (x :: r) acc H → ∀ K : V → Hp → Prop, (∀ v H', I r (acc ++ [v]) H' → K v H') → turn x K H) : ∀ (l acc : List V) (H : Hp), I l acc H → compGo turn src H₀ K l acc H := by
  intro l
  induction l with
  | nil => exact fun acc H h => ⟨hst _ _ _ h, h0 _ _ h⟩
  | cons x r ih => exact fun acc H h => ⟨hst _ _ _ h, h1 x r acc H h _ fun v H' q => ih _ H' q⟩
variable {m : Lo} {H H' : Hp} {Q : V → Hp → Prop} {SQ : Fl → Lo → Hp → Prop} {ss a b : Ss} {x y z o e t : X} {xs : Xs} {i j : Nat} {v u : V} {op : Operator} {cop : CmpOp} {f : Str} {K : Bool → Hp → Prop}
theorem lo_self : (m.put i v) i = some v := by simp [Lo.put]
theorem lo_ne (h : Nat.beq j i = false) (e : m j = some u) : (m.put i v) j = some u := by simp [Lo.put, Nat.ne_of_beq_eq_false h, e]
theorem lo_del (h : Nat.beq j i = false) (e : m j = some u) : (m.del i) j = some u := by simp [Lo.del, Nat.ne_of_beq_eq_false h, e]
theorem hp_self {d : Addr} {ob : O} : (H.put d ob) d = some ob := Hp.put_self
theorem w_asg (h : awp c n e m (fun v H' => swps c n ss SQ (m.put i v) H') H) : swps c n (.cons (.asg i e) ss) SQ m H := h
theorem w_asg2 (h : awp c n x m (fun v => awp c n y m (fun u H' => swps c n ss SQ ((m.put j u).put i v) H')) H) : swps c n (.cons (.asg2 i j x y) ss) SQ m H := h
theorem w_asgAttr (h : awp c n e m (fun v => awp c n o m (fun ov H' => ∃ a C dx fs, ov = .ref a ∧ H' a = some (.inst C dx fs) ∧ c.fld C f = true ∧ fs.length < 100 ∧ (∀ u, v ≠ .fn u) ∧ swps c n ss SQ m (H'.put a (.inst C dx (putF fs f v))))) H) : swps c n (.cons (.asgAttr o f e) ss) SQ m H := h
noncomputable def storeQ (ov kv v : V) (R : Hp → Prop) (H' : Hp) : Prop :=
  (∃ a i l, ov = .ref a ∧ kv = .int i ∧ H' a = some (.list l) ∧ 0 ≤ i ∧ i < 100000 ∧ i < l.length ∧ R (H'.put a (.list (l.set i.toNat v)))) ∨
  (∃ a i es, ov = .ref a ∧ kv = .int i ∧ H' a = some (.dictI es) ∧ es.length < 100000 ∧ R (H'.put a (.dictI (putI es i v)))) ∨
  (∃ a ks es, ov = .ref a ∧ kv = .tup (ks.map V.int) ∧ H' a = some (.dictT es) ∧ es.length < 100000 ∧ R (H'.put a (.dictT (putI es ks v))))
theorem w_asgSub (h : awp c n e m (fun v => awp c n o m (fun ov => awp c n x m (fun kv H' => storeQ ov kv v (fun H'' => swps c n ss SQ m H'') H'))) H) : swps c n (.cons (.asgSub o x e) ss) SQ m H := h
theorem w_expr (h : awp c n e m (fun v H' => v = .none ∧ swps c n ss SQ m H') H) : swps c n (.cons (.expr e) ss) SQ m H := h
theorem w_iff (h : awp c n t m (isB fun r H' => both (swps c n a (fun f m' H' => match f with | .next => swps c n ss SQ m' H' | .ret v => SQ (.ret v) m' H') m H') (swps c n b (fun f m' H' => match f with | .next => swps c n ss SQ m' H' | .ret v => SQ (.ret v) m' H') m H') r) H) : swps c n (.cons (.iff t a b) ss) SQ m H := h
theorem w_ret (h : awp c n e m (fun v H' => SQ (.ret v) m H') H) : swps c n (.cons (.ret e) ss) SQ m H := h
theorem w_frz {P : Lo → Prop} (h : P m) (k : ∀ m', P m' → swps c n ss SQ m' H) : swps c n ss SQ m H := k m h
theorem w_nil (h : SQ .next m H) : swps c n .nil SQ m H := h
theorem w_for {tg : Tg} (I : Hp → List V → Lo → Hp → Prop)
    (h : ∀ K : V → Hp → Prop, (∀ v H₁, (∃ l src, iterQ H₁ v = some (l, src) ∧ I H₁ l m H₁ ∧ ∀ r m H, I H₁ r m H → StillAt src H₁ H) → K v H₁) → awp c n x m K H)
    (h1 : ∀ (K : Fl → Lo → Hp → Prop) H₁ v r m H, (∀ m'' H', I H₁ r m'' H' → K .next m'' H') → (∀ v m'' H', SQ (.ret v) m'' H' → K (.ret v) m'' H') → I H₁ (v :: r) m H → ∃ m', asgT tg v m = some m' ∧ swps c n a K m' H)
    (h0 : ∀ H₁ m H, I H₁ [] m H → swps c n ss SQ m H) : swps c n (.cons (.for tg x a) ss) SQ m H :=
  h _ fun v H₁ p => p.elim fun l p => p.elim fun src p => ⟨l, src, p.1, forGo_ind (I H₁) p.2.2 (h0 H₁) (fun x r m H hI K hK => h1 (fun f m'' H' => match f with | .next => K m'' H' | .ret v => SQ (.ret v) m'' H') H₁ x r m H hK (fun zz zz zz h => h) hI) l m H₁ p.2.1⟩
theorem w_whl (I : Nat → Lo → Hp → Prop) (k : Nat) (h0 : I k m H)
    (h1 : ∀ (K : Fl → Lo → Hp → Prop) k m H, (∀ m' H'', (∃ j, j < k ∧ I j m' H'') → K .next m' H'') → (∀ v m' H'', SQ (.ret v) m' H'' → K (.ret v) m' H'') → I k m H → awp c n t m (isB fun r H' => both (swps c n a K m H') (swps c n ss SQ m H') r) H) : swps c n (.cons (.whl t a) ss) SQ m H := by
  show swp c n (.whl t a) _ m H
  exact ⟨I, ⟨k, h0⟩, fun k m H hI => h1 (fun f m' H'' => match f with | .next => ∃ j, j < k ∧ I j m' H'' | .ret v => SQ (.ret v) m' H'') k m H (fun zz zz h => h) (fun zz zz zz h => h) hI⟩
theorem w_iffJ (J : Lo → Hp → Prop) (h : ∀ K : Fl → Lo → Hp → Prop, (∀ m'' H', J m'' H' → K .next m'' H') → (∀ v m'' H', SQ (.ret v) m'' H' → K (.ret v) m'' H') → awp c n t m (isB fun r H' => both (swps c n a K m H') (swps c n b K m H') r) H)
    (hj : ∀ m H, J m H → swps c n ss SQ m H) : swps c n (.cons (.iff t a b) ss) SQ m H :=
  h (fun f m' H' => match f with | .next => swps c n ss SQ m' H' | .ret v => SQ (.ret v) m' H') hj (fun zz zz zz h => h)
theorem w_var (h : m i = some v) (q : Q v H) : awp c n (.var i) m Q H := ⟨v, h, q⟩
theorem w_lit (q : Q v H) : awp c n (.lit v) m Q H := q
theorem w_glob (q : Q v H) : awp c n (.glob f v) m Q H := q
theorem w_neg {k : Int} (q : Q (.int (-k)) H) : awp c n (.neg k) m Q H := q
theorem w_bin (h : awp c n x m (fun a => awp c n y m (fun b => binQ op a b Q)) H) : awp c n (.bin op x y) m Q H := h
theorem w_cmp (h : awp c n x m (fun a => awp c n y m (fun b => cmpQ cop a b Q)) H) : awp c n (.cmp cop x y) m Q H := h
theorem w_ite (h : awp c n t m (isB fun r H' => both (awp c n x m Q H') (awp c n y m Q H') r) H) : awp c n (.ite t x y) m Q H := h
theorem w_not (h : awp c n x m (isB fun r H' => Q (.bool !r) H') H) : awp c n (.not x) m Q H := h
theorem w_and (h : awp c n x m (isB fun r H' => both (awp c n y m Q H') (Q (.bool false) H') r) H) : awp c n (.and x y) m Q H := h
theorem w_or (h : awp c n x m (isB fun r H' => both (Q (.bool true) H') (awp c n y m Q H') r) H) : awp c n (.or x y) m Q H := h
theorem w_tup (h : awpL c n xs m (fun vs H' => vs.length ≤ 100000 ∧ Q (.tup vs) H') H) : awp c n (.tup xs) m Q H := h
theorem w_lst (h : awpL c n xs m (newList Q) H) : awp c n (.lst xs) m Q H := h
theorem w_dct {k : Nat} (h : awpL c n xs m (fun l => dctQ k (pairUp l) Q) H) : awp c n (.dct k xs) m Q H := h
theorem w_attr (h : awp c n o m (fun v => attrQ c v f Q) H) : awp c n (.attr o f) m Q H := h
theorem w_sub (h : awp c n o m (fun a => awp c n x m (fun b => subQ a b Q)) H) : awp c n (.sub o x) m Q H := h
theorem w_cutTo (h : awp c n o m (fun a => awp c n x m (fun b => cutToQ a b Q)) H) : awp c n (.cutTo o x) m Q H := h
theorem w_cutFrom (h : awp c n o m (fun a => awp c n x m (fun b => cutFromQ a b Q)) H) : awp c n (.cutFrom o x) m Q H := h
theorem w_rev (h : awp c n o m (fun a => revQ a Q) H) : awp c n (.rev o) m Q H := h
theorem w_call (h : awp c n x m (fun fv => awpL c n xs m (fun vs => CallOK c n fv vs Q)) H) : awp c n (.call x xs) m Q H := h
theorem w_meth (h : awp c n o m (fun ov H₁ => ∃ a C dx fs g, ov = .ref a ∧ H₁ a = some (.inst C dx fs) ∧ lk fs f = none ∧ c.mth C f = some g ∧ awpL c n xs m (fun vs => CallOK c n (.fn (.ref g)) (ov :: vs) Q) H₁) H) : awp c n (.meth o f xs) m Q H := h
theorem w_append (h : awp c n o m (fun a H₁ => isL a H₁ ∧ awp c n x m (fun b => appendQ a b Q) H₁) H) : awp c n (.append o x) m Q H := h
theorem w_pop (h : awp c n o m (fun a H₁ => isL a H₁ ∧ popQ a Q H₁) H) : awp c n (.pop o) m Q H := h
theorem w_extend (h : awp c n o m (fun a H₁ => isL a H₁ ∧ awp c n x m (fun b => extendQ a b Q) H₁) H) : awp c n (.extend o x) m Q H := h
theorem w_index (h : awp c n o m (fun a H₁ => isL a H₁ ∧ awp c n x m (fun b => indexQ a b Q) H₁) H) : awp c n (.index o x) m Q H := h
theorem w_get (h : awp c n o m (fun a H₁ => isD a H₁ ∧ awp c n x m (fun b => awp c n y m (fun e => getQ a b e Q)) H₁) H) : awp c n (.get o x y) m Q H := h
theorem w_setd (h : awp c n o m (fun a H₁ => isD a H₁ ∧ awp c n x m (fun b => awp c n y m (fun e => setdQ a b e Q)) H₁) H) : awp c n (.setd o x y) m Q H := h
theorem w_join (h : awp c n o m (fun a H₁ => isS a H₁ ∧ awp c n x m (fun b => joinQ a b Q) H₁) H) : awp c n (.join o x) m Q H := h
theorem w_len (h : awp c n x m (fun a => lenQ a Q) H) : awp c n (.len x) m Q H := h
theorem w_range1 (h : awp c n x m (fun a H' => ∃ i, a = .int i ∧ i < 100000 ∧ -100000 < i ∧ Q (.rng 0 i) H') H) : awp c n (.range1 x) m Q H := h
theorem w_range2 (h : awp c n x m (fun a => awp c n y m (fun b H' => ∃ i j, a = .int i ∧ b = .int j ∧ (i < 100000 ∧ -100000 < i ∧ j < 100000 ∧ -100000 < j) ∧ Q (.rng i j) H')) H) : awp c n (.range2 x y) m Q H := h
theorem w_list (h : awp c n x m (fun a => listQ a Q) H) : awp c n (.list x) m Q H := h
theorem w_tuple (h : awp c n x m (fun a => tupleQ a Q) H) : awp c n (.tuple x) m Q H := h
theorem w_sorted (h : awp c n x m (fun a => sortedQ a Q) H) : awp c n (.sorted x) m Q H := h
theorem w_abs (h : awp c n x m (fun a H' => ∃ i, a = .int i ∧ Q (.int i.natAbs) H') H) : awp c n (.abs x) m Q H := h
theorem w_toInt (h : awp c n x m (fun a H' => ∃ i, a = .int i ∧ Q (.int i) H') H) : awp c n (.toInt x) m Q H := h
theorem w_dict (h : awp c n x m (fun a => dictQ a Q) H) : awp c n (.dict x) m Q H := h
theorem w_comp (I : Hp → List V → List V → Hp → Prop) (h : ∀ K : V → Hp → Prop, (∀ v H₁, (∃ l src, iterQ H₁ v = some (l, src) ∧ l.length ≤ 100000 ∧ I H₁ l [] H₁ ∧ ∀ r acc H, I H₁ r acc H → StillAt src H₁ H) → K v H₁) → awp c n y m K H)
    (h1 : ∀ (K : V → Hp → Prop) H₁ v r acc H, (∀ u H', I H₁ r (acc ++ [u]) H' → K u H') → I H₁ (v :: r) acc H → awp c n x (m.put i v) K H) (h0 : ∀ H₁ acc H, I H₁ [] acc H → newList Q acc H) : awp c n (.comp x i y) m Q H :=
  h _ fun v H₁ p => p.elim fun l p => p.elim fun src p => ⟨l, src, p.1, p.2.1, compGo_ind (I H₁) p.2.2.2 (h0 H₁) (fun v r acc H hI K hK => h1 K H₁ v r acc H hK hI) l [] H₁ p.2.2.1⟩
theorem w_Lnil {LQ : List V → Hp → Prop} (h : LQ [] H) : awpL c n .nil m LQ H := h
theorem w_Lcons {LQ : List V → Hp → Prop} (h : awp c n x m (fun v => awpL c n xs m (fun vs => LQ (v :: vs))) H) : awpL c n (.cons x xs) m LQ H := h
theorem q_isB {r : Bool} (h : K r H) : isB K (.bool r) H := ⟨r, rfl, h⟩
theorem q_both {p : Prop} [Decidable p] {P Q : Prop} (h1 : p → P) (h2 : ¬ p → Q) : both P Q (decide p) := ⟨fun e => h1 (of_decide_eq_true e), fun e => h2 (of_decide_eq_false e)⟩
theorem q_bothn {p : Prop} [Decidable p] {P Q : Prop} (h1 : ¬ p → P) (h2 : p → Q) : both P Q (!decide p) := ⟨fun e => h1 (by simpa using e), fun e => h2 (by simpa using e)⟩
theorem q_bothb {r : Bool} {P Q : Prop} (h1 : r = true → P) (h2 : r = false → Q) : both P Q r := ⟨h1, h2⟩
theorem q_both1 {P Q : Prop} (h : P) : both P Q true := ⟨fun zz => h, fun e => (by cases e)⟩
theorem q_both0 {P Q : Prop} (h : Q) : both P Q false := ⟨fun e => (by cases e), fun zz => h⟩
section
variable {p q : Int}
theorem q_add (h : Q (.int (p + q)) H) : binQ .Add (.int p) (.int q) Q H := .k0 h
theorem q_subt (h : Q (.int (p - q)) H) : binQ .Sub (.int p) (.int q) Q H := .k1 h
theorem q_mul (h0 : Sm p ∨ Sm q) (h : Q (.int (p * q)) H) : binQ .Mult (.int p) (.int q) Q H := .k2 ⟨h0, h⟩
theorem q_div (h0 : 0 < q ∧ q < 1000000) (h : Q (.int (p / q)) H) : binQ .FloorDiv (.int p) (.int q) Q H := .k3 ⟨h0, h⟩
theorem q_mod (h0 : 0 < q ∧ q < 1000000) (h : Q (.int (p % q)) H) : binQ .Mod (.int p) (.int q) Q H := .k4 ⟨h0, h⟩
theorem q_pow (h0 : 0 ≤ q ∧ q ≤ 1000 ∧ Sm p) (h : Q (.int (p ^ q.toNat)) H) : binQ .Pow (.int p) (.int q) Q H := .k5 ⟨h0, h⟩
theorem q_lt (h : Q (.bool (decide (p < q))) H) : cmpQ .Lt (.int p) (.int q) Q H := .k0 h
theorem q_le (h : Q (.bool (decide (p ≤ q))) H) : cmpQ .LtE (.int p) (.int q) Q H := .k1 h
theorem q_gt (h : Q (.bool (decide (q < p))) H) : cmpQ .Gt (.int p) (.int q) Q H := .k2 h
theorem q_ge (h : Q (.bool (decide (q ≤ p))) H) : cmpQ .GtE (.int p) (.int q) Q H := .k3 h
theorem q_eq (h : Q (.bool (decide (p = q))) H) : cmpQ .Eq (.int p) (.int q) Q H := .k4 (.k0 h)
theorem q_ne (h : Q (.bool (!decide (p = q))) H) : cmpQ .NotEq (.int p) (.int q) Q H := .k5 (.k0 h)
end
theorem q_subL {a : Addr} {l : List V} {k : Int} (h : H a = some (.list l)) (h0 : 0 ≤ k) (h1 : k < 100000) (hx : l[k.toNat]? = some v) (q : Q v H) : subQ (.ref a) (.int k) Q H := .k0 (.inl ⟨l, v, h, h0, h1, hx, q⟩)
theorem q_subI {a : Addr} {es : List (Int × V)} {k : Int} (h : H a = some (.dictI es)) (hx : lk es k = some v) (q : Q v H) : subQ (.ref a) (.int k) Q H := .k0 (.inr ⟨es, v, h, hx, q⟩)
theorem q_storeL {a : Addr} {l : List V} {k : Int} {R : Hp → Prop} (h : H a = some (.list l)) (h0 : 0 ≤ k) (h1 : k < 100000) (h2 : k < l.length) (q : R (H.put a (.list (l.set k.toNat v)))) : storeQ (.ref a) (.int k) v R H := .inl ⟨a, k, l, rfl, rfl, h, h0, h1, h2, q⟩
theorem q_storeI {a : Addr} {es : List (Int × V)} {k : Int} {R : Hp → Prop} (h : H a = some (.dictI es)) (h0 : es.length < 100000) (q : R (H.put a (.dictI (putI es k v)))) : storeQ (.ref a) (.int k) v R H := .inr (.inl ⟨a, k, es, rfl, rfl, h, h0, q⟩)
theorem q_storeT {a : Addr} {es : List (List Int × V)} {ks : List Int} {kv : V} {R : Hp → Prop} (hk : kv = .tup (ks.map V.int)) (h : H a = some (.dictT es)) (h0 : es.length < 100000) (q : R (H.put a (.dictT (putI es ks v)))) : storeQ (.ref a) kv v R H := .inr (.inr ⟨a, ks, es, rfl, hk, h, h0, q⟩)
end
end Mine
local macro_rules | `(tactic| walk_at "lo") => `(tactic| repeat (first | exact Mine.lo_self | assumption | (apply Mine.lo_ne; with_unfolding_all exact Eq.refl false) | (apply Mine.lo_del; with_unfolding_all exact Eq.refl false)))
local macro_rules | `(tactic| walk_at "hp") => `(tactic| repeat (first | exact Mine.hp_self | assumption | (apply Mine.put_ne'; first | assumption | (apply Ne.symm; assumption))))
local macro_rules | `(tactic| walk_at "eb") => do
  let ns : List String := ["w_asg", "w_asg2", "w_asgAttr", "w_asgSub", "w_expr", "w_iff", "w_ret", "w_nil", "w_lit", "w_glob", "w_neg", "w_bin", "w_cmp", "w_ite", "w_not", "w_and", "w_or", "w_tup", "w_lst", "w_dct", "w_attr", "w_sub", "w_cutTo", "w_cutFrom", "w_rev", "w_call", "w_meth", "w_append", "w_pop", "w_extend", "w_index", "w_get", "w_setd", "w_join", "w_len", "w_range1", "w_range2", "w_list", "w_tuple", "w_sorted", "w_abs", "w_toInt", "w_dict", "w_Lnil", "w_Lcons", "q_isB", "q_add", "q_subt", "q_lt", "q_le", "q_gt", "q_ge", "q_eq", "q_ne"]
  let z ← `(tactic| (apply Mine.w_var; · walk_at "lo"))
  let t ← ns.foldrM (fun n (t : Lean.TSyntax `tactic) => `(tactic| first | refine $(Lean.mkIdent (.str `Mine n)) ?_ | $t:tactic)) z
  `(tactic| repeat (first | (with_reducible first | refine $(Lean.mkIdent `hK) _ _ ?_ | refine $(Lean.mkIdent `hKr) _ _ _ ?_ | refine $(Lean.mkIdent `hKp) _ ?_ | $t:tactic) | (apply Mine.q_subL; (· walk_at "hp"); (· first | decide | lia); (· first | decide | lia); (· first | rfl | assumption))))
namespace Mine
section
variable {c : Cx} {n : Nat}
noncomputable def PenAt (H : Hp) (a : Addr) (k : Int) : Prop := ∃ p0 p1, H a = some (.list [.int p0, .int p1]) ∧ 0 ≤ p1 ∧ p1 ≤ k
theorem c_draw (W : Wd c) (F : FnAt c 381 bd_law_draw sc_law_draw [62, 28] 2 []) {a : Addr} {k m : Int} {Q : V → Hp → Prop} {H : Hp} (hp : PenAt H a k) (hk : k < 1000) (hm : 1 ≤ m ∧ m < 1000000)
    (q : ∀ d p0 p1, 0 ≤ d → d < m → 0 ≤ p1 → p1 ≤ k + 1 → Q (.int d) (H.put a (.list [.int p0, .int p1]))) : CallOK c (n + 2) (.fn (.ref 381)) [.ref a, .int m] Q H := by
  refine call_at W F (fun env hs E => ok_law_draw W hs E) rfl ?_
  obtain ⟨p0, p1, hp, h0, h1⟩ := hp
  show swps c (n + 1) ir_law_draw _ ((noLo.put 62 (.ref a)).put 28 (.int m)) H
  unfold ir_law_draw
  refine w_iffJ (fun m' H' => m' = (noLo.put 62 (.ref a)).put 28 (.int m) ∧ ∃ p0 p1, H' a = some (.list [.int p0, .int p1]) ∧ 0 ≤ p1 ∧ p1 ≤ k + 1 ∧ ∀ o, H'.put a o = H.put a o) (fun K hK hKr => ?_) ?_
  · walk_at "eb"
    refine q_both (fun zz => ?_) fun zz => ?_
    · walk_at "eb"
      refine q_storeL hp (by lia) (by lia) (by simp) ?_
      walk_at "eb"
      refine q_pow ⟨by decide, by decide, ?_⟩ ?_
      · unfold Sm; show (p1 + 1).natAbs < _; lia
      walk_at "eb"
      refine q_mul (.inl (by unfold Sm; decide)) ?_
      walk_at "eb"
      refine q_storeL hp_self (by lia) (by lia) (by simp) ?_
      walk_at "eb"
      exact ⟨rfl, _, _, hp_self, by lia, by lia, fun o => by rw [put_put, put_put]⟩
    · walk_at "eb"
      exact ⟨rfl, p0, p1, hp, h0, by lia, fun o => rfl⟩
  · rintro m' H' ⟨rfl, p0, p1, hp, h0, h1, e⟩
    walk_at "eb"
    refine q_mod ⟨by lia, by lia⟩ ?_
    walk_at "eb"
    refine q_div ⟨by lia, by lia⟩ ?_
    walk_at "eb"
    refine q_storeL hp (by lia) (by lia) (by simp) ?_
    walk_at "eb"
    rw [e]
    exact q _ _ _ (Int.emod_nonneg _ (by lia)) (Int.emod_lt_of_pos _ (by lia)) h0 h1
end
end Mine
set_option tactic.hygienic false
open PySem PySem.W PySem.Calls PyProof PyProof.Rows PySem.SeqAt
set_option maxRecDepth 100000
set_option maxHeartbeats 4000000
namespace Mine
section
variable {c : Cx} {n : Nat} {m : Lo} {H H' : Hp} {Q : V → Hp → Prop} {SQ : Fl → Lo → Hp → Prop} {ss a b : Ss} {x y z o e t : X} {xs : Xs} {i j : Nat} {v u : V}
theorem w_forG {tg : Tg} {l : List V} {src : Option Addr} (I : Nat → Lo → Hp → Prop)
    (h : ∀ K : V → Hp → Prop, (∀ v H₁, (iterQ H₁ v = some (l, src) ∧ I 0 m H₁ ∧ ∀ j m H, I j m H → StillAt src H₁ H) → K v H₁) → awp c n x m K H)
    (h1 : ∀ (K : Fl → Lo → Hp → Prop) j v m H, (∀ m'' H', I (j + 1) m'' H' → K .next m'' H') → (∀ v m'' H', SQ (.ret v) m'' H' → K (.ret v) m'' H') → l[j]? = some v → I j m H → ∃ m', asgT tg v m = some m' ∧ swps c n a K m' H)
    (h0 : ∀ m H, I l.length m H → swps c n ss SQ m H) : swps c n (.cons (.for tg x a) ss) SQ m H := by
  refine w_for (fun H₁ r m H => (∃ j, r = l.drop j ∧ j ≤ l.length ∧ I j m H) ∧ ∀ j m H, I j m H → StillAt src H₁ H) ?_ ?_ ?_
  · refine fun K hK => h K fun v H₁ p => hK _ _ ⟨l, src, p.1, ⟨⟨0, by simp, Nat.zero_le _, p.2.1⟩, p.2.2⟩, ?_⟩
    rintro r m H ⟨⟨j, _, _, hI⟩, hs⟩
    exact hs _ _ _ hI
  · rintro K H₁ v r m H hK hKr ⟨⟨j, e, hj, hI⟩, hs⟩
    have hx : l[j]? = some v := by
      have := congrArg (fun z => z[0]?) e.symm
      simpa [List.getElem?_drop] using this
    have hr : r = l.drop (j + 1) := by
      have := congrArg (List.drop 1) e
      simpa [List.drop_drop] using this
    exact h1 K j v m H (fun m'' H' h => hK _ _ ⟨⟨j + 1, hr, (List.getElem?_eq_some_iff.mp hx).1, h⟩, hs⟩) hKr hx hI
  · rintro H₁ m H ⟨⟨j, e, hj, hI⟩, hs⟩
    have : l.length ≤ j := by simpa using e.symm
    obtain rfl : j = l.length := by lia
    exact h0 m H hI
theorem it_list {a : Addr} {l : List V} (h : H a = some (.list l)) : iterQ H (.ref a) = some (l, some a) := by simp [iterQ, h]
theorem it_dict {a : Addr} {es : List (Int × V)} (h : H a = some (.dictI es)) : iterQ H (.ref a) = some (es.map (fun e => .int e.1), some a) := by simp [iterQ, h]
theorem w_forR {tg : Tg} (lo hi : Int) (I : Nat → Lo → Hp → Prop) (h : ∀ K : V → Hp → Prop, (∀ v H₁, v = .rng lo hi ∧ I 0 m H₁ → K v H₁) → awp c n x m K H)
    (h1 : ∀ (K : Fl → Lo → Hp → Prop) j m H, (∀ m'' H', I (j + 1) m'' H' → K .next m'' H') → (∀ v m'' H', SQ (.ret v) m'' H' → K (.ret v) m'' H') → j < (hi - lo).toNat → I j m H → ∃ m', asgT tg (.int (lo + (j : Int))) m = some m' ∧ swps c n a K m' H)
    (h0 : ∀ m H, I (hi - lo).toNat m H → swps c n ss SQ m H) : swps c n (.cons (.for tg x a) ss) SQ m H := by
  refine w_forG (l := (List.range (hi - lo).toNat).map fun (k : Nat) => V.int (lo + (k : Int))) (src := none) I ?_ ?_ ?_
  · exact fun K hK => h K fun v H₁ p => hK _ _ ⟨by rw [p.1]; rfl, p.2, fun j m H zz a ha => by cases ha⟩
  · intro K j v m H hK hKr hv hI
    rw [List.getElem?_map] at hv
    obtain ⟨k, hk, rfl⟩ := Option.map_eq_some_iff.mp hv
    obtain ⟨hlt, ek⟩ := List.getElem?_eq_some_iff.mp hk
    simp only [List.length_range] at hlt
    simp only [List.getElem_range] at ek
    subst ek
    exact h1 K j m H hK hKr hlt hI
  · intro m H hI
    exact h0 m H (by simpa using hI)
theorem w_forL {tg : Tg} (d : Addr) (l : List V) (I : Nat → Lo → Hp → Prop) (h : ∀ K : V → Hp → Prop, (∀ v H₁, v = .ref d ∧ H₁ d = some (.list l) ∧ I 0 m H₁ → K v H₁) → awp c n x m K H) (hs : ∀ j m H, I j m H → H d = some (.list l))
    (h1 : ∀ (K : Fl → Lo → Hp → Prop) j v m H, (∀ m'' H', I (j + 1) m'' H' → K .next m'' H') → (∀ v m'' H', SQ (.ret v) m'' H' → K (.ret v) m'' H') → l[j]? = some v → I j m H → ∃ m', asgT tg v m = some m' ∧ swps c n a K m' H)
    (h0 : ∀ m H, I l.length m H → swps c n ss SQ m H) : swps c n (.cons (.for tg x a) ss) SQ m H := by
  refine w_forG (l := l) (src := some d) I ?_ h1 h0
  exact fun K hK => h K fun v H₁ p => hK _ _ ⟨by rw [p.1]; exact it_list p.2.1, p.2.2, fun j m H hI a ha => by cases ha; rw [hs j m H hI, p.2.1]⟩
theorem w_forT {tg : Tg} (l : List V) (I : Nat → Lo → Hp → Prop) (h : ∀ K : V → Hp → Prop, (∀ v H₁, v = .tup l ∧ I 0 m H₁ → K v H₁) → awp c n x m K H)
    (h1 : ∀ (K : Fl → Lo → Hp → Prop) j v m H, (∀ m'' H', I (j + 1) m'' H' → K .next m'' H') → (∀ v m'' H', SQ (.ret v) m'' H' → K (.ret v) m'' H') → l[j]? = some v → I j m H → ∃ m', asgT tg v m = some m' ∧ swps c n a K m' H)
    (h0 : ∀ m H, I l.length m H → swps c n ss SQ m H) : swps c n (.cons (.for tg x a) ss) SQ m H := by
  refine w_forG (l := l) (src := none) I ?_ h1 h0
  exact fun K hK => h K fun v H₁ p => hK _ _ ⟨by rw [p.1]; rfl, p.2, fun j m H zz a ha => by cases ha⟩
theorem w_compG {l : List V} {src : Option Addr} (I : Nat → List V → Hp → Prop)
    (h : ∀ K : V → Hp → Prop, (∀ v H₁, (iterQ H₁ v = some (l, src) ∧ l.length ≤ 100000 ∧ I 0 [] H₁ ∧ ∀ j acc H, I j acc H → StillAt src H₁ H) → K v H₁) → awp c n y m K H)
    (h1 : ∀ (K : V → Hp → Prop) j v acc H, (∀ u H', I (j + 1) (acc ++ [u]) H' → K u H') → l[j]? = some v → I j acc H → awp c n x (m.put i v) K H) (h0 : ∀ acc H, I l.length acc H → newList Q acc H) : awp c n (.comp x i y) m Q H := by
  refine w_comp (fun H₁ r acc H => (∃ j, r = l.drop j ∧ j ≤ l.length ∧ I j acc H) ∧ ∀ j acc H, I j acc H → StillAt src H₁ H) ?_ ?_ ?_
  · refine fun K hK => h K fun v H₁ p => hK _ _ ⟨l, src, p.1, p.2.1, ⟨⟨0, by simp, Nat.zero_le _, p.2.2.1⟩, p.2.2.2⟩, ?_⟩
    rintro r acc H ⟨⟨j, _, _, hI⟩, hs⟩
    exact hs _ _ _ hI
  · rintro K H₁ v r acc H hK ⟨⟨j, e, hj, hI⟩, hs⟩
    have hx : l[j]? = some v := by
      have := congrArg (fun z => z[0]?) e.symm
      simpa [List.getElem?_drop] using this
    have hr : r = l.drop (j + 1) := by
      have := congrArg (List.drop 1) e
      simpa [List.drop_drop] using this
    exact h1 K j v acc H (fun u H' h => hK u H' ⟨⟨j + 1, hr, (List.getElem?_eq_some_iff.mp hx).1, h⟩, hs⟩) hx hI
  · rintro H₁ acc H ⟨⟨j, e, hj, hI⟩, hs⟩
    have : l.length ≤ j := by simpa using e.symm
    obtain rfl : j = l.length := by lia
    exact h0 acc H hI
theorem q_cutTo {d : Addr} {l : List V} {k : Int} (h : H d = some (.list l)) (hl : l.length < 100000) (h0 : 0 ≤ k) (q : ∀ d, H d = none → Q (.ref d) (H.put d (.list (l.take k.toNat)))) : cutToQ (.ref d) (.int k) Q H := .k0 ⟨l, .inl h, hl, h0, q⟩
theorem q_cutToR {d : Addr} {l : List V} {k : Int} (h : H d = some (.rolist l)) (hl : l.length < 100000) (h0 : 0 ≤ k) (q : ∀ d, H d = none → Q (.ref d) (H.put d (.list (l.take k.toNat)))) : cutToQ (.ref d) (.int k) Q H := .k0 ⟨l, .inr h, hl, h0, q⟩
theorem q_cutFrom {d : Addr} {l : List V} {k : Int} (h : H d = some (.list l)) (hl : l.length < 100000) (h0 : 0 ≤ k) (q : ∀ d, H d = none → Q (.ref d) (H.put d (.list (l.drop k.toNat)))) : cutFromQ (.ref d) (.int k) Q H := .k0 ⟨l, h, hl, h0, q⟩
theorem q_newList {l : List V} (hz : l.length ≤ 100000) (q : ∀ d, H d = none → Q (.ref d) (H.put d (.list l))) : newList Q l H := ⟨hz, q⟩
theorem asg_one {k : Nat} : asgT (.one k) v m = some (m.put k v) := rfl
theorem c_pen (W : Wd c) (F : FnAt c 374 bd_law_pen sc_law_pen [60] 1 []) {a : Addr} {ns : List Int} (ha : H a = some (.rolist (ns.map V.int))) (hz : ns.length < 100000)
    (q : ∀ d N H', Hle H H' → H d = none → H' d = some (.list [.int N, .int 0]) → Q (.ref d) H') : CallOK c (n + 2) (.fn (.ref 374)) [.ref a] Q H := by
  refine call_at W F (fun env hs E => ok_law_pen W hs E) rfl ?_
  show swps c (n + 1) ir_law_pen _ (noLo.put 60 (.ref a)) H
  unfold ir_law_pen
  walk_at "eb"
  refine w_for (fun H₁ r m' H' => (∃ N, m' 14 = some (.int N)) ∧ (∀ x ∈ r, ∃ i, x = V.int i) ∧ H' = H₁ ∧ Hle H H₁) (fun K hK => ?_) ?_ ?_
  · walk_at "eb"
    refine q_cutToR ha (by simpa using hz) (by decide) fun d hd => hK _ _ ⟨_, _, it_list hp_self, ⟨⟨_, by walk_at "lo"⟩, fun x hx => ?_, rfl, (Hle.refl H).put hd _⟩, ?_⟩
    · have := List.mem_of_mem_take hx
      obtain ⟨i, _, rfl⟩ := List.mem_map.mp this
      exact ⟨i, rfl⟩
    · rintro r m H' ⟨_, _, rfl, _⟩ b _
      rfl
  · rintro K H₁ v r m' H' hK hKr ⟨⟨N, hN⟩, hr, rfl, hle⟩
    obtain ⟨i, rfl⟩ := hr v (by simp)
    refine ⟨_, asg_one, ?_⟩
    walk_at "eb"
    refine q_mul (.inr (by unfold Sm; decide)) ?_
    walk_at "eb"
    refine ⟨i, rfl, ?_⟩
    refine ⟨i, rfl, ?_⟩
    refine q_mul (.inl (by unfold Sm; decide)) ?_
    walk_at "eb"
    refine q_both (fun zz => ?_) fun zz => ?_
    · walk_at "eb"
      exact ⟨⟨_, lo_self⟩, fun x hx => hr x (by simp [hx]), rfl, hle⟩
    · walk_at "eb"
      exact ⟨⟨_, lo_self⟩, fun x hx => hr x (by simp [hx]), rfl, hle⟩
  · rintro H₁ m' H' ⟨⟨N, hN⟩, _, rfl, hle⟩
    walk_at "eb"
    refine q_newList (by simp) fun d hd => ?_
    exact q d N _ (hle.put (hle.non hd) _) (hle.non hd) hp_self
noncomputable def fact : Nat → Int
  | 0 => 1
  | k + 1 => fact k * (k + 1)
theorem fact_pos : ∀ k, 0 < fact k
  | 0 => by decide
  | k + 1 => by unfold fact; exact Int.mul_pos (fact_pos k) (by lia)
theorem c_factorial (W : Wd c) (F : FnAt c 388 bd_law_factorial sc_law_factorial [28] 1 []) {k : Nat} (hk : k ≤ 9) (q : Q (.int (fact k)) H) : CallOK c (n + 2) (.fn (.ref 388)) [.int k] Q H := by
  refine call_at W F (fun env hs E => ok_law_factorial W hs E) rfl ?_
  show swps c (n + 1) ir_law_factorial _ (noLo.put 28 (.int k)) H
  unfold ir_law_factorial
  walk_at "eb"
  refine w_forR 2 ((k : Int) + 1) (fun j m' H' => m' 7 = some (.int (fact (j + 1))) ∧ H' = H) (fun K hK => ?_) ?_ ?_
  · walk_at "eb"
    exact ⟨2, _, rfl, rfl, ⟨by lia, by lia, by lia, by lia⟩, hK _ _ ⟨ rfl, by walk_at "lo", rfl⟩⟩
  · rintro K j m' H' hK hKr hj ⟨h7, rfl⟩
    refine ⟨_, asg_one, ?_⟩
    walk_at "eb"
    refine q_mul ?_ ?_
    · right; unfold Sm; lia
    walk_at "eb"
    refine ⟨?_, rfl⟩
    rw [lo_self]
    congr 2
    show _ = fact (j + 1) * ((j : Int) + 1 + 1)
    congr 1; lia
  · rintro m' H' ⟨h7, rfl⟩
    walk_at "eb"
    have : fact (((k : Int) + 1 - 2).toNat + 1) = fact k := by
      cases k with
      | zero => rfl
      | succ k => congr 1; lia
    rw [this]; exact q
end
end Mine
set_option tactic.hygienic false
open PySem PySem.W PySem.Calls PyProof PyProof.Rows PySem.SeqAt
set_option maxRecDepth 100000
set_option maxHeartbeats 4000000
namespace Mine
noncomputable def sg (b : Bool) : Str := if b then ⟨#[98]⟩ else ⟨#[97]⟩
noncomputable def wordS (w : List Bool) : Str := ⟨(w.map fun b => if b then 98 else 97).toArray⟩
theorem strA : ("a" : Str) = ⟨#[97]⟩ := by decide +kernel
theorem strB : ("b" : Str) = ⟨#[98]⟩ := by decide +kernel
noncomputable def dTerm (n : Nat) (c2 c3 c4 : Int) (four three : Nat) : Int :=
  if 2 * three + 3 * four ≤ n - 1 then
    let two := n - 1 - 2 * three - 3 * four
    ((((fact (n + two + three + four - 1) / fact n) / fact two) / fact three) / fact four) * c2 ^ two * c3 ^ three * c4 ^ four
  else 0
noncomputable def sumTo (f : Nat → Int) : Nat → Int
  | 0 => 0
  | k + 1 => sumTo f k + f k
noncomputable def dSum (n : Nat) (c2 c3 c4 : Int) : Int := sumTo (fun four => sumTo (fun three => dTerm n c2 c3 c4 four three) n) n
noncomputable def prodS (sa sb : Int) : List Bool → Int
  | [] => 1
  | b :: r => (if b then sb else sa) * prodS sa sb r
section
variable {c : Cx} {n : Nat} {H H' : Hp} {Q : V → Hp → Prop}
noncomputable def dCop (c2 c3 c4 : Int) : List (Int × V) := [(2, .int c2), (3, .int c3), (4, .int c4)]
noncomputable def dSig (sa sb : Int) : List (Str × V) := [("a", .int sa), ("b", .int sb)]
noncomputable def Few (c2 c3 c4 : Int) : Prop := (0 ≤ c2 ∧ c2 ≤ 2) ∧ (0 ≤ c3 ∧ c3 ≤ 2) ∧ 0 ≤ c4 ∧ c4 ≤ 1
theorem pow_sm {x : Int} (h : 0 ≤ x ∧ x ≤ 2) : ∀ k : Nat, k ≤ 5 → Sm (x ^ k) := by
  intro k hk
  have hx : x = 0 ∨ x = 1 ∨ x = 2 := by lia
  have : k = 0 ∨ k = 1 ∨ k = 2 ∨ k = 3 ∨ k = 4 ∨ k = 5 := by lia
  unfold Sm
  rcases hx with rfl | rfl | rfl <;> rcases this with rfl | rfl | rfl | rfl | rfl | rfl <;> decide
theorem fact_lt : ∀ k, k ≤ 9 → fact k < 1000000 := by
  intro k hk
  have : k = 0 ∨ k = 1 ∨ k = 2 ∨ k = 3 ∨ k = 4 ∨ k = 5 ∨ k = 6 ∨ k = 7 ∨ k = 8 ∨ k = 9 := by lia
  rcases this with rfl | rfl | rfl | rfl | rfl | rfl | rfl | rfl | rfl | rfl <;> decide
theorem c_due (W : Wd c) (F : FnAt c 395 bd_law_due sc_law_due [64, 65, 32] 3 []) (Ff : FnAt c 388 bd_law_factorial sc_law_factorial [28] 1 []) {dc ds : Addr} {c2 c3 c4 sa sb : Int} {w : List Bool} (hc : H dc = some (.dictI (dCop c2 c3 c4))) (hsg : H ds = some (.dictS (dSig sa sb)))
    (few : Few c2 c3 c4) (hs : (1 ≤ sa ∧ sa ≤ 2) ∧ 1 ≤ sb ∧ sb ≤ 2) (hw : 1 ≤ w.length ∧ w.length ≤ 5) (q : Q (.int (dSum w.length c2 c3 c4 * prodS sa sb w)) H) : CallOK c (n + 4) (.fn (.ref 395)) [.ref dc, .ref ds, .str (wordS w)] Q H := by
  refine call_at W F (fun env hs E => ok_law_due W hs E) rfl ?_
  show swps c (n + 3) ir_law_due _ (((noLo.put 64 (.ref dc)).put 65 (.ref ds)).put 32 (.str (wordS w))) H
  unfold ir_law_due
  obtain ⟨⟨h2, h2'⟩, ⟨h3, h3'⟩, h4, h4'⟩ := few
  have hlen : (wordS w).cps.size = w.length := by simp [wordS]
  have hSm : ∀ j, j ≤ w.length → True := fun zz zz => trivial
  walk_at "eb"
  constructor; refine ⟨by rw [hlen]; lia, ?_⟩
  rw [hlen]
  walk_at "eb"
  refine w_forR 0 (w.length : Int) (fun f m' H' => H' = H ∧ m' 64 = some (.ref dc) ∧ m' 65 = some (.ref ds) ∧ m' 32 = some (.str (wordS w)) ∧ m' 68 = some (.int w.length) ∧ m' 7 = some (.int (sumTo (fun four => sumTo (fun three => dTerm w.length c2 c3 c4 four three) w.length) f))) (fun K hK => ?_) ?_ ?_
  · walk_at "eb"
    exact ⟨_, rfl, by lia, by lia, hK _ _ ⟨ rfl, rfl, by walk_at "lo", by walk_at "lo", by walk_at "lo", by walk_at "lo", by walk_at "lo"⟩⟩
  · rintro K f m' H' hK hKr hf ⟨rfl, e64, e65, e32, e68, e7⟩
    have hf' : f < w.length := by lia
    refine ⟨_, asg_one, ?_⟩
    refine w_forR 0 (w.length : Int) (fun t m' H'' => H'' = H' ∧ m' 64 = some (.ref dc) ∧ m' 65 = some (.ref ds) ∧ m' 32 = some (.str (wordS w)) ∧ m' 68 = some (.int w.length) ∧ m' 66 = some (.int f) ∧ m' 7 = some (.int (sumTo (fun four => sumTo (fun three => dTerm w.length c2 c3 c4 four three) w.length) f + sumTo (fun three => dTerm w.length c2 c3 c4 f three) t))) (fun K hK => ?_) ?_ ?_
    · walk_at "eb"
      refine ⟨_, rfl, by lia, by lia, hK _ _ ⟨ rfl, rfl, by walk_at "lo", by walk_at "lo", by walk_at "lo", by walk_at "lo", ?_, ?_⟩⟩
      · rw [lo_self]; simp
      · simp only [sumTo, Int.add_zero]; walk_at "lo"
    · rintro K t m'' H'' hK hKr ht ⟨rfl, e64, e65, e32, e68, e66, e7⟩
      have ht' : t < w.length := by lia
      refine ⟨_, asg_one, ?_⟩
      walk_at "eb"
      refine q_mul (.inl (by unfold Sm; decide)) ?_
      walk_at "eb"
      refine q_mul (.inl (by unfold Sm; decide)) ?_
      walk_at "eb"
      refine q_both (fun htwo => ?_) fun htwo => ?_
      · have hle : 2 * t + 3 * f ≤ w.length - 1 := by lia
        generalize hT : w.length - 1 - 2 * t - 3 * f = T
        have hT5 : T ≤ 4 := by lia
        walk_at "eb"
        have eK : (w.length : Int) + ((w.length : Int) - 1 - 2 * (0 + (t : Int)) - 3 * (f : Int)) + (0 + (t : Int)) + (f : Int) - 1 = ((w.length + T + t + f - 1 : Nat) : Int) := by lia
        have eT : (w.length : Int) - 1 - 2 * (0 + (t : Int)) - 3 * (f : Int) = (T : Int) := by lia
        have et : (0 + (t : Int)) = (t : Int) := by lia
        rw [eK]
        refine CallOK.up (n := n + 2) (c_factorial W Ff (by lia) ?_) (nle rfl)
        rw [eT, et]
        refine w_forT ([w.length, T, t, f].map fun (k : Nat) => V.int k) (fun j m' H4 => H4 = H'' ∧ m' 64 = some (.ref dc) ∧ m' 65 = some (.ref ds) ∧ m' 32 = some (.str (wordS w)) ∧ m' 68 = some (.int w.length) ∧ m' 66 = some (.int f) ∧ m' 70 = some (.int T) ∧ m' 69 = some (.int t) ∧
          m' 7 = some (.int (sumTo (fun four => sumTo (fun three => dTerm w.length c2 c3 c4 four three) w.length) f + sumTo (fun three => dTerm w.length c2 c3 c4 f three) t)) ∧ m' 28 = some (.int (([w.length, T, t, f].take j).foldl (fun a k => a / fact k) (fact (w.length + T + t + f - 1))))) (fun K hK => ?_) ?_ ?_
        · walk_at "eb"
          refine ⟨by simp, ?_⟩
          exact hK _ _ ⟨rfl, rfl, by walk_at "lo", by walk_at "lo", by walk_at "lo", by walk_at "lo", by walk_at "lo", by walk_at "lo", by walk_at "lo", by walk_at "lo", by walk_at "lo"⟩
        · rintro K j v m3 H3 hK hKr hv ⟨rfl, a64, a65, a32, a68, a66, a70, a69, a7, a28⟩
          rw [List.getElem?_map] at hv
          obtain ⟨k, hk, rfl⟩ := Option.map_eq_some_iff.mp hv
          refine ⟨_, asg_one, ?_⟩
          walk_at "eb"
          have hk9 : k ≤ 9 := by
            have := List.mem_of_getElem? hk
            simp only [List.mem_cons, List.not_mem_nil, or_false] at this
            lia
          refine CallOK.up (n := n + 2) (c_factorial W Ff hk9 ?_) (nle rfl)
          refine q_div ⟨fact_pos k, fact_lt k hk9⟩ ?_
          walk_at "eb"
          refine ⟨rfl, by walk_at "lo", by walk_at "lo", by walk_at "lo", by walk_at "lo", by walk_at "lo", by walk_at "lo", by walk_at "lo", by walk_at "lo", ?_⟩
          rw [lo_self, List.take_add_one, hk]
          simp [List.foldl_append]
        · rintro m3 H3 ⟨rfl, a64, a65, a32, a68, a66, a70, a69, a7, a28⟩
          walk_at "eb"
          refine q_subI hc (v := .int c2) rfl ?_
          walk_at "eb"
          refine q_pow ⟨by lia, by lia, by unfold Sm; lia⟩ ?_
          refine q_mul (.inr (by simpa using pow_sm ⟨h2, h2'⟩ T (by lia))) ?_
          walk_at "eb"
          refine q_subI hc (v := .int c3) rfl ?_
          walk_at "eb"
          refine q_pow ⟨by lia, by lia, by unfold Sm; lia⟩ ?_
          refine q_mul (.inr (by simpa using pow_sm ⟨h3, h3'⟩ t (by lia))) ?_
          walk_at "eb"
          refine q_subI hc (v := .int c4) rfl ?_
          walk_at "eb"
          refine q_pow ⟨by lia, by lia, by unfold Sm; lia⟩ ?_
          refine q_mul (.inr (by simpa using pow_sm ⟨h4, by lia⟩ f (by lia))) ?_
          walk_at "eb"
          refine ⟨rfl, by walk_at "lo", by walk_at "lo", by walk_at "lo", by walk_at "lo", by walk_at "lo", ?_⟩
          rw [lo_self]
          congr 2
          rw [sumTo, Int.add_assoc]
          congr 2
          unfold dTerm
          rw [if_pos hle, hT]
          simp
      · walk_at "eb"
        refine ⟨rfl, by walk_at "lo", by walk_at "lo", by walk_at "lo", by walk_at "lo", by walk_at "lo", ?_⟩
        have hle : ¬ 2 * t + 3 * f ≤ w.length - 1 := by lia
        have e0 : dTerm w.length c2 c3 c4 f t = 0 := by unfold dTerm; rw [if_neg hle]
        rw [sumTo, e0, Int.add_zero]
        walk_at "lo"
    · rintro m'' H'' ⟨rfl, e64, e65, e32, e68, e66, e7⟩
      refine w_nil (hK _ _ ?_)
      refine ⟨rfl, e64, e65, e32, e68, ?_⟩
      rw [e7]
      simp [sumTo]
  · rintro m' H' ⟨rfl, e64, e65, e32, e68, e7⟩
    have eS : (0 : Int).toNat = 0 := rfl
    have hcp : (wordS w).cps.toList.map (fun ch => V.str ⟨#[ch]⟩) = w.map fun b => V.str (sg b) := by
      simp only [wordS, List.map_map]
      refine List.map_congr_left fun b zz => ?_
      cases b <;> rfl
    refine w_forG (l := w.map fun b => V.str (sg b)) (src := none) (fun j m' H'' => H'' = H' ∧ m' 65 = some (.ref ds) ∧ m' 7 = some (.int (dSum w.length c2 c3 c4 * prodS sa sb (w.take j)))) (fun K hK => ?_) ?_ ?_
    · walk_at "eb"
      refine ⟨by rw [← hcp]; rfl, ⟨rfl, by walk_at "lo", ?_⟩, fun j m H zz a ha => by cases ha⟩
      rw [e7]
      simp [dSum, prodS]
    · rintro K j v m3 H3 hK hKr hv ⟨rfl, a65, a7⟩
      rw [List.getElem?_map] at hv
      obtain ⟨b, hb, rfl⟩ := Option.map_eq_some_iff.mp hv
      refine ⟨_, asg_one, ?_⟩
      walk_at "eb"
      constructor; refine ⟨dSig sa sb, .int (if b then sb else sa), hsg, ?_, ?_⟩
      · cases b
        · show (if ("a" : Str) = ⟨#[97]⟩ then _ else _) = _
          rw [if_pos strA]; rfl
        · show (if ("a" : Str) = ⟨#[98]⟩ then _ else (if ("b" : Str) = ⟨#[98]⟩ then _ else _)) = _
          rw [if_neg (by rw [strA]; decide), if_pos strB]; rfl
      refine q_mul (.inr (by unfold Sm; cases b <;> simp <;> lia)) ?_
      walk_at "eb"
      refine ⟨rfl, by walk_at "lo", ?_⟩
      rw [lo_self]
      congr 2
      rw [Int.mul_assoc]
      congr 1
      have : w.take (j + 1) = w.take j ++ [b] := by rw [List.take_add_one, hb]; rfl
      rw [this]
      have : ∀ (l : List Bool) (b : Bool), prodS sa sb (l ++ [b]) = prodS sa sb l * (if b then sb else sa) := by
        intro l b
        induction l with
        | nil => simp [prodS]
        | cons x r ih => simp [prodS, ih, Int.mul_assoc]
      rw [this]
    · rintro m3 H3 ⟨rfl, a65, a7⟩
      walk_at "eb"
      simpa using q
end
end Mine
set_option tactic.hygienic false
open PySem PySem.W PySem.Calls PyProof PyProof.Rows PySem.SeqAt
set_option maxRecDepth 100000
set_option maxHeartbeats 4000000
namespace Mine
noncomputable abbrev Rt := List (Option Bool)
noncomputable def symS : Option Bool → Str
  | none => "S"
  | some false => "a"
  | some true => "b"
noncomputable def pairV (r : Rt) : V := .tup [.str "S", .tup (r.map fun s => .str (symS s))]
noncomputable def baseR (c2 c3 c4 sa sb : Int) : List Rt :=
  List.replicate c2.toNat [none, none] ++ List.replicate c3.toNat [none, none, none] ++ List.replicate c4.toNat [none, none, none, none] ++ (List.replicate sa.toNat [some false] ++ List.replicate sb.toNat [some true])
noncomputable def Hbut (a : Addr) (H H' : Hp) : Prop := ∀ b o, b ≠ a → H b = some o → H' b = some o
theorem Hbut.put {a d : Addr} {H H' : Hp} (x : Hbut a H H') (e : H d = none) (o : O) : Hbut a H (H'.put d o) := fun b ob hb eb => by
  by_cases q : b = d
  · subst q; rw [e] at eb; cases eb
  · rw [Hp.put_ne q]; exact x b ob hb eb
theorem Hbut.self {a : Addr} {H H' : Hp} (x : Hbut a H H') (o : O) : Hbut a H (H'.put a o) := fun b ob hb eb => by rw [Hp.put_ne hb]; exact x b ob hb eb
theorem Hbut.non {a d : Addr} {H H' : Hp} (x : Hbut a H H') (h : d ≠ a) (e : H' d = none) : H d = none := by
  cases q : H d with
  | none => rfl
  | some o => rw [x d o h q] at e; cases e
theorem Hle.but {a : Addr} {H H' : Hp} (x : Hle H H') : Hbut a H H' := fun b o zz e => x b o e
section
variable {c : Cx} {n : Nat} {m : Lo} {H H' : Hp} {Q : V → Hp → Prop}
theorem compGo_pure {turn : V → (V → Hp → Prop) → Hp → Prop} {H₀ H : Hp} {K : List V → Hp → Prop} (f : V → V) : ∀ (l acc : List V), (∀ x ∈ l, ∀ Q : V → Hp → Prop, Q (f x) H → turn x Q H) → K (acc ++ l.map f) H → compGo turn none H₀ K l acc H
  | [], acc, _, k => ⟨fun a h => (by cases h), by simpa using k⟩
  | x :: r, acc, h, k => ⟨fun a h => (by cases h), h x (by simp) _ (compGo_pure f r (acc ++ [f x]) (fun y hy => h y (by simp [hy])) (by simpa using k))⟩
theorem q_neEmpty {a b : Addr} {l : List V} (h1 : H a = some (.list l)) (h2 : H b = some (.list [])) (q1 : l ≠ [] → Q (.bool true) H) (q2 : l = [] → Q (.bool false) H) : cmpQ .NotEq (.ref a) (.ref b) Q H := by
  by_cases e : l = []
  · subst e; exact .k5 (.k2 ⟨_, _, h1, h2, .inr (.inl ⟨rfl, rfl, q2 rfl⟩)⟩)
  · exact .k5 (.k2 ⟨_, _, h1, h2, .inl ⟨by simpa using e, q1 e⟩⟩)
theorem q_addL {a b : Addr} {l k : List V} (h1 : H a = some (.list l)) (h2 : H b = some (.list k)) (hz : l.length + k.length ≤ 100000) (q : ∀ d, H d = none → Q (.ref d) (H.put d (.list (l ++ k)))) : binQ .Add (.ref a) (.ref b) Q H := .k6 ⟨l, k, h1, h2, hz, q⟩
theorem q_append {a : Addr} {l : List V} {v : V} (h1 : H a = some (.list l)) (hz : l.length < 100000) (q : Q .none (H.put a (.list (l ++ [v])))) : appendQ (.ref a) v Q H := ⟨a, l, rfl, h1, hz, q⟩
theorem w_comp2 {x y z : X} {i j : Nat} (h : awp c n y m (fun v H₁ => ∃ l src, iterQ H₁ v = some (l, src) ∧ l.length ≤ 100000 ∧ compGo2 (fun u => awp c n z ((m.del j).put i u)) (fun u v => awp c n x ((m.put i u).put j v)) src H₁ (newList Q) l [] H₁) H) : awp c n (.comp2 x i y j z) m Q H := h
theorem isL_of {a : Addr} {l : List V} (h : H a = some (.list l)) : isL (.ref a) H := ⟨a, l, rfl, h⟩
theorem range_const (k : Nat) (g : Nat → V) (x : V) : ((List.range k).map g).map (fun zz => x) = List.replicate k x := by
  rw [List.eq_replicate_iff]
  constructor
  · simp
  · intro b hb
    obtain ⟨y, _, e⟩ := List.mem_map.mp hb
    exact e.symm
theorem c_pairs (W : Wd c) (F : FnAt c 400 bd_law_pairs sc_law_pairs [62, 64, 65] 3 []) (Fd : FnAt c 381 bd_law_draw sc_law_draw [62, 28] 2 []) {a dc ds : Addr} {k c2 c3 c4 sa sb : Int} (hp : PenAt H a k) (hk : k < 900) (hc : H dc = some (.dictI (dCop c2 c3 c4))) (hsg : H ds = some (.dictS (dSig sa sb)))
    (few : Few c2 c3 c4) (hs : (1 ≤ sa ∧ sa ≤ 2) ∧ 1 ≤ sb ∧ sb ≤ 2)
    (q : ∀ d H' (L : List Rt), L.Perm (baseR c2 c3 c4 sa sb) → H d = none → H' d = some (.list (L.map pairV)) → Hbut a H H' → PenAt H' a (k + 20) → Q (.ref d) H') : CallOK c (n + 4) (.fn (.ref 400)) [.ref a, .ref dc, .ref ds] Q H := by
  refine call_at W F (fun env hs E => ok_law_pairs W hs E) rfl ?_
  show swps c (n + 3) ir_law_pairs _ (((noLo.put 62 (.ref a)).put 64 (.ref dc)).put 65 (.ref ds)) H
  unfold ir_law_pairs
  obtain ⟨⟨h2, h2'⟩, ⟨h3, h3'⟩, h4, h4'⟩ := few
  have t2 : c2.toNat ≤ 2 := Int.toNat_le.mpr h2'
  have t3 : c3.toNat ≤ 2 := Int.toNat_le.mpr h3'
  have t4 : c4.toNat ≤ 1 := Int.toNat_le.mpr h4'
  have ta : sa.toNat ≤ 2 := Int.toNat_le.mpr hs.1.2
  have tb : sb.toNat ≤ 2 := Int.toNat_le.mpr hs.2.2
  refine w_asg (w_comp2 ?_)
  walk_at "eb"
  have mulT : ∀ {Q : V → Hp → Prop} {H : Hp} (k : Nat), 2 ≤ k → k ≤ 4 → Q (.tup (List.replicate k (V.str "S"))) H → binQ .Mult (.tup [.str "S"]) (.int k) Q H := by
    intro Q H k h1 h2 q
    refine .k8 ⟨⟨by lia, rfl, by lia⟩, ?_⟩
    have : (List.replicate (k : Int).toNat [V.str "S"]).flatten = List.replicate k (V.str "S") := by
      simp
    rw [this]; exact q
  have one : ∀ (k : Nat) (ck : Int) {K : List V → Hp → Prop} {acc : List V}, 2 ≤ k → k ≤ 4 → 0 ≤ ck → ck ≤ 2 → acc.length ≤ 10 → lk (dCop c2 c3 c4) k = some (.int ck) → K (acc ++ List.replicate ck.toNat (pairV (List.replicate k none))) H →
      awp c (n + 3) ((X.var 64).sub (X.var 72)).range1 (((((noLo.put 62 (V.ref a)).put 64 (V.ref dc)).put 65 (V.ref ds)).del 73).put 72 (.int k))
        (fun v H' => ∃ l sr, iterQ H' v = some (l, sr) ∧ acc.length + l.length ≤ 100000 ∧ compGo (fun v => awp c (n + 3)
                (X.tup (Xs.cons (X.lit (V.str "S")) (Xs.cons (X.bin Operator.Mult (X.tup (Xs.cons (X.lit (V.str "S")) Xs.nil)) (X.var 72)) Xs.nil)))
                (((((noLo.put 62 (V.ref a)).put 64 (V.ref dc)).put 65 (V.ref ds)).put 72 (.int k)).put 73 v)) sr H' K l acc H') H := by
    intro k ck K acc hk1 hk2 h1 h2 hacc hlk hK
    walk_at "eb"
    refine q_subI hc hlk ?_
    refine ⟨ck, rfl, by lia, by lia, ?_⟩
    refine ⟨_, _, rfl, by simp; lia, compGo_pure (fun zz => pairV (List.replicate k none)) _ _ (fun x zz Q hq => ?_) ?_⟩
    · walk_at "eb"
      refine ⟨by simp, ?_⟩
      walk_at "eb"
      refine mulT k hk1 hk2 ?_
      walk_at "eb"
      refine ⟨by simp, ?_⟩
      have : pairV (List.replicate k none) = V.tup [V.str "S", V.tup (List.replicate k (V.str "S"))] := by simp [pairV, symS]
      rw [this] at hq
      exact hq
    · rw [range_const]
      simpa using hK
  refine ⟨by simp, _, _, rfl, by simp, ?_⟩
  refine ⟨fun a h => (by cases h), one 2 c2 (by lia) (by lia) h2 h2' (by simp) rfl ?_⟩
  refine ⟨fun a h => (by cases h), one 3 c3 (by lia) (by lia) h3 h3' (by simp; lia) rfl ?_⟩
  refine ⟨fun a h => (by cases h), one 4 c4 (by lia) (by lia) h4 (by lia) (by simp; exact Nat.le_trans (Nat.add_le_add t2 t3) (by decide)) rfl ?_⟩
  refine ⟨fun a h => (by cases h), q_newList (by simp; exact Nat.le_trans (Nat.add_le_add t2 (Nat.add_le_add t3 t4)) (by decide)) fun d0 hd0 => ?_⟩
  have e0 : [] ++ List.replicate c2.toNat (pairV (List.replicate 2 none)) ++ List.replicate c3.toNat (pairV (List.replicate 3 none)) ++ List.replicate c4.toNat (pairV (List.replicate 4 none)) =
    (List.replicate c2.toNat [none, none] ++ List.replicate c3.toNat [none, none, none] ++ List.replicate c4.toNat [none, none, none, none]).map pairV := by simp [List.replicate]
  rw [e0]
  refine w_asg (w_bin ?_)
  walk_at "eb"
  refine w_comp2 ?_
  walk_at "eb"
  have two : ∀ (s : Str) (b : Bool) (ck : Int) {H : Hp} {K : List V → Hp → Prop} {acc : List V}, H ds = some (.dictS (dSig sa sb)) → 1 ≤ ck → ck ≤ 2 → acc.length ≤ 10 → s = symS (some b) → lk (dSig sa sb) s = some (.int ck) → K (acc ++ List.replicate ck.toNat (pairV [some b])) H →
      awp c (n + 3) ((X.var 65).sub (X.var 67)).range1 ((((((noLo.put 62 (V.ref a)).put 64 (V.ref dc)).put 65 (V.ref ds)).put 71 (.ref d0)).del 73).put 67 (.str s))
        (fun v H' => ∃ l sr, iterQ H' v = some (l, sr) ∧ acc.length + l.length ≤ 100000 ∧ compGo (fun v => awp c (n + 3)
                (X.tup (Xs.cons (X.lit (V.str "S")) (Xs.cons (X.tup (Xs.cons (X.var 67) Xs.nil)) Xs.nil)))
                ((((((noLo.put 62 (V.ref a)).put 64 (V.ref dc)).put 65 (V.ref ds)).put 71 (.ref d0)).put 67 (.str s)).put 73 v)) sr H' K l acc H') H := by
    intro s b ck H K acc hsg h1 h2 hacc hs hlk hK
    walk_at "eb"
    constructor; refine ⟨_, _, hsg, hlk, ?_⟩
    refine ⟨ck, rfl, by lia, by lia, ?_⟩
    refine ⟨_, _, rfl, by simp; lia, compGo_pure (fun zz => pairV [some b]) _ _ (fun x zz Q hq => ?_) ?_⟩
    · walk_at "eb"
      refine ⟨by simp, by simp, ?_⟩
      have : pairV [some b] = V.tup [V.str "S", V.tup [V.str s]] := by simp [pairV, hs]
      rw [this] at hq
      exact hq
    · rw [range_const]
      simpa using hK
  have hsg0 : (H.put d0 (.list ((List.replicate c2.toNat [none, none] ++ List.replicate c3.toNat [none, none, none] ++ List.replicate c4.toNat [none, none, none, none]).map pairV))) ds = some (.dictS (dSig sa sb)) := put_get hsg hd0
  refine ⟨by simp, _, _, rfl, by simp, ?_⟩
  refine ⟨fun a h => (by cases h), two "a" false sa hsg0 (by lia) (by lia) (by simp) rfl (by simp [dSig, lk]) ?_⟩
  refine ⟨fun a h => (by cases h), two "b" true sb hsg0 (by lia) (by lia) (by simp; lia) rfl (by
    have : ("a" : Str) ≠ "b" := by rw [strA, strB]; decide
    simp [dSig, lk, this]) ?_⟩
  refine ⟨fun a h => (by cases h), q_newList (by simp; exact Nat.le_trans (Nat.add_le_add ta tb) (by decide)) fun d1 hd1 => ?_⟩
  have hd01 : d0 ≠ d1 := ne_of hp_self hd1
  refine q_addL (put_get hp_self hd1) hp_self (by simp; exact Nat.le_trans (Nat.add_le_add (Nat.add_le_add t2 (Nat.add_le_add t3 t4)) (Nat.add_le_add ta tb)) (by decide)) fun d2 hd2 => ?_
  walk_at "eb"
  refine q_newList (by simp) fun d3 hd3 => ?_
  have hne : ∀ {x : Addr} {o : O}, H x = some o → x ≠ d0 := fun e => ne_of e hd0
  obtain ⟨p0, p1, hpa, hp0, hp1⟩ := id hp
  have ha0 : a ≠ d0 := ne_of hpa hd0
  have ha1 : a ≠ d1 := ne_of (put_get hpa hd0) hd1
  have ha2 : a ≠ d2 := ne_of (put_get (put_get hpa hd0) hd1) hd2
  have ha3 : a ≠ d3 := ne_of (put_get (put_get (put_get hpa hd0) hd1) hd2) hd3
  have hd23 : d2 ≠ d3 := ne_of hp_self hd3
  have hle3 : ∀ {x y z w : O}, Hle H ((((H.put d0 x).put d1 y).put d2 z).put d3 w) := fun {x y z w} => by
    exact ((((Hle.refl H).put hd0 _).put (put_non hd1) _).put (put_non (put_non hd2)) _).put (put_non (put_non (put_non hd3))) _
  generalize hB : baseR c2 c3 c4 sa sb = B at q
  have hBl : B.length ≤ 9 := by rw [← hB]; simp [baseR]; exact Nat.add_le_add t2 (Nat.add_le_add t3 (Nat.add_le_add t4 (Nat.add_le_add ta tb)))
  refine w_whl (fun kk m' H' => ∃ (R L : List Rt) (r p : Addr), kk = R.length ∧ m' 62 = some (.ref a) ∧ m' 71 = some (.ref r) ∧ m' 56 = some (.ref p) ∧ H' r = some (.list (R.map pairV)) ∧ H' p = some (.list (L.map pairV)) ∧ r ≠ p ∧ r ≠ a ∧ p ≠ a ∧
    (L ++ R).Perm B ∧ PenAt H' a (k + L.length) ∧ Hbut a H H' ∧ H p = none) B.length ⟨B, [], d2, d3, rfl, by walk_at "lo", by walk_at "lo", by walk_at "lo", ?_, hp_self, hd23, Ne.symm ha2, Ne.symm ha3, List.Perm.refl _, ?_, hle3.but, ?_⟩ ?_
  · refine put_get' ?_ hd23
    rw [hp_self, ← hB]
    congr 2
    simp [baseR]
  · exact ⟨p0, p1, put_get (put_get (put_get (put_get hpa hd0) hd1) hd2) hd3, hp0, by simpa using hp1⟩
  · exact put_non (put_non (put_non hd3))
  · rintro K kk m' H' hK hKr ⟨R, L, r, p, rfl, e62, e71, e56, hr, hpp, nrp, nra, npa, perm, pen, hbut, hpn⟩
    have hlen : L.length + R.length = B.length := by rw [← List.length_append, perm.length_eq]
    walk_at "eb"
    refine q_newList (by simp) fun de hde => ?_
    have nre : r ≠ de := ne_of hr hde
    have npe : p ≠ de := ne_of hpp hde
    obtain ⟨u0, u1, hpen, hu0, hu1⟩ := id pen
    have nae : a ≠ de := ne_of hpen hde
    refine q_neEmpty (put_get hr hde) hp_self (fun hR => ?_) (fun hR => ?_)
    · refine q_isB (q_both1 ?_)
      have hR0 : R ≠ [] := by rintro rfl; exact hR rfl
      have hRl : 1 ≤ R.length := by cases R with | nil => exact absurd rfl hR0 | cons _ _ => simp
      walk_at "eb"
      constructor; refine .inl ⟨_, put_get hr hde, by simp; lia, ?_⟩
      walk_at "eb"
      refine CallOK.up (n := n + 2) (c_draw W Fd ⟨u0, u1, put_get hpen hde, hu0, hu1⟩ (by lia) ⟨by simp; lia, by simp; lia⟩ fun d v0 v1 hd0' hdlt hv0 hv1 => ?_) (nle rfl)
      obtain ⟨i, rfl⟩ := Int.eq_ofNat_of_zero_le hd0'
      have hi : i < R.length := by simpa using hdlt
      walk_at "eb"
      have hr4 : ((H'.put de (.list [])).put a (.list [.int v0, .int v1])) r = some (.list (R.map pairV)) := put_get' (put_get hr hde) nra
      have hp4 : ((H'.put de (.list [])).put a (.list [.int v0, .int v1])) p = some (.list (L.map pairV)) := put_get' (put_get hpp hde) npa
      refine ⟨isL_of hp4, ?_⟩
      walk_at "eb"
      refine q_subL (v := pairV R[i]) hr4 (by lia) (by lia) (by simp [hi]) ?_
      refine q_append hp4 (by simp; lia) ?_
      refine ⟨rfl, ?_⟩
      refine w_asg (w_bin ?_)
      walk_at "eb"
      have hr5 : (((H'.put de (.list [])).put a (.list [.int v0, .int v1])).put p (.list (L.map pairV ++ [pairV R[i]]))) r = some (.list (R.map pairV)) := put_get' hr4 nrp
      refine q_cutTo hr5 (by simp; lia) (by lia) fun e1 he1 => ?_
      walk_at "eb"
      refine q_cutFrom (put_get hr5 he1) (by simp; lia) (by lia) fun e2 he2 => ?_
      have n12 : e1 ≠ e2 := ne_of hp_self he2
      refine q_addL (put_get hp_self he2) hp_self (by simp; lia) fun e3 he3 => ?_
      refine w_nil ?_
      have hpen4 : ((H'.put de (.list [])).put a (.list [.int v0, .int v1])) a = some (.list [.int v0, .int v1]) := hp_self
      have nap : a ≠ p := Ne.symm npa
      have hp5 : (((H'.put de (.list [])).put a (.list [.int v0, .int v1])).put p (.list (L.map pairV ++ [pairV R[i]]))) p = some (.list (L.map pairV ++ [pairV R[i]])) := hp_self
      have ha5 : (((H'.put de (.list [])).put a (.list [.int v0, .int v1])).put p (.list (L.map pairV ++ [pairV R[i]]))) a = some (.list [.int v0, .int v1]) := put_get' hp_self nap
      have hspl : R = R.take i ++ R[i] :: R.drop (i + 1) := by rw [← List.drop_eq_getElem_cons hi, List.take_append_drop]
      have hb5 : Hbut a H (((((((H'.put de (.list [])).put a (.list [.int v0, .int v1])).put p (.list (L.map pairV ++ [pairV R[i]]))).put e1 (.list ((R.map pairV).take (i : Int).toNat))).put e2 (.list ((R.map pairV).drop ((i : Int) + 1).toNat))).put e3 (.list ((R.map pairV).take (i : Int).toNat ++ (R.map pairV).drop ((i : Int) + 1).toNat)))) := by
        have b1 := (hbut.put (hbut.non (Ne.symm nae) hde) (.list [])).self (.list [.int v0, .int v1])
        have b2 := b1.put hpn (.list (L.map pairV ++ [pairV R[i]]))
        have x1 := ne_of ha5 he1
        have b3 := b2.put (b2.non (Ne.symm x1) he1) (.list ((R.map pairV).take (i : Int).toNat))
        have x2 := ne_of (put_get ha5 he1) he2
        have b4 := b3.put (b3.non (Ne.symm x2) he2) (.list ((R.map pairV).drop ((i : Int) + 1).toNat))
        have x3 := ne_of (put_get (put_get ha5 he1) he2) he3
        exact b4.put (b4.non (Ne.symm x3) he3) _
      refine hK _ _ ⟨R.length - 1, by lia, R.take i ++ R.drop (i + 1), L ++ [R[i]], e3, p, by simp; lia, by walk_at "lo", by walk_at "lo", by walk_at "lo", ?_, ?_, ?_, ?_, npa, ?_, ?_, hb5, hpn⟩
      · rw [hp_self]
        congr 2
        rw [List.map_append, List.map_take, List.map_drop]
        congr 1
      · exact put_get (put_get (put_get (by rw [hp5]; simp) he1) he2) he3
      · exact Ne.symm (ne_of (put_get (put_get hp5 he1) he2) he3)
      · exact Ne.symm (ne_of (put_get (put_get ha5 he1) he2) he3)
      · refine List.Perm.trans ?_ perm
        rw [List.append_assoc]
        refine List.Perm.append_left L ?_
        conv => rhs; rw [hspl]
        rw [List.singleton_append]
        exact List.perm_middle.symm
      · exact ⟨v0, v1, put_get (put_get (put_get ha5 he1) he2) he3, hv0, by simp; lia⟩
    · refine q_isB (q_both0 ?_)
      have hR0 : R = [] := by simpa using hR
      subst hR0
      walk_at "eb"
      refine q p _ L (by simpa using perm) hpn (put_get hpp hde) (hbut.put (hbut.non (Ne.symm nae) hde) _) ⟨u0, u1, put_get hpen hde, hu0, by simp at hlen; lia⟩
end
end Mine
set_option tactic.hygienic false
open PySem PySem.W PySem.Calls PyProof PyProof.Rows PySem.SeqAt
set_option maxRecDepth 100000
set_option maxHeartbeats 4000000
namespace Mine
noncomputable def fldL : List (Addr × Str) := [(93, "kind"), (93, "text"), (93, "at"), (93, "worth"), (171, "name"), (171, "rule"), (171, "children"), (206, "name"), (206, "rule"), (206, "children"), (206, "token"),
  (268, "number"), (268, "left"), (268, "right"), (268, "level_of"), (268, "action"), (268, "line"), (268, "before"),
  (350, "names"), (350, "terminal_count"), (350, "rules"), (350, "levels"), (350, "expect"), (350, "start"), (350, "by_left"), (350, "offsets"), (350, "owners"), (350, "item_count")]
noncomputable def mthL : List (Addr × Str × Addr) := [(171, "is_leaf", 130), (171, "leaves", 149), (171, "reductions", 154), (206, "is_leaf", 196), (350, "symbol_count", 291), (350, "is_terminal", 298), (350, "number", 312), (350, "rules_of", 319)]
noncomputable def clsL : List (Addr × Addr) := [(93, 76), (171, 123), (206, 189), (268, 265), (350, 284)]
structure Wc (c : Cx) : Prop where
  fld : ∀ C f, (C, f) ∈ fldL → c.fld C f = true
  mth : ∀ C f g, (C, f, g) ∈ mthL → c.mth C f = some g
  cls : ∀ C f, (C, f) ∈ clsL → makesIn c.K C = true ∧ findIn c.K (.ref C) "__init__" = some (some (.ref f)) ∧ typeIn c.K (.ref f) = some (.type "function")
structure Fs (c : Cx) : Prop where
  pen : FnAt c 374 bd_law_pen sc_law_pen [60] 1 []
  draw : FnAt c 381 bd_law_draw sc_law_draw [62, 28] 2 []
  factorial : FnAt c 388 bd_law_factorial sc_law_factorial [28] 1 []
  due : FnAt c 395 bd_law_due sc_law_due [64, 65, 32] 3 []
  pairs : FnAt c 400 bd_law_pairs sc_law_pairs [62, 64, 65] 3 []
  plain : FnAt c 367 bd_plain_grammar sc_plain_grammar [56, 55] 1 [(.none, .none)]
  last : FnAt c 361 bd_last_terminal sc_last_terminal [31, 51] 2 []
  rule : FnAt c 265 bd_Rule_init sc_Rule_init [0, 14, 15, 31, 47, 48, 21, 49] 5 [(.none, .none), (.int 0, .int 0 557), (.int 0, .int 0 558)]
  gram : FnAt c 284 bd_Grammar_init sc_Grammar_init [0, 50, 51, 52, 53, 54, 55] 7 []
  symbols : FnAt c 291 bd_Grammar_symbol_count sc_Grammar_symbol_count [0] 1 []
  terminal : FnAt c 298 bd_Grammar_is_terminal sc_Grammar_is_terminal [0, 13] 2 []
  number : FnAt c 312 bd_Grammar_number sc_Grammar_number [0, 16] 2 []
  rules_of : FnAt c 319 bd_Grammar_rules_of sc_Grammar_rules_of [0, 13] 2 []
  spread : FnAt c 102 bd_spread sc_spread [5, 6] 2 []
  nullable : FnAt c 109 bd_nullable sc_nullable [5] 1 []
  order : FnAt c 220 bd_unit_order sc_unit_order [5] 1 []
  ways : FnAt c 227 bd_ways sc_ways [31, 32, 33, 34, 35] 5 []
  count : FnAt c 234 bd_count_trees sc_count_trees [5, 32] 2 []
  rows : FnAt c 241 bd_rows_over sc_rows_over [5, 31, 32, 33, 34, 41, 42] 7 []
  trees : FnAt c 249 bd_trees_of sc_trees_of [5, 32, 42] 3 []
  token : FnAt c 76 bd_Token_init sc_Token_init [0, 1, 2, 3, 4] 4 [(.none, .none)]
  tree : FnAt c 123 bd_Tree_init sc_Tree_init [0, 16, 11, 17] 4 []
  leaf : FnAt c 189 bd_Leaf_init sc_Leaf_init [0, 19] 2 []
  tleaf : FnAt c 130 bd_Tree_is_leaf sc_Tree_is_leaf [0] 1 []
  lleaf : FnAt c 196 bd_Leaf_is_leaf sc_Leaf_is_leaf [0] 1 []
  leaves : FnAt c 149 bd_Tree_leaves sc_Tree_leaves [0] 1 []
  reductions : FnAt c 154 bd_Tree_reductions sc_Tree_reductions [0] 1 []
  postorder : FnAt c 215 bd_postorder sc_postorder [20] 1 []
section
variable {c : Cx} {n : Nat} {m : Lo} {H H' : Hp} {Q : V → Hp → Prop} {SQ : Fl → Lo → Hp → Prop} {ss : Ss}
theorem q_setA {a C dx : Addr} {fs : List (Str × V)} {f : Str} {v : V} {R : Hp → Prop} (h : H a = some (.inst C dx fs)) (hf : c.fld C f = true) (hl : fs.length < 100) (hv : ∀ u, v ≠ .fn u) (q : R (H.put a (.inst C dx (putF fs f v)))) :
    ∃ a' C dx fs, V.ref a = .ref a' ∧ H a' = some (.inst C dx fs) ∧ c.fld C f = true ∧ fs.length < 100 ∧ (∀ u, v ≠ .fn u) ∧ R (H.put a' (.inst C dx (putF fs f v))) := ⟨a, C, dx, fs, rfl, h, hf, hl, hv, q⟩
theorem q_attr {a C dx : Addr} {fs : List (Str × V)} {f : Str} {v : V} (h : H a = some (.inst C dx fs)) (hf : c.fld C f = true) (hl : lk fs f = some v) (q : Q v H) : attrQ c (.ref a) f Q H := ⟨a, C, dx, fs, v, rfl, h, hf, hl, q⟩
theorem make (W : Wd c) (X : Wc c) {C f : Addr} {args : List V} (hm : (C, f) ∈ clsL) (q : ∀ x dx, H x = none → H dx = none → x ≠ dx → CallOK c n (.fn (.ref f)) (.ref x :: args) (fun v H' => v = .none ∧ Q (.ref x) H') ((H.put dx (.hid x)).put x (.inst C dx []))) :
    CallOK c (n + 1) (.fn (.ref C)) args Q H := let ⟨a, b, d⟩ := X.cls C f hm; call_cls W.ok a b d q
noncomputable def ruleF (i l : Int) (r : List Int) (lev : Int) : List (Str × V) := [("number", .int i), ("left", .int l), ("right", .tup (r.map V.int)), ("level_of", .int lev), ("action", .none), ("line", .int 0), ("before", .int 0)]
theorem lk_number {i l r lev} : lk (ruleF i l r lev) "number" = some (.int i) := by kernel_rfl
theorem lk_left {i l r lev} : lk (ruleF i l r lev) "left" = some (.int l) := by kernel_rfl
theorem lk_right {i l r lev} : lk (ruleF i l r lev) "right" = some (.tup (r.map V.int)) := by kernel_rfl
theorem c_Rule (W : Wd c) (X : Wc c) (F : Fs c) {i l lev : Int} {r : List Int} (q : ∀ x dx, H x = none → H dx = none → x ≠ dx → Q (.ref x) ((H.put dx (.hid x)).put x (.inst 268 dx (ruleF i l r lev)))) :
    CallOK c (n + 3) (.fn (.ref 268)) [.int i, .int l, .tup (r.map V.int), .int lev] Q H := by
  refine make W X (f := 265) (by decide) fun x dx hx hdx hne => ?_
  refine call_at W F.rule (fun env hs E => ok_Rule_init W hs E) rfl ?_
  show swps c (n + 1) ir_Rule_init _ ((((((((noLo.put 0 (.ref x)).put 14 (.int i)).put 15 (.int l)).put 31 (.tup (r.map V.int))).put 47 (.int lev)).put 48 .none).put 21 (.int 0)).put 49 (.int 0)) _
  unfold ir_Rule_init
  have vi : ∀ {k : Int} (u : Value), V.int k ≠ .fn u := by intro k u e; cases e
  have vt : ∀ {k : List V} (u : Value), V.tup k ≠ .fn u := by intro k u e; cases e
  have vn : ∀ (u : Value), V.none ≠ .fn u := by intro u e; cases e
  walk_at "eb"
  refine q_setA hp_self (X.fld _ _ (by decide +kernel)) (by decide) vi ?_
  rw [put_put]
  walk_at "eb"
  refine q_setA hp_self (X.fld _ _ (by decide +kernel)) (Nat.le_of_ble_eq_true (by kernel_rfl)) vi ?_
  rw [put_put]
  walk_at "eb"
  refine q_setA hp_self (X.fld _ _ (by decide +kernel)) (Nat.le_of_ble_eq_true (by kernel_rfl)) vt ?_
  rw [put_put]
  walk_at "eb"
  refine q_setA hp_self (X.fld _ _ (by decide +kernel)) (Nat.le_of_ble_eq_true (by kernel_rfl)) vi ?_
  rw [put_put]
  walk_at "eb"
  refine q_setA hp_self (X.fld _ _ (by decide +kernel)) (Nat.le_of_ble_eq_true (by kernel_rfl)) vn ?_
  rw [put_put]
  walk_at "eb"
  refine q_setA hp_self (X.fld _ _ (by decide +kernel)) (Nat.le_of_ble_eq_true (by kernel_rfl)) vi ?_
  rw [put_put]
  walk_at "eb"
  refine q_setA hp_self (X.fld _ _ (by decide +kernel)) (Nat.le_of_ble_eq_true (by kernel_rfl)) vi ?_
  rw [put_put]
  walk_at "eb"
  refine ⟨rfl, ?_⟩
  have e : putF (putF (putF (putF (putF (putF (putF [] "number" (.int i)) "left" (.int l)) "right" (.tup (r.map V.int))) "level_of" (.int lev)) "action" .none) "line" (.int 0)) "before" (.int 0) = ruleF i l r lev := by kernel_rfl
  rw [e]
  exact q x dx hx hdx hne
end
end Mine
set_option tactic.hygienic false
open PySem PySem.W PySem.Calls PyProof PyProof.Rows PySem.SeqAt
set_option maxRecDepth 100000
set_option maxHeartbeats 4000000
namespace Mine
noncomputable def Tab (H : Hp) (bs : List Addr) (f : Nat → List V) : Prop := bs.Nodup ∧ ∀ (j : Nat) (b : Addr), bs[j]? = some b → H b = some (.list (f j))
section
variable {c : Cx} {n : Nat} {m : Lo} {H H' : Hp} {Q : V → Hp → Prop} {bs : List Addr} {f : Nat → List V}
theorem Tab.mem (t : Tab H bs f) {b : Addr} (h : b ∈ bs) : ∃ l, H b = some (.list l) := by
  obtain ⟨j, hj⟩ := List.getElem?_of_mem h
  exact ⟨_, t.2 j b hj⟩
theorem Tab.other (t : Tab H bs f) {a : Addr} (h : a ∉ bs) (o : O) : Tab (H.put a o) bs f :=
  ⟨t.1, fun j b hb => by
    have ne : b ≠ a := by rintro rfl; exact h (List.mem_of_getElem? hb)
    rw [Hp.put_ne ne]; exact t.2 j b hb⟩
theorem Tab.non (t : Tab H bs f) {a : Addr} (h : H a = none) : a ∉ bs := fun hm => by obtain ⟨l, e⟩ := t.mem hm; rw [h] at e; cases e
theorem Tab.inst (t : Tab H bs f) {a : Addr} {o : O} (h : H a = some o) (ho : ∀ l, o ≠ .list l) : a ∉ bs := fun hm => by obtain ⟨l, e⟩ := t.mem hm; rw [h] at e; cases e; exact ho _ rfl
theorem Tab.new (t : Tab H bs f) {a : Addr} (h : H a = none) (o : O) : Tab (H.put a o) bs f := t.other (t.non h) o
theorem Tab.set (t : Tab H bs f) {l : Nat} {b : Addr} (h : bs[l]? = some b) (L : List V) : Tab (H.put b (.list L)) bs (fun j => if j = l then L else f j) := by
  refine ⟨t.1, fun j b' hb => ?_⟩
  by_cases q : j = l
  · subst q
    rw [h] at hb; cases hb
    simp [Hp.put_self]
  · have ne : b' ≠ b := by
      rintro rfl
      have h1 := List.getElem?_eq_some_iff.mp hb
      exact q ((List.getElem?_inj h1.1 t.1).mp (hb.trans h.symm))
    rw [Hp.put_ne ne]
    simp [q, t.2 j b' hb]
theorem Tab.snoc (t : Tab H bs f) {a : Addr} {L : List V} (h : H a = none) : Tab (H.put a (.list L)) (bs ++ [a]) (fun j => if j = bs.length then L else f j) := by
  refine ⟨?_, fun j b hb => ?_⟩
  · rw [List.nodup_append]
    refine ⟨t.1, by simp, fun x hx y hy e => ?_⟩
    simp only [List.mem_singleton] at hy
    subst hy; subst e
    exact t.non h hx
  · by_cases q : j < bs.length
    · rw [List.getElem?_append_left q] at hb
      have ne : b ≠ a := by rintro rfl; exact t.non h (List.mem_of_getElem? hb)
      rw [Hp.put_ne ne, t.2 j b hb]
      simp [Nat.ne_of_lt q]
    · have hj : j = bs.length := by
        have := (List.getElem?_eq_some_iff.mp hb).1
        simp at this; lia
      subst hj
      simp at hb
      subst hb
      simp [Hp.put_self]
theorem w_empties {i : Nat} {y : X} {N : Nat} (h : ∀ K : V → Hp → Prop, (∀ v H₁, (∃ l src, iterQ H₁ v = some (l, src) ∧ (∀ a, src = some a → ∃ o, H₁ a = some o) ∧ l.length = N ∧ N ≤ 1000 ∧
      ∀ bs H' d, bs.length = N → Tab H' bs (fun zz => []) → (∀ b ∈ bs, H₁ b = none) → Hle H₁ H' → H' d = none → Q (.ref d) (H'.put d (.list (bs.map V.ref)))) → K v H₁) → awp c n y m K H) : awp c n (.comp (.lst .nil) i y) m Q H := by
  refine h _ fun v H₁ p => ?_
  obtain ⟨l, src, e, hsrc, hl, hN, q⟩ := p
  refine ⟨l, src, e, by lia, ?_⟩
  refine compGo_ind (K := newList Q) (fun r acc H' => ∃ bs, acc = bs.map V.ref ∧ bs.length + r.length = N ∧ Tab H' bs (fun zz => []) ∧ (∀ b ∈ bs, H₁ b = none) ∧ Hle H₁ H') ?_ ?_ ?_ l [] H₁ ⟨[], rfl, by simpa using hl, ⟨List.nodup_nil, fun j b hb => by simp at hb⟩, fun b hb => by simp at hb, Hle.refl _⟩
  · rintro r acc H' ⟨bs, _, _, _, _, hle⟩ a ha
    obtain ⟨o, ho⟩ := hsrc a ha
    rw [hle a o ho, ho]
  · rintro acc H' ⟨bs, rfl, hb, t, hn, hle⟩
    exact ⟨by simp at hb ⊢; lia, fun d hd => q bs H' d (by simpa using hb) t hn hle hd⟩
  · rintro x r acc H' ⟨bs, rfl, hb, t, hn, hle⟩ K hK
    refine ⟨by simp, fun d hd => hK _ _ ⟨bs ++ [d], by simp, by simp at hb ⊢; lia, ?_, fun b hb => ?_, hle.put (hle.non hd) _⟩⟩
    · have := t.snoc (L := []) hd
      have e : (fun j => if j = bs.length then ([] : List V) else (fun zz => []) j) = fun zz => [] := by funext j; split <;> rfl
      rwa [e] at this
    · rcases List.mem_append.mp hb with hb | hb
      · exact hn b hb
      · simp only [List.mem_singleton] at hb; subst hb; exact hle.non hd
end
end Mine
set_option tactic.hygienic false
open PySem PySem.W PySem.Calls PyProof PyProof.Rows PySem.SeqAt
set_option maxRecDepth 100000
set_option maxHeartbeats 4000000
namespace Mine
section
variable {c : Cx} {n : Nat} {m : Lo} {H H' : Hp} {Q : V → Hp → Prop}
theorem ne_val {a b : Addr} {o o' : O} (h1 : H a = some o) (h2 : H b = some o') (h : o ≠ o') : a ≠ b := by rintro rfl; rw [h1] at h2; cases h2; exact h rfl
noncomputable def RuleAt (H : Hp) (a : Addr) (i : Int) (l : Nat) (r : List Int) : Prop := ∃ dx lev, H a = some (.inst 268 dx (ruleF i l r lev))
theorem RuleAt.le {a : Addr} {i : Int} {l : Nat} {r : List Int} (x : RuleAt H a i l r) (h : Hle H H') : RuleAt H' a i l r := let ⟨dx, lev, e⟩ := x; ⟨dx, lev, h _ _ e⟩
noncomputable def byLeftK (RS : List (Nat × List Int)) (k j : Nat) : List V := ((List.range k).filter fun i => decide (RS[i]?.map (fun zz => zz.1) = some j)).map fun (i : Nat) => V.int i
theorem byLeftK_succ {RS : List (Nat × List Int)} {k j : Nat} {p : Nat × List Int} (h : RS[k]? = some p) : byLeftK RS (k + 1) j = if j = p.1 then byLeftK RS k j ++ [.int k] else byLeftK RS k j := by
  unfold byLeftK
  rw [List.range_succ, List.filter_append, List.map_append]
  by_cases q : j = p.1
  · subst q; simp [h]
  · have : ¬ p.1 = j := fun e => q e.symm
    simp [h, q, this]
noncomputable def gramF (nl : Addr) (tc : Int) (rl : Addr) (lv : Addr) (st : Int) (bl ol ow : Addr) (ic : Int) : List (Str × V) := [("names", .ref nl), ("terminal_count", .int tc), ("rules", .ref rl), ("levels", .ref lv), ("expect", .none), ("start", .int st), ("by_left", .ref bl), ("offsets", .ref ol), ("owners", .ref ow), ("item_count", .int ic)]
noncomputable def gramF0 (nl : Addr) (tc : Int) (rl : Addr) (lv : Addr) (st : Int) (bl ol ow : Addr) : List (Str × V) := [("names", .ref nl), ("terminal_count", .int tc), ("rules", .ref rl), ("levels", .ref lv), ("expect", .none), ("start", .int st), ("by_left", .ref bl), ("offsets", .ref ol), ("owners", .ref ow)]
theorem c_Grammar (W : Wd c) (X : Wc c) (F : Fs c) {nl rl lv : Addr} {NL : List V} {rfs : List Addr} {RS : List (Nat × List Int)} {tc st : Int} (hn : H nl = some (.list NL)) (hN : NL.length ≤ 100) (hr : H rl = some (.list (rfs.map V.ref))) (hlen : rfs.length = RS.length) (hRl : RS.length ≤ 20)
    (hR : ∀ (i : Nat) (r : Addr) p, rfs[i]? = some r → RS[i]? = some p → RuleAt H r i p.1 p.2) (hp : ∀ p ∈ RS, p.1 < NL.length ∧ p.2.length ≤ 4)
    (q : ∀ (x dx : Addr) (H' : Hp) (bl : Addr) (bs : List Addr) (ol ow : Addr) (ic : Int), Hle H H' → H x = none → H' x = some (.inst 350 dx (gramF nl tc rl lv st bl ol ow ic)) → H' bl = some (.list (bs.map V.ref)) → bs.length = NL.length → (∀ (j : Nat) b, bs[j]? = some b → H' b = some (.list (byLeftK RS RS.length j))) → Q (.ref x) H') :
    CallOK c (n + 3) (.fn (.ref 350)) [.ref nl, .int tc, .ref rl, .ref lv, .none, .int st] Q H := by
  refine make W X (f := 284) (by decide) fun x dx hx hdx hne => ?_
  refine call_at W F.gram (fun env hs E => ok_Grammar_init W hs E) rfl ?_
  show swps c (n + 1) ir_Grammar_init _ (((((((noLo.put 0 (.ref x)).put 50 (.ref nl)).put 51 (.int tc)).put 52 (.ref rl)).put 53 (.ref lv)).put 54 .none).put 55 (.int st)) _
  unfold ir_Grammar_init
  have vi : ∀ {k : Int} (u : Value), V.int k ≠ .fn u := by intro k u e; cases e
  have vr : ∀ {k : Addr} (u : Value), V.ref k ≠ .fn u := by intro k u e; cases e
  have vn : ∀ (u : Value), V.none ≠ .fn u := by intro u e; cases e
  have nx : ∀ {b : Addr} {o : O}, H b = some o → b ≠ x := fun e => ne_of e hx
  have nd : ∀ {b : Addr} {o : O}, H b = some o → b ≠ dx := fun e => ne_of e hdx
  walk_at "eb"
  refine q_setA hp_self (X.fld _ _ (by decide +kernel)) (by decide) vr ?_
  rw [put_put]
  walk_at "eb"
  refine q_setA hp_self (X.fld _ _ (by decide +kernel)) (Nat.le_of_ble_eq_true (by kernel_rfl)) vi ?_
  rw [put_put]
  walk_at "eb"
  refine q_setA hp_self (X.fld _ _ (by decide +kernel)) (Nat.le_of_ble_eq_true (by kernel_rfl)) vr ?_
  rw [put_put]
  walk_at "eb"
  refine q_setA hp_self (X.fld _ _ (by decide +kernel)) (Nat.le_of_ble_eq_true (by kernel_rfl)) vr ?_
  rw [put_put]
  walk_at "eb"
  refine q_setA hp_self (X.fld _ _ (by decide +kernel)) (Nat.le_of_ble_eq_true (by kernel_rfl)) vn ?_
  rw [put_put]
  walk_at "eb"
  refine q_setA hp_self (X.fld _ _ (by decide +kernel)) (Nat.le_of_ble_eq_true (by kernel_rfl)) vi ?_
  rw [put_put]
  generalize hfs : putF (putF (putF (putF (putF (putF [] "names" (V.ref nl)) "terminal_count" (V.int tc)) "rules" (V.ref rl)) "levels" (V.ref lv)) "expect" V.none) "start" (V.int st) = fs
  have l1 : Hle H ((H.put dx (.hid x)).put x (.inst 350 dx fs)) := ((Hle.refl H).put hdx _).put hx _
  refine w_asgAttr (w_empties (N := NL.length) fun K hK => ?_)
  walk_at "eb"
  refine q_attr hp_self (X.fld _ _ (by decide +kernel)) (v := .ref nl) (by rw [← hfs]; kernel_rfl) ?_
  have hnl1 := l1 _ _ hn
  refine hK _ _ ⟨_, _, it_list hnl1, fun a ha => (by cases ha; exact ⟨_, hnl1⟩), rfl, by lia, ?_⟩
  intro bs G bl hbs t hbn hle hbl
  have hGx : G x = some (.inst 350 dx fs) := hle _ _ hp_self
  have lG : Hle H G := l1.trans hle
  have nbl : bl ≠ x := Ne.symm (ne_of hGx hbl)
  walk_at "eb"
  refine q_setA (put_get hGx hbl) (X.fld _ _ (by decide +kernel)) (by rw [← hfs]; exact Nat.le_of_ble_eq_true (by kernel_rfl)) vr ?_
  generalize hG1 : (G.put bl (.list (bs.map V.ref))).put x (.inst 350 dx (putF fs "by_left" (V.ref bl))) = G1
  have l2 : Hle H G1 := by rw [← hG1]; exact (lG.put (lG.non hbl) _).put hx _
  have gx1 : G1 x = some (.inst 350 dx (putF fs "by_left" (V.ref bl))) := by rw [← hG1]; exact hp_self
  have gb1 : G1 bl = some (.list (bs.map V.ref)) := by rw [← hG1]; exact put_get' hp_self nbl
  have t1 : Tab G1 bs (fun zz => []) := by
    rw [← hG1]
    have := t.new hbl (.list (bs.map V.ref))
    exact this.other (t.inst hGx (by intro l e; cases e)) _
  have hbsH : ∀ b ∈ bs, H b = none := fun b hb => l1.non (hbn b hb)
  have hblbs : bl ∉ bs := t.non hbl
  clear hG1
  walk_at "eb"
  refine q_newList (by simp) fun ol hol => ?_
  walk_at "eb"
  refine q_setA (put_get gx1 hol) (X.fld _ _ (by decide +kernel)) (by rw [← hfs]; exact Nat.le_of_ble_eq_true (by kernel_rfl)) vr ?_
  generalize hG2 : (G1.put ol (.list [])).put x (.inst 350 dx (putF (putF fs "by_left" (V.ref bl)) "offsets" (V.ref ol))) = G2
  have nol : ol ≠ x := Ne.symm (ne_of gx1 hol)
  have l3 : Hle H G2 := by rw [← hG2]; exact (l2.put (l2.non hol) _).put hx _
  have gx2 : G2 x = some (.inst 350 dx (putF (putF fs "by_left" (V.ref bl)) "offsets" (V.ref ol))) := by rw [← hG2]; exact hp_self
  have gb2 : G2 bl = some (.list (bs.map V.ref)) := by rw [← hG2]; exact put_get' (put_get gb1 hol) nbl
  have go2 : G2 ol = some (.list []) := by rw [← hG2]; exact put_get' hp_self nol
  have t2 : Tab G2 bs (fun zz => []) := by rw [← hG2]; exact (t1.new hol _).other (t1.inst gx1 (by intro l e; cases e)) _
  have holbs : ol ∉ bs := t1.non hol
  have holbl : ol ≠ bl := Ne.symm (ne_of gb1 hol)
  have holH : H ol = none := l2.non hol
  clear hG2
  walk_at "eb"
  refine q_newList (by simp) fun ow how => ?_
  walk_at "eb"
  refine q_setA (put_get gx2 how) (X.fld _ _ (by decide +kernel)) (by rw [← hfs]; exact Nat.le_of_ble_eq_true (by kernel_rfl)) vr ?_
  have hfs3 : putF (putF (putF fs "by_left" (V.ref bl)) "offsets" (V.ref ol)) "owners" (V.ref ow) = gramF0 nl tc rl lv st bl ol ow := by rw [← hfs]; kernel_rfl
  rw [hfs3]
  generalize hG3 : (G2.put ow (.list [])).put x (.inst 350 dx (gramF0 nl tc rl lv st bl ol ow)) = G3
  have now : ow ≠ x := Ne.symm (ne_of gx2 how)
  have l4 : Hle H G3 := by rw [← hG3]; exact (l3.put (l3.non how) _).put hx _
  have gx3 : G3 x = some (.inst 350 dx (gramF0 nl tc rl lv st bl ol ow)) := by rw [← hG3]; exact hp_self
  have gb3 : G3 bl = some (.list (bs.map V.ref)) := by rw [← hG3]; exact put_get' (put_get gb2 how) nbl
  have go3 : G3 ol = some (.list []) := by rw [← hG3]; exact put_get' (put_get go2 how) nol
  have gw3 : G3 ow = some (.list []) := by rw [← hG3]; exact put_get' hp_self now
  have t3 : Tab G3 bs (fun zz => []) := by rw [← hG3]; exact (t2.new how _).other (t2.inst gx2 (by intro l e; cases e)) _
  have howbs : ow ∉ bs := t2.non how
  have howbl : ow ≠ bl := Ne.symm (ne_of gb2 how)
  have howol : ow ≠ ol := Ne.symm (ne_of go2 how)
  have howH : H ow = none := l3.non how
  have hblH : H bl = none := lG.non hbl
  clear hG3
  have hxbs : x ∉ bs := t3.inst gx3 (by intro l e; cases e)
  have nrl : H rl = some (.list (rfs.map V.ref)) := hr
  refine w_forL rl (rfs.map V.ref) (fun k m' G => Hle H G ∧ m' 0 = some (.ref x) ∧ G x = some (.inst 350 dx (gramF0 nl tc rl lv st bl ol ow)) ∧ G bl = some (.list (bs.map V.ref)) ∧ (∃ lo, G ol = some (.list lo) ∧ lo.length = k) ∧ (∃ lw, G ow = some (.list lw) ∧ lw.length ≤ 10 * k) ∧ Tab G bs (byLeftK RS k)) (fun K hK => ?_) (fun j m' G hI => hI.1 _ _ hr) ?_ ?_
  · walk_at "eb"
    refine q_attr gx3 (X.fld _ _ (by decide +kernel)) (v := .ref rl) (by kernel_rfl) ?_
    exact hK _ _ ⟨rfl, l4 _ _ hr, l4, by walk_at "lo", gx3, gb3, ⟨[], go3, rfl⟩, ⟨[], gw3, by simp⟩, t3⟩
  · rintro K k v m' G hK hKr hv ⟨lG, e0, gx, gb, ⟨lo, go, hlo⟩, ⟨lw, gw, hlw⟩, tG⟩
    rw [List.getElem?_map] at hv
    obtain ⟨r, hrk, rfl⟩ := Option.map_eq_some_iff.mp hv
    have hk : k < rfs.length := (List.getElem?_eq_some_iff.mp hrk).1
    have hk' : k < RS.length := by lia
    have hpk : RS[k]? = some RS[k] := by simp [hk']
    obtain ⟨rdx, lev, hrule⟩ := (hR k r _ hrk hpk).le lG
    have hRH := hR k r _ hrk hpk
    obtain ⟨hl1, hl2⟩ := hp RS[k] (List.getElem_mem hk')
    have hbsl : RS[k].1 < bs.length := by lia
    obtain ⟨b, hb⟩ : ∃ b, bs[RS[k].1]? = some b := ⟨bs[RS[k].1], by simp [hbsl]⟩
    have hbm : b ∈ bs := List.mem_of_getElem? hb
    refine ⟨_, asg_one, ?_⟩
    walk_at "eb"
    refine q_attr gx (X.fld _ _ (by decide +kernel)) (v := .ref bl) (by kernel_rfl) ?_
    walk_at "eb"
    refine q_attr hrule (X.fld _ _ (by decide +kernel)) lk_left ?_
    refine q_subL (v := .ref b) gb (by lia) (by lia) (by simp [hb]) ?_
    refine ⟨isL_of (tG.2 _ _ hb), ?_⟩
    walk_at "eb"
    refine q_attr hrule (X.fld _ _ (by decide +kernel)) lk_number ?_
    refine q_append (tG.2 _ _ hb) (by simp [byLeftK]; have := List.length_filter_le (fun i => decide (Option.map (fun x => x.fst) RS[i]? = some RS[k].1)) (List.range k); simp at this; lia) ?_
    refine ⟨rfl, ?_⟩
    have hbH : H b = none := hbsH b hbm
    have nbx : b ≠ x := fun e => hxbs (e ▸ hbm)
    have nbbl : b ≠ bl := fun e => hblbs (e ▸ hbm)
    have nbol : b ≠ ol := fun e => holbs (e ▸ hbm)
    have nbow : b ≠ ow := fun e => howbs (e ▸ hbm)
    generalize hGa : G.put b (.list (byLeftK RS k RS[k].1 ++ [V.int k])) = Ga
    have la : Hle H Ga := by rw [← hGa]; exact lG.put hbH _
    have gxa : Ga x = some (.inst 350 dx (gramF0 nl tc rl lv st bl ol ow)) := by rw [← hGa]; exact put_get' gx (Ne.symm nbx)
    have gba : Ga bl = some (.list (bs.map V.ref)) := by rw [← hGa]; exact put_get' gb (Ne.symm nbbl)
    have goa : Ga ol = some (.list lo) := by rw [← hGa]; exact put_get' go (Ne.symm nbol)
    have gwa : Ga ow = some (.list lw) := by rw [← hGa]; exact put_get' gw (Ne.symm nbow)
    have ta : Tab Ga bs (byLeftK RS (k + 1)) := by
      have := tG.set hb (byLeftK RS k RS[k].1 ++ [V.int k])
      rw [hGa] at this
      have e : (fun j => if j = RS[k].1 then byLeftK RS k RS[k].1 ++ [V.int k] else byLeftK RS k j) = byLeftK RS (k + 1) := by
        funext j
        rw [byLeftK_succ hpk]
        by_cases q : j = RS[k].1
        · rw [if_pos q, if_pos q, q]
        · rw [if_neg q, if_neg q]
      rwa [e] at this
    clear hGa
    have hrulea : Ga r = some (.inst 268 rdx (ruleF k RS[k].1 RS[k].2 lev)) := by
      obtain ⟨_, _, e⟩ := hRH
      have e1 := la _ _ e
      have e2 := lG _ _ e
      rw [hrule] at e2; cases e2
      exact e1
    walk_at "eb"
    refine q_attr gxa (X.fld _ _ (by decide +kernel)) (v := .ref ol) (by kernel_rfl) ?_
    refine ⟨isL_of goa, ?_⟩
    walk_at "eb"
    refine q_attr gxa (X.fld _ _ (by decide +kernel)) (v := .ref ow) (by kernel_rfl) ?_
    constructor; refine .inl ⟨lw, gwa, by lia, ?_⟩
    refine q_append goa (by lia) ?_
    refine ⟨rfl, ?_⟩
    have gxb : (Ga.put ol (.list (lo ++ [V.int lw.length]))) x = some (.inst 350 dx (gramF0 nl tc rl lv st bl ol ow)) := put_get' gxa (Ne.symm nol)
    have gbb : (Ga.put ol (.list (lo ++ [V.int lw.length]))) bl = some (.list (bs.map V.ref)) := put_get' gba (Ne.symm holbl)
    have gob : (Ga.put ol (.list (lo ++ [V.int lw.length]))) ol = some (.list (lo ++ [V.int lw.length])) := hp_self
    have gwb : (Ga.put ol (.list (lo ++ [V.int lw.length]))) ow = some (.list lw) := put_get' gwa howol
    have lb : Hle H (Ga.put ol (.list (lo ++ [V.int lw.length]))) := la.put holH _
    have tb : Tab (Ga.put ol (.list (lo ++ [V.int lw.length]))) bs (byLeftK RS (k + 1)) := ta.other holbs _
    have nrol : r ≠ ol := by obtain ⟨_, _, e⟩ := hRH; exact ne_of e holH
    have hruleb : (Ga.put ol (.list (lo ++ [V.int lw.length]))) r = some (.inst 268 rdx (ruleF k RS[k].1 RS[k].2 lev)) := put_get' hrulea nrol
    generalize Ga.put ol (.list (lo ++ [V.int lw.length])) = Gb at gxb gbb gob gwb lb tb hruleb ⊢
    walk_at "eb"
    refine q_attr gxb (X.fld _ _ (by decide +kernel)) (v := .ref ow) (by kernel_rfl) ?_
    refine ⟨isL_of gwb, ?_⟩
    walk_at "eb"
    refine q_attr hruleb (X.fld _ _ (by decide +kernel)) lk_number ?_
    walk_at "eb"
    refine q_newList (by simp) fun d1 hd1 => ?_
    walk_at "eb"
    refine q_attr (put_get hruleb hd1) (X.fld _ _ (by decide +kernel)) lk_right ?_
    constructor; refine ⟨by simp; lia, ?_⟩
    walk_at "eb"
    constructor; refine ⟨_, hp_self, ⟨by lia, rfl, by simp; lia⟩, fun d2 hd2 => ?_⟩
    have nwd1 : ow ≠ d1 := ne_of gwb hd1
    have nwd2 : ow ≠ d2 := ne_of (put_get gwb hd1) hd2
    refine ⟨ow, lw, d2, _, rfl, rfl, nwd2, put_get (put_get gwb hd1) hd2, hp_self, by simp; lia, ?_⟩
    refine ⟨rfl, ?_⟩
    refine w_nil ?_
    have lc := ((lb.put (lb.non hd1) (.list [V.int k])).put (lb.non (put_non hd2)) (.list (List.replicate ((((List.map V.int RS[k].2).length : Nat) : Int) + 1).toNat [V.int (k : Int)]).flatten)).put howH (.list (lw ++ (List.replicate ((((List.map V.int RS[k].2).length : Nat) : Int) + 1).toNat [V.int (k : Int)]).flatten))
    refine hK _ _ ⟨lc, by walk_at "lo", put_get' (put_get (put_get gxb hd1) hd2) (Ne.symm now), put_get' (put_get (put_get gbb hd1) hd2) (Ne.symm howbl), ⟨_, put_get' (put_get (put_get gob hd1) hd2) (Ne.symm howol), by simp [hlo]⟩, ⟨_, hp_self, by simp; lia⟩, ((tb.new hd1 _).new hd2 _).other howbs _⟩
  · rintro m' G ⟨lG, e0, gx, gb, ⟨lo, go, hlo⟩, ⟨lw, gw, hlw⟩, tG⟩
    walk_at "eb"
    refine q_attr gx (X.fld _ _ (by decide +kernel)) (v := .ref ow) (by kernel_rfl) ?_
    constructor; refine .inl ⟨lw, gw, by simp at hlw; lia, ?_⟩
    walk_at "eb"
    refine q_setA gx (X.fld _ _ (by decide +kernel)) (Nat.le_of_ble_eq_true (by kernel_rfl)) vi ?_
    refine w_nil ⟨rfl, ?_⟩
    have e : putF (gramF0 nl tc rl lv st bl ol ow) "item_count" (.int lw.length) = gramF nl tc rl lv st bl ol ow lw.length := by kernel_rfl
    rw [e]
    refine q x dx _ bl bs ol ow lw.length (lG.put hx _) hx hp_self (put_get' gb nbl) hbs fun j b hb => ?_
    have := (tG.other hxbs (.inst 350 dx (gramF nl tc rl lv st bl ol ow lw.length))).2 j b hb
    simpa [hlen] using this
end
end Mine
set_option tactic.hygienic false
open PySem PySem.W PySem.Calls PyProof PyProof.Rows PySem.SeqAt
set_option maxRecDepth 100000
set_option maxHeartbeats 4000000
namespace Mine
noncomputable def ownN : List Str := ["$end", "error", "$undefined"]
noncomputable def wsN (ws : List Bool) : List Str := ws.map fun b => symS (some b)
noncomputable def namesL (ws : List Bool) : List Str := ownN ++ wsN ws ++ ([("$accept" : Str), ("S" : Str)] : List Str)
noncomputable def symI (ws : List Bool) : Option Bool → Int
  | none => 6
  | some b => if ws.head? = some b then 3 else 4
noncomputable def RSof (ws : List Bool) (L : List Rt) : List (Nat × List Int) := (5, [6, 0]) :: L.map fun r => (6, r.map (symI ws))
noncomputable def Two (ws : List Bool) : Prop := ws = [false, true] ∨ ws = [true, false]
inductive GramAt (H : Hp) (g : Addr) (ws : List Bool) (L : List Rt) : Prop
  | mk (dx nl rl lv bl ol ow : Addr) (ic : Int) (rfs bs : List Addr) : H g = some (.inst 350 dx (gramF nl 5 rl lv 6 bl ol ow ic)) → H nl = some (.list ((namesL ws).map V.str)) → H rl = some (.list (rfs.map V.ref)) → rfs.length = L.length + 1 →
    (∀ (i : Nat) (r : Addr) p, rfs[i]? = some r → (RSof ws L)[i]? = some p → RuleAt H r i p.1 p.2) → H bl = some (.list (bs.map V.ref)) → bs.length = 7 → (∀ (j : Nat) (b : Addr), bs[j]? = some b → H b = some (.list (byLeftK (RSof ws L) (L.length + 1) j))) → GramAt H g ws L
theorem GramAt.le {H H' : Hp} {g : Addr} {ws : List Bool} {L : List Rt} (x : GramAt H g ws L) (h : Hle H H') : GramAt H' g ws L := by
  obtain ⟨dx, nl, rl, lv, bl, ol, ow, ic, rfs, bs, a1, a2, a3, a4, a5, a6, a7, a8⟩ := id x
  exact ⟨dx, nl, rl, lv, bl, ol, ow, ic, rfs, bs, h _ _ a1, h _ _ a2, h _ _ a3, a4, fun i r p e1 e2 => (a5 i r p e1 e2).le h, h _ _ a6, a7, fun j b e => h _ _ (a8 j b e)⟩
theorem strsOf_map : ∀ l : List Str, strsOf (l.map V.str) = some l
  | [] => rfl
  | x :: r => by simp [strsOf, strsOf_map r]
noncomputable def scan1 (ws : List Bool) : Option Bool → List Bool
  | none => ws
  | some b => if b ∈ ws then ws else ws ++ [b]
noncomputable def scanR (ws : List Bool) (r : Rt) : List Bool := r.foldl scan1 ws
noncomputable def scanL (ws : List Bool) (L : List Rt) : List Bool := L.foldl scanR ws
set_option tactic.hygienic true in
theorem scan1_nodup {ws : List Bool} (h : ws.Nodup) (s : Option Bool) : (scan1 ws s).Nodup ∧ ∀ b ∈ ws, b ∈ scan1 ws s := by
  cases s with
  | none => exact ⟨h, fun b hb => hb⟩
  | some b =>
    show (if b ∈ ws then ws else ws ++ [b]).Nodup ∧ ∀ x ∈ ws, x ∈ (if b ∈ ws then ws else ws ++ [b])
    split
    · exact ⟨h, fun b hb => hb⟩
    · rename_i hn
      refine ⟨?_, fun x hx => by simp [hx]⟩
      rw [List.nodup_append]
      refine ⟨h, by simp, fun x hx y hy e => ?_⟩
      simp only [List.mem_singleton] at hy
      subst hy; subst e; exact hn hx
theorem scanR_nodup : ∀ (r : Rt) {ws : List Bool}, ws.Nodup → (scanR ws r).Nodup ∧ ∀ b ∈ ws, b ∈ scanR ws r
  | [], ws, h => ⟨h, fun b hb => hb⟩
  | s :: r, ws, h => by
    obtain ⟨h1, h2⟩ := scan1_nodup h s
    obtain ⟨h3, h4⟩ := scanR_nodup r h1
    exact ⟨h3, fun b hb => h4 b (h2 b hb)⟩
theorem scanL_nodup : ∀ (L : List Rt) {ws : List Bool}, ws.Nodup → (scanL ws L).Nodup ∧ ∀ b ∈ ws, b ∈ scanL ws L
  | [], ws, h => ⟨h, fun b hb => hb⟩
  | r :: L, ws, h => by
    obtain ⟨h1, h2⟩ := scanR_nodup r h
    obtain ⟨h3, h4⟩ := scanL_nodup L h1
    exact ⟨h3, fun b hb => h4 b (h2 b hb)⟩
theorem scanL_mem : ∀ (L : List Rt) (ws : List Bool) (b : Bool), ws.Nodup → [some b] ∈ L → b ∈ scanL ws L
  | [], _, _, _, h => by cases h
  | r :: L, ws, b, hn, h => by
    rcases List.mem_cons.mp h with h | h
    · subst h
      refine (scanL_nodup L (scanR_nodup [some b] hn).1).2 b ?_
      show b ∈ scan1 ws (some b)
      show b ∈ (if b ∈ ws then ws else ws ++ [b])
      split
      · assumption
      · simp
    · exact scanL_mem L _ b (scanR_nodup r hn).1 h
theorem two_of {L : List Rt} (h1 : [some false] ∈ L) (h2 : [some true] ∈ L) : Two (scanL [] L) := by
  have hn := (scanL_nodup L (ws := []) List.nodup_nil).1
  have m1 := scanL_mem L [] false List.nodup_nil h1
  have m2 := scanL_mem L [] true List.nodup_nil h2
  generalize scanL [] L = ws at *
  match ws, hn, m1, m2 with
  | [], _, m1, _ => cases m1
  | [x], _, m1, m2 => cases x <;> simp at m1 m2
  | [x, y], hn, _, _ => cases x <;> cases y <;> first | (simp at hn; done) | exact .inl rfl | exact .inr rfl
  | x :: y :: z :: r, hn, _, _ =>
    exfalso
    simp only [List.nodup_cons, List.mem_cons, not_or] at hn
    obtain ⟨⟨h1, h2, _⟩, ⟨h3, _⟩, _⟩ := hn
    cases x <;> cases y <;> cases z <;> simp at h1 h2 h3
section
variable {c : Cx} {n : Nat} {m : Lo} {H H' : Hp} {Q : V → Hp → Prop}
theorem c_last (W : Wd c) (F : Fs c) {r : List Int} {tc : Int} (q : ∀ k, Q (.int k) H) : CallOK c (n + 2) (.fn (.ref 361)) [.tup (r.map V.int), .int tc] Q H := by
  refine call_at W F.last (fun env hs E => ok_last_terminal W hs E) rfl ?_
  show swps c (n + 1) ir_last_terminal _ ((noLo.put 31 (.tup (r.map V.int))).put 51 (.int tc)) H
  unfold ir_last_terminal
  walk_at "eb"
  refine w_forT (r.map V.int) (fun zz m' H' => H' = H ∧ m' 51 = some (.int tc) ∧ ∃ k, m' 7 = some (.int k)) (fun K hK => ?_) ?_ ?_
  · walk_at "eb"
    exact ⟨rfl, rfl, by walk_at "lo", _, by walk_at "lo"⟩
  · rintro K j v m' H' hK hKr hv ⟨rfl, e51, k, e7⟩
    rw [List.getElem?_map] at hv
    obtain ⟨x, _, rfl⟩ := Option.map_eq_some_iff.mp hv
    refine ⟨_, asg_one, ?_⟩
    walk_at "eb"
    refine q_both (fun zz => ?_) fun zz => ?_
    · walk_at "eb"
      exact ⟨rfl, by walk_at "lo", _, by walk_at "lo"⟩
    · walk_at "eb"
      exact ⟨rfl, by walk_at "lo", _, by walk_at "lo"⟩
  · rintro m' H' ⟨rfl, e51, k, e7⟩
    walk_at "eb"
    exact q k
theorem q_inT {x : Str} {xs : List Str} (q : Q (.bool (decide (x ∈ xs))) H) : cmpQ .In (.str x) (.tup (xs.map V.str)) Q H := .k6 (.k0 ⟨xs, strsOf_map xs, q⟩)
theorem q_inL {x : Str} {xs : List Str} {a : Addr} (h : H a = some (.list (xs.map V.str))) (q : Q (.bool (decide (x ∈ xs))) H) : cmpQ .In (.str x) (.ref a) Q H := .k6 (.k1 ⟨_, xs, h, strsOf_map xs, q⟩)
theorem q_notinL {x : Str} {xs : List Str} {a : Addr} (h : H a = some (.list (xs.map V.str))) (q : Q (.bool (!decide (x ∈ xs))) H) : cmpQ .NotIn (.str x) (.ref a) Q H := .k7 ⟨fun k e => (by cases e), .k1 ⟨_, xs, h, strsOf_map xs, q⟩⟩
theorem q_eqS {x y : Str} (q : Q (.bool (decide (x = y))) H) : cmpQ .Eq (.str x) (.str y) Q H := .k4 (.k1 q)
theorem q_index {x : Str} {xs : List Str} {a : Addr} {i : Nat} (h : H a = some (.list (xs.map V.str))) (hi : xs.findIdx? (fun zz => zz = x) = some i) (hl : i < 100000) (q : Q (.int i) H) : indexQ (.ref a) (.str x) Q H := ⟨a, _, xs, x, i, rfl, h, strsOf_map xs, rfl, hi, hl, q⟩
theorem asg_two {i j : Nat} {a b : V} : asgT (.two i j) (.tup [a, b]) m = some ((m.put i a).put j b) := rfl
theorem findS {ws : List Bool} (h : Two ws) : (namesL ws).findIdx? (· = ("S" : Str)) = some 6 := by rcases h with rfl | rfl <;> decide +kernel
theorem findB {ws : List Bool} (h : Two ws) (s : Option Bool) : ∃ i : Nat, (namesL ws).findIdx? (fun zz => zz = symS s) = some i ∧ (i : Int) = symI ws s ∧ i < 7 := by
  rcases h with rfl | rfl
  · rcases s with _ | _ | _
    · exact ⟨6, by decide +kernel, rfl, by decide⟩
    · exact ⟨3, by decide +kernel, rfl, by decide⟩
    · exact ⟨4, by decide +kernel, rfl, by decide⟩
  · rcases s with _ | _ | _
    · exact ⟨6, by decide +kernel, rfl, by decide⟩
    · exact ⟨4, by decide +kernel, rfl, by decide⟩
    · exact ⟨3, by decide +kernel, rfl, by decide⟩
theorem nodup_len : ∀ {ws : List Bool}, ws.Nodup → ws.length ≤ 2
  | [], _ => by simp
  | [_], _ => by simp
  | [_, _], _ => by simp
  | x :: y :: z :: r, hn => by
    exfalso
    simp only [List.nodup_cons, List.mem_cons, not_or] at hn
    obtain ⟨⟨h1, h2, _⟩, ⟨h3, _⟩, _⟩ := hn
    cases x <;> cases y <;> cases z <;> simp at h1 h2 h3
theorem symS_inj {a b : Option Bool} (h : symS a = symS b) : a = b := by
  have d : ("S" : Str) ≠ "a" ∧ ("S" : Str) ≠ "b" ∧ ("a" : Str) ≠ "b" := by refine ⟨?_, ?_, ?_⟩ <;> decide +kernel
  rcases a with _ | _ | _ <;> rcases b with _ | _ | _ <;> first | rfl | exact absurd h d.1 | exact absurd h d.2.1 | exact absurd h d.2.2 | exact absurd h.symm d.1 | exact absurd h.symm d.2.1 | exact absurd h.symm d.2.2
theorem sym_in {ws : List Bool} {b : Bool} : symS (some b) ∈ ownN ++ wsN ws ↔ b ∈ ws := by
  have hn : symS (some b) ∉ ownN := by cases b <;> decide +kernel
  rw [List.mem_append]
  constructor
  · rintro (h | h)
    · exact absurd h hn
    · obtain ⟨b', hb, e⟩ := List.mem_map.mp h
      cases symS_inj e; exact hb
  · intro h; exact .inr (List.mem_map_of_mem h)
theorem wsN_snoc {ws : List Bool} {b : Bool} : wsN (ws ++ [b]) = wsN ws ++ [symS (some b)] := by simp [wsN]
theorem q_dct0 (q : ∀ d, H d = none → Q (.ref d) (H.put d (.dictI []))) : dctQ 0 (pairUp []) Q H := ⟨[], rfl, List.nodup_nil, by decide, q⟩
theorem c_plain (W : Wd c) (X : Wc c) (F : Fs c) {p : Addr} {L : List Rt} (hp : H p = some (.list (L.map pairV))) (hL : L.length ≤ 12) (hr : ∀ r ∈ L, r.length ≤ 4) (h1 : [some false] ∈ L) (h2 : [some true] ∈ L)
    (q : ∀ g H' ws, Two ws → Hle H H' → H g = none → GramAt H' g ws L → Q (.ref g) H') : CallOK c (n + 6) (.fn (.ref 367)) [.ref p] Q H := by
  refine call_at W F.plain (fun env hs E => ok_plain_grammar W hs E) rfl ?_
  show swps c (n + 5) ir_plain_grammar _ ((noLo.put 56 (.ref p)).put 55 .none) H
  unfold ir_plain_grammar
  have htwo := two_of h1 h2
  have hL0 : 0 < L.length := List.length_pos_of_mem h1
  walk_at "eb"
  refine q_newList (by simp) fun dl hdl => ?_
  refine w_forL p (L.map pairV) (fun k m' G => Hle H G ∧ m' 56 = some (.ref p) ∧ m' 55 = some .none ∧ m' 57 = some (.ref dl) ∧ G dl = some (.list ((if k = 0 then [] else [("S" : Str)]).map V.str))) (fun K hK => ?_) (fun j m' G hI => hI.1 _ _ hp) ?_ ?_
  · walk_at "eb"
    exact ⟨rfl, put_get hp hdl, (Hle.refl H).put hdl _, by walk_at "lo", by walk_at "lo", by walk_at "lo", hp_self⟩
  · rintro K k v m' G hK hKr hv ⟨lG, e56, e55, e57, gl⟩
    rw [List.getElem?_map] at hv
    obtain ⟨r, hrk, rfl⟩ := Option.map_eq_some_iff.mp hv
    refine ⟨_, asg_two, ?_⟩
    walk_at "eb"
    refine q_eqS ?_
    walk_at "eb"
    refine q_both (fun h => absurd h (by decide +kernel)) fun zz => ?_
    walk_at "eb"
    constructor; refine ⟨⟨by decide +kernel, rfl⟩, ?_⟩
    walk_at "eb"
    refine ⟨by simp, ?_⟩
    refine q_inT (xs := ["", "$", "'"]) ?_
    walk_at "eb"
    refine q_both (fun h => absurd h (by decide +kernel)) fun zz => ?_
    walk_at "eb"
    refine q_notinL gl ?_
    walk_at "eb"
    by_cases hk : k = 0
    · subst hk
      rw [if_pos rfl]
      refine q_bothn (fun zz => ?_) (fun h => by simp at h)
      walk_at "eb"
      refine ⟨isL_of gl, ?_⟩
      walk_at "eb"
      refine q_append gl (by simp) ?_
      refine ⟨rfl, ?_⟩
      walk_at "eb"
      refine ⟨lG.put hdl _, by walk_at "lo", by walk_at "lo", by walk_at "lo", ?_⟩
      rw [hp_self]; rfl
    · rw [if_neg hk] at gl ⊢
      refine q_bothn (fun h => absurd (by simp) h) (fun zz => ?_)
      walk_at "eb"
      exact ⟨lG, by walk_at "lo", by walk_at "lo", by walk_at "lo", by simpa using gl⟩
  · rintro m' G ⟨lG, e56, e55, e57, gl⟩
    have gl' : G dl = some (.list (([("S" : Str)]).map V.str)) := by
      rw [gl, if_neg (by rw [List.length_map]; lia)]
    clear gl
    walk_at "eb"
    constructor; refine .inl ⟨rfl, ?_⟩
    walk_at "eb"
    refine q_both0 ?_
    walk_at "eb"
    refine q_newList (by simp) fun d0 hd0 => ?_
    have gl1 := put_get (x := .list []) gl' hd0
    constructor; constructor; refine ⟨_, _, gl1, hp_self, .inl ⟨by simp, ?_⟩⟩
    walk_at "eb"
    refine q_both0 ?_
    walk_at "eb"
    refine q_notinL gl1 ?_
    walk_at "eb"
    refine q_bothn (fun h => absurd (by simp) h) fun zz => ?_
    have lG1 := lG.put (lG.non hd0) (.list [])
    generalize G.put d0 (.list []) = G1 at gl1 lG1 ⊢
    walk_at "eb"
    constructor; refine ⟨by decide, fun dn hdn => ?_⟩
    have gl2 := put_get (x := .list [V.str "$end", V.str "error", V.str "$undefined"]) gl1 hdn
    have ndn : dl ≠ dn := ne_of gl1 hdn
    refine w_forL p (L.map pairV) (fun k m' G => Hle H G ∧ m' 56 = some (.ref p) ∧ m' 57 = some (.ref dl) ∧ m' 33 = some (.str "S") ∧ m' 50 = some (.ref dn) ∧ G dl = some (.list (([("S" : Str)]).map V.str)) ∧ G dn = some (.list ((ownN ++ wsN (scanL [] (L.take k))).map V.str)) ∧ (scanL [] (L.take k)).length ≤ 2) (fun K hK => ?_) (fun j m' G hI => hI.1 _ _ hp) ?_ ?_
    · walk_at "eb"
      exact ⟨rfl, put_get (lG1 _ _ hp) hdn, lG1.put (lG1.non hdn) _, by walk_at "lo", by walk_at "lo", by walk_at "lo", by walk_at "lo", gl2, by rw [hp_self]; rfl, by simp [scanL]⟩
    · rintro K k v m' G hK hKr hv ⟨lG, e56, e57, e33, e50, gl, gn, _⟩
      rw [List.getElem?_map] at hv
      obtain ⟨r, hrk, rfl⟩ := Option.map_eq_some_iff.mp hv
      have hr4 := hr r (List.mem_of_getElem? hrk)
      have hnd := (scanL_nodup (L.take k) (ws := []) List.nodup_nil).1
      generalize hws : scanL [] (L.take k) = ws at gn hnd
      have hnext : scanL [] (L.take (k + 1)) = scanR ws r := by
        rw [List.take_add_one, hrk, ← hws]; simp [scanL]
      refine ⟨_, asg_two, ?_⟩
      refine w_forT (r.map fun s => V.str (symS s)) (fun t m' G => Hle H G ∧ m' 56 = some (.ref p) ∧ m' 57 = some (.ref dl) ∧ m' 33 = some (.str "S") ∧ m' 50 = some (.ref dn) ∧ G dl = some (.list (([("S" : Str)]).map V.str)) ∧ G dn = some (.list ((ownN ++ wsN (scanR ws (r.take t))).map V.str)) ∧ (scanR ws (r.take t)).Nodup) (fun K hK => ?_) ?_ ?_
      · walk_at "eb"
        exact ⟨rfl, lG, by walk_at "lo", by walk_at "lo", by walk_at "lo", by walk_at "lo", gl, by simpa [scanR] using gn, by simpa [scanR] using hnd⟩
      · rintro K t v m' G hK hKr hv ⟨lG, e56, e57, e33, e50, gl, gn, hn⟩
        rw [List.getElem?_map] at hv
        obtain ⟨s, hst, rfl⟩ := Option.map_eq_some_iff.mp hv
        have hl2 := nodup_len hn
        have hstep : scanR ws (r.take (t + 1)) = scan1 (scanR ws (r.take t)) s := by
          rw [List.take_add_one, hst]; simp [scanR]
        refine ⟨_, asg_one, ?_⟩
        walk_at "eb"
        refine q_notinL gl ?_
        walk_at "eb"
        rcases s with _ | b
        · refine q_bothn (fun h => absurd (by simp [symS]) h) fun zz => ?_
          walk_at "eb"
          refine q_both0 ?_
          walk_at "eb"
          exact ⟨lG, by walk_at "lo", by walk_at "lo", by walk_at "lo", by walk_at "lo", gl, by rw [hstep]; exact gn, by rw [hstep]; exact hn⟩
        · refine q_bothn (fun zz => ?_) fun h => absurd h (by cases b <;> decide +kernel)
          walk_at "eb"
          refine q_notinL gn ?_
          walk_at "eb"
          refine q_bothn (fun h => ?_) fun h => ?_
          · rw [sym_in] at h
            have e1 : scanR ws (r.take (t + 1)) = scanR ws (r.take t) ++ [b] := by rw [hstep]; show (if b ∈ _ then _ else _) = _; rw [if_neg h]
            have hn1 : (scanR ws (r.take (t + 1))).Nodup := by rw [hstep]; exact (scan1_nodup hn _).1
            walk_at "eb"
            refine ⟨isL_of gn, ?_⟩
            walk_at "eb"
            refine q_append gn (by simp [ownN, wsN]; lia) ?_
            refine ⟨rfl, ?_⟩
            walk_at "eb"
            have hdnH : H dn = none := lG1.non hdn
            refine ⟨lG.put hdnH _, by walk_at "lo", by walk_at "lo", by walk_at "lo", by walk_at "lo", put_get' gl ndn, ?_, hn1⟩
            rw [hp_self, e1, wsN_snoc]
            simp
          · rw [sym_in] at h
            have e1 : scanR ws (r.take (t + 1)) = scanR ws (r.take t) := by rw [hstep]; show (if b ∈ _ then _ else _) = _; rw [if_pos h]
            walk_at "eb"
            exact ⟨lG, by walk_at "lo", by walk_at "lo", by walk_at "lo", by walk_at "lo", gl, by rw [e1]; exact gn, by rw [e1]; exact hn⟩
      · rintro m' G ⟨lG, e56, e57, e33, e50, gl, gn, hn⟩
        walk_at "eb"
        rw [List.length_map, List.take_length] at gn hn
        exact ⟨lG, e56, e57, e33, e50, gl, by rw [hnext]; exact gn, by rw [hnext]; exact nodup_len hn⟩
    · rintro m' G ⟨lG, e56, e57, e33, e50, gl, gn, _⟩
      rw [List.length_map, List.take_length] at gn
      generalize hws : scanL [] L = ws at gn htwo
      have hwl : (ownN ++ wsN ws).length = 5 := by rcases htwo with rfl | rfl <;> rfl
      walk_at "eb"
      constructor; refine .inl ⟨_, gn, by rw [List.length_map, hwl]; decide, ?_⟩
      rw [List.length_map, hwl]
      walk_at "eb"
      refine q_newList (by simp) fun a1 ha1 => ?_
      refine q_addL (put_get gn ha1) hp_self (by rw [List.length_map, hwl]; simp) fun a2 ha2 => ?_
      walk_at "eb"
      refine q_addL hp_self (put_get (put_get gl ha1) ha2) (by rw [List.length_append, List.length_map, hwl]; simp) fun a3 ha3 => ?_
      have gnames : ((((G.put a1 (.list [V.str "$accept"])).put a2 (.list ((ownN ++ wsN ws).map V.str ++ [V.str "$accept"]))).put a3 (.list ((ownN ++ wsN ws).map V.str ++ [V.str "$accept"] ++ ([("S" : Str)]).map V.str)))) a3 = some (.list ((namesL ws).map V.str)) := by
        rw [hp_self]; simp [namesL]
      have lG3 := ((lG.put (lG.non ha1) (.list [V.str "$accept"])).put (lG.non (put_non ha2)) (.list ((ownN ++ wsN ws).map V.str ++ [V.str "$accept"]))).put (lG.non (put_non (put_non ha3))) (.list ((ownN ++ wsN ws).map V.str ++ [V.str "$accept"] ++ ([("S" : Str)]).map V.str))
      generalize (((G.put a1 (.list [V.str "$accept"])).put a2 (.list ((ownN ++ wsN ws).map V.str ++ [V.str "$accept"]))).put a3 (.list ((ownN ++ wsN ws).map V.str ++ [V.str "$accept"] ++ ([("S" : Str)]).map V.str))) = G3 at gnames lG3 ⊢
      walk_at "eb"
      refine ⟨isL_of gnames, ?_⟩
      walk_at "eb"
      refine q_index gnames (findS htwo) (by decide) ?_
      walk_at "eb"
      refine ⟨by simp, ?_⟩
      walk_at "eb"
      refine CallOK.up (n := n + 3) (c_Rule W X F (r := [6, 0]) fun x dx hx hdx hne => ?_) (nle rfl)
      walk_at "eb"
      have hle0 : Hle G3 ((G3.put dx (.hid x)).put x (.inst 268 dx (ruleF 0 5 [6, 0] 0))) := ((Hle.refl G3).put hdx _).put hx _
      have hrule0 : ((G3.put dx (.hid x)).put x (.inst 268 dx (ruleF 0 5 [6, 0] 0))) x = some (.inst 268 dx (ruleF 0 5 [6, 0] 0)) := hp_self
      have lG4 := lG3.trans hle0
      have gnames4 := hle0 _ _ gnames
      refine q_newList (by simp) fun rl hrl => ?_
      change ((G3.put dx (.hid x)).put x (.inst 268 dx (ruleF 0 5 [6, 0] 0))) rl = none at hrl
      show swps c (n + 5) _ _ _ (((G3.put dx (.hid x)).put x (.inst 268 dx (ruleF 0 5 [6, 0] 0))).put rl (.list [V.ref x]))
      generalize ((G3.put dx (.hid x)).put x (.inst 268 dx (ruleF 0 5 [6, 0] 0))) = G4 at *
      have na3rl : a3 ≠ rl := ne_of gnames4 hrl
      have hrlH : H rl = none := lG4.non hrl
      refine w_forL p (L.map pairV) (fun k m' G => Hle H G ∧ m' 56 = some (.ref p) ∧ m' 50 = some (.ref a3) ∧ m' 58 = some (.int 5) ∧ m' 52 = some (.ref rl) ∧ m' 33 = some (.str "S") ∧ G a3 = some (.list ((namesL ws).map V.str)) ∧
        ∃ rfs : List Addr, G rl = some (.list (rfs.map V.ref)) ∧ rfs.length = k + 1 ∧ (∀ (i : Nat) (r : Addr) p, rfs[i]? = some r → (RSof ws L)[i]? = some p → RuleAt G r i p.1 p.2)) (fun K hK => ?_) (fun j m' G hI => hI.1 _ _ hp) ?_ ?_
      · walk_at "eb"
        refine ⟨rfl, put_get (lG4 _ _ hp) hrl, lG4.put hrlH _, by walk_at "lo", by walk_at "lo", by walk_at "lo", by walk_at "lo", by walk_at "lo", put_get gnames4 hrl, [x], hp_self, rfl, fun i r p e1 e2 => ?_⟩
        match i, e1, e2 with
        | 0, e1, e2 =>
          cases e1; cases e2
          exact ⟨dx, 0, put_get hrule0 hrl⟩
        | i + 1, e1, e2 => simp at e1
      · rintro K k v m' G hK hKr hv ⟨lG, e56, e50, e58, e52, e33, gN, rfs, gr, hrf, hRu⟩
        rw [List.getElem?_map] at hv
        obtain ⟨r, hrk, rfl⟩ := Option.map_eq_some_iff.mp hv
        have hr4 := hr r (List.mem_of_getElem? hrk)
        have hkL : k < L.length := (List.getElem?_eq_some_iff.mp hrk).1
        have hRSk : (RSof ws L)[k + 1]? = some (6, r.map (symI ws)) := by simp [RSof, hrk]
        refine ⟨_, asg_two, ?_⟩
        refine w_asg (w_tuple ?_)
        refine w_compG (l := r.map fun s => V.str (symS s)) (src := none) (fun j acc G' => acc = ((r.take j).map (symI ws)).map V.int ∧ G' = G) (fun K hK => ?_) ?_ ?_
        · walk_at "eb"
          exact ⟨rfl, by simp; lia, ⟨rfl, rfl⟩, fun j acc H zz a ha => by cases ha⟩
        · rintro K j v acc G' hK hv ⟨rfl, rfl⟩
          rw [List.getElem?_map] at hv
          obtain ⟨s, hs, rfl⟩ := Option.map_eq_some_iff.mp hv
          obtain ⟨i, hi1, hi2, hi3⟩ := findB htwo s
          walk_at "eb"
          refine ⟨isL_of gN, ?_⟩
          walk_at "eb"
          refine q_index gN hi1 (by lia) ?_
          refine hK _ _ ⟨?_, rfl⟩
          rw [List.take_add_one, hs]
          simp [hi2]
        · rintro acc G' ⟨rfl, rfl⟩
          rw [List.length_map, List.take_length]
          refine q_newList (by simp; lia) fun d hd => ?_
          refine ⟨d, _, rfl, hp_self, by simp; lia, ?_⟩
          have lGd := lG.put (lG.non hd) (.list ((r.map (symI ws)).map V.int))
          have gNd := put_get (x := .list ((r.map (symI ws)).map V.int)) gN hd
          have grd := put_get (x := .list ((r.map (symI ws)).map V.int)) gr hd
          have hRud : ∀ (i : Nat) (r' : Addr) p, rfs[i]? = some r' → (RSof ws L)[i]? = some p → RuleAt (G'.put d (.list ((r.map (symI ws)).map V.int))) r' i p.1 p.2 := fun i r' p e1 e2 => (hRu i r' p e1 e2).le ((Hle.refl G').put hd _)
          generalize G'.put d (.list ((r.map (symI ws)).map V.int)) = Gd at lGd gNd grd hRud ⊢
          walk_at "eb"
          refine ⟨isL_of grd, ?_⟩
          walk_at "eb"
          constructor; refine .inl ⟨_, grd, by rw [List.length_map]; lia, ?_⟩
          walk_at "eb"
          refine ⟨isL_of gNd, ?_⟩
          walk_at "eb"
          refine q_index gNd (findS htwo) (by decide) ?_
          walk_at "eb"
          refine CallOK.up (n := n + 2) (c_last W F fun lev => ?_) (nle rfl)
          walk_at "eb"
          refine CallOK.up (n := n + 3) (c_Rule W X F fun x dx hx hdx hne => ?_) (nle rfl)
          have hle1 : Hle Gd ((Gd.put dx (.hid x)).put x (.inst 268 dx (ruleF (rfs.map V.ref).length 6 (r.map (symI ws)) lev))) := ((Hle.refl Gd).put hdx _).put hx _
          have hrx : ((Gd.put dx (.hid x)).put x (.inst 268 dx (ruleF (rfs.map V.ref).length 6 (r.map (symI ws)) lev))) x = some (.inst 268 dx (ruleF (rfs.map V.ref).length 6 (r.map (symI ws)) lev)) := hp_self
          refine q_append (hle1 _ _ grd) (by rw [List.length_map]; lia) ?_
          refine ⟨rfl, ?_⟩
          walk_at "eb"
          have lG5 := lGd.trans hle1
          have gN5 := hle1 _ _ gNd
          refine ⟨lG5.put hrlH _, by walk_at "lo", by walk_at "lo", by walk_at "lo", by walk_at "lo", by walk_at "lo", put_get' gN5 na3rl, rfs ++ [x], by rw [hp_self]; simp, by simp [hrf], fun i r' p e1 e2 => ?_⟩
          by_cases hi : i < rfs.length
          · rw [List.getElem?_append_left hi] at e1
            obtain ⟨dx', lev', e⟩ := hRud i r' p e1 e2
            exact ⟨dx', lev', put_get' (hle1 _ _ e) (ne_val e grd (by intro h; cases h))⟩
          · have hi' : i = rfs.length := by
              have := (List.getElem?_eq_some_iff.mp e1).1
              simp at this; lia
            subst hi'
            simp at e1
            subst e1
            rw [hrf, hRSk] at e2
            cases e2
            refine ⟨dx, lev, put_get' ?_ (ne_of grd hx).symm⟩
            rw [List.length_map] at hrx ⊢
            exact hrx
      · rintro m' G ⟨lG, e56, e50, e58, e52, e33, gN, rfs, gr, hrf, hRu⟩
        rw [List.length_map] at hrf
        walk_at "eb"
        refine q_dct0 fun lv hlv => ?_
        walk_at "eb"
        have gN1 := put_get (x := .dictI []) gN hlv
        have gr1 := put_get (x := .dictI []) gr hlv
        have hl1 : Hle G (G.put lv (.dictI [])) := (Hle.refl G).put hlv _
        refine ⟨isL_of gN1, ?_⟩
        walk_at "eb"
        refine q_index gN1 (findS htwo) (by decide) ?_
        walk_at "eb"
        have hNl : ((namesL ws).map V.str).length = 7 := by rcases htwo with rfl | rfl <;> rfl
        refine CallOK.up (n := n + 3) (c_Grammar W X F (RS := RSof ws L) (st := 6) gN1 (by lia) gr1 (by simp [RSof, hrf]) (by simp [RSof]; lia) (fun i r p e1 e2 => (hRu i r p e1 e2).le hl1) ?_ ?_) (nle rfl)
        · rintro pp hpp
          simp only [RSof, List.mem_cons, List.mem_map] at hpp
          rw [hNl]
          rcases hpp with rfl | ⟨r, hr', rfl⟩
          · exact ⟨by decide, by decide⟩
          · exact ⟨(by show 6 < 7; decide), by simpa using hr r hr'⟩
        · intro x dx H' bl bs ol ow ic hle hx hgx hbl hbs hby
          have lGH := (lG.trans hl1).trans hle
          refine q x H' ws htwo lGH ?_ ⟨dx, a3, rl, lv, bl, ol, ow, ic, rfs, bs, hgx, hle _ _ gN1, hle _ _ gr1, hrf, fun i r p e1 e2 => ((hRu i r p e1 e2).le hl1).le hle, hbl, by rw [hbs, hNl], fun j b hb => ?_⟩
          · exact lG.non ((Hle.non hl1 hx))
          · have := hby j b hb
            simpa [RSof] using this
end
end Mine
set_option tactic.hygienic false
open PySem PySem.W PySem.Calls PyProof PyProof.Rows PySem.SeqAt
set_option maxRecDepth 100000
set_option maxHeartbeats 4000000
namespace Mine
structure GL (ws : List Bool) (L : List Rt) : Prop where
  two : Two ws
  one : ∀ r ∈ L, 1 ≤ r.length ∧ r.length ≤ 4
  few : L.length ≤ 12
  solo : ∀ r ∈ L, r.length = 1 → ∃ b, r = [some b]
theorem symI_lt {ws : List Bool} (s : Option Bool) : 3 ≤ symI ws s ∧ symI ws s ≤ 6 := by
  cases s with
  | none => exact ⟨(by show (3 : Int) ≤ 6; decide), (by show (6 : Int) ≤ 6; decide)⟩
  | some b => simp only [symI]; split <;> lia
theorem RS_ok {ws : List Bool} {L : List Rt} (g : GL ws L) {i : Nat} {p : Nat × List Int} (h : (RSof ws L)[i]? = some p) : (p.1 = 5 ∨ p.1 = 6) ∧ 1 ≤ p.2.length ∧ p.2.length ≤ 4 ∧ ∀ x ∈ p.2, 0 ≤ x ∧ x ≤ 6 := by
  have hm := List.mem_of_getElem? h
  simp only [RSof, List.mem_cons, List.mem_map] at hm
  rcases hm with rfl | ⟨r, hr, rfl⟩
  · exact ⟨.inl rfl, by decide, by decide, by decide⟩
  · refine ⟨.inr rfl, by simpa using (g.one r hr).1, by simpa using (g.one r hr).2, fun x hx => ?_⟩
    obtain ⟨s, _, rfl⟩ := List.mem_map.mp hx
    have := symI_lt (ws := ws) s
    lia
noncomputable def rulesOf (L : List Rt) (s : Nat) : List V := if s = 5 then [.int 0] else (List.range L.length).map fun (i : Nat) => V.int ((i + 1 : Nat) : Int)
theorem byLeft5 {ws : List Bool} {L : List Rt} : byLeftK (RSof ws L) (L.length + 1) 5 = [.int 0] := by
  unfold byLeftK
  have : (List.range (L.length + 1)).filter (fun i => decide ((RSof ws L)[i]?.map (fun zz => zz.1) = some 5)) = [0] := by
    rw [List.range_succ_eq_map, List.filter_cons]
    simp only [RSof, List.getElem?_cons_zero, Option.map_some, decide_true, if_true]
    congr 1
    rw [List.filter_eq_nil_iff]
    intro x hx
    obtain ⟨y, _, rfl⟩ := List.mem_map.mp hx
    simp only [Nat.succ_eq_add_one, List.getElem?_cons_succ, List.getElem?_map]
    cases L[y]? <;> simp
  rw [this]; rfl
theorem byLeft6 {ws : List Bool} {L : List Rt} : byLeftK (RSof ws L) (L.length + 1) 6 = (List.range L.length).map fun (i : Nat) => V.int ((i + 1 : Nat) : Int) := by
  unfold byLeftK
  have : (List.range (L.length + 1)).filter (fun i => decide ((RSof ws L)[i]?.map (fun zz => zz.1) = some 6)) = (List.range L.length).map Nat.succ := by
    rw [List.range_succ_eq_map, List.filter_cons_of_neg (by simp [RSof]), List.filter_eq_self]
    intro x hx
    obtain ⟨y, hy, rfl⟩ := List.mem_map.mp hx
    have : y < L.length := List.mem_range.mp hy
    simp [RSof, this]
  rw [this, List.map_map]; rfl
section
variable {c : Cx} {n : Nat} {m : Lo} {H H' : Hp} {Q : V → Hp → Prop} {ws : List Bool} {L : List Rt} {g : Addr}
theorem q_meth {a C dx : Addr} {fs : List (Str × V)} {f : Str} {gf : Addr} {R : Addr → Prop} (h : H a = some (.inst C dx fs)) (hl : lk fs f = none) (hm : c.mth C f = some gf) (q : R gf) :
    ∃ a' C dx fs g', V.ref a = .ref a' ∧ H a' = some (.inst C dx fs) ∧ lk fs f = none ∧ c.mth C f = some g' ∧ R g' := ⟨a, C, dx, fs, gf, rfl, h, hl, hm, q⟩
theorem c_symbols (W : Wd c) (X : Wc c) (F : Fs c) (hg : GramAt H g ws L) (hw : Two ws) (q : Q (.int 7) H) : CallOK c (n + 2) (.fn (.ref 291)) [.ref g] Q H := by
  refine call_at W F.symbols (fun env hs E => ok_Grammar_symbol_count W hs E) rfl ?_
  show swps c (n + 1) ir_Grammar_symbol_count _ (noLo.put 0 (.ref g)) H
  unfold ir_Grammar_symbol_count
  obtain ⟨dx, nl, rl, lv, bl, ol, ow, ic, rfs, bs, a1, a2, a3, a4, a5, a6, a7, a8⟩ := hg
  walk_at "eb"
  refine q_attr a1 (X.fld _ _ (by decide +kernel)) (v := .ref nl) (by kernel_rfl) ?_
  have hNl : ((namesL ws).map V.str).length = 7 := by rcases hw with rfl | rfl <;> rfl
  constructor; refine .inl ⟨_, a2, by rw [hNl]; decide, ?_⟩
  rw [hNl]; exact q
theorem c_terminal (W : Wd c) (X : Wc c) (F : Fs c) (hg : GramAt H g ws L) {s : Int} (q : Q (.bool (decide (s < 5))) H) : CallOK c (n + 2) (.fn (.ref 298)) [.ref g, .int s] Q H := by
  refine call_at W F.terminal (fun env hs E => ok_Grammar_is_terminal W hs E) rfl ?_
  show swps c (n + 1) ir_Grammar_is_terminal _ ((noLo.put 0 (.ref g)).put 13 (.int s)) H
  unfold ir_Grammar_is_terminal
  obtain ⟨dx, nl, rl, lv, bl, ol, ow, ic, rfs, bs, a1, a2, a3, a4, a5, a6, a7, a8⟩ := hg
  walk_at "eb"
  refine q_attr a1 (X.fld _ _ (by decide +kernel)) (v := .int 5) (by kernel_rfl) ?_
  walk_at "eb"
  exact q
theorem c_number (W : Wd c) (X : Wc c) (F : Fs c) (hg : GramAt H g ws L) (hw : Two ws) {b : Bool} (q : Q (.int (symI ws (some b))) H) : CallOK c (n + 2) (.fn (.ref 312)) [.ref g, .str (symS (some b))] Q H := by
  refine call_at W F.number (fun env hs E => ok_Grammar_number W hs E) rfl ?_
  show swps c (n + 1) ir_Grammar_number _ ((noLo.put 0 (.ref g)).put 16 (.str (symS (some b)))) H
  unfold ir_Grammar_number
  obtain ⟨dx, nl, rl, lv, bl, ol, ow, ic, rfs, bs, a1, a2, a3, a4, a5, a6, a7, a8⟩ := hg
  obtain ⟨i, hi1, hi2, hi3⟩ := findB hw (some b)
  walk_at "eb"
  refine q_attr a1 (X.fld _ _ (by decide +kernel)) (v := .ref nl) (by kernel_rfl) ?_
  refine q_inL a2 ?_
  walk_at "eb"
  have hmem : symS (some b) ∈ namesL ws := by
    obtain ⟨hlt, h, _⟩ := List.findIdx?_eq_some_iff_getElem.mp hi1
    have : (namesL ws)[i] = symS (some b) := by simpa using h
    rw [← this]; exact List.getElem_mem hlt
  refine q_both (fun zz => ?_) fun h => absurd hmem h
  walk_at "eb"
  refine q_attr a1 (X.fld _ _ (by decide +kernel)) (v := .ref nl) (by kernel_rfl) ?_
  refine ⟨isL_of a2, ?_⟩
  walk_at "eb"
  refine q_index a2 hi1 (by lia) ?_
  rw [hi2]; exact q
theorem c_rules_of (W : Wd c) (X : Wc c) (F : Fs c) (hg : GramAt H g ws L) (hL : L.length ≤ 12) {s : Nat} (hs : s = 5 ∨ s = 6) (q : ∀ d, H d = none → Q (.ref d) (H.put d (.list (rulesOf L s)))) : CallOK c (n + 2) (.fn (.ref 319)) [.ref g, .int s] Q H := by
  refine call_at W F.rules_of (fun env hs E => ok_Grammar_rules_of W hs E) rfl ?_
  show swps c (n + 1) ir_Grammar_rules_of _ ((noLo.put 0 (.ref g)).put 13 (.int s)) H
  unfold ir_Grammar_rules_of
  obtain ⟨dx, nl, rl, lv, bl, ol, ow, ic, rfs, bs, a1, a2, a3, a4, a5, a6, a7, a8⟩ := hg
  walk_at "eb"
  refine q_attr a1 (X.fld _ _ (by decide +kernel)) (v := .ref bl) (by kernel_rfl) ?_
  walk_at "eb"
  have hsl : s < bs.length := by lia
  refine q_subL (v := .ref bs[s]) a6 (by lia) (by lia) (by simp [hsl]) ?_
  have hb := a8 s bs[s] (by simp [hsl])
  have e : byLeftK (RSof ws L) (L.length + 1) s = rulesOf L s := by
    rcases hs with rfl | rfl
    · rw [byLeft5]; rfl
    · rw [byLeft6]; rfl
  rw [e] at hb
  constructor; refine ⟨_, hb, ?_, q⟩
  rcases hs with rfl | rfl
  · simp [rulesOf]
  · simp [rulesOf]; lia
end
end Mine
set_option tactic.hygienic false
open PySem PySem.W PySem.Calls PyProof PyProof.Rows PySem.SeqAt
set_option maxRecDepth 100000
set_option maxHeartbeats 4000000
namespace Mine
section
variable {c : Cx} {n : Nat} {m : Lo} {H H' : Hp} {Q : V → Hp → Prop} {ws : List Bool} {L : List Rt} {g : Addr}
noncomputable def noL : List V := List.replicate 7 (.bool false)
theorem noL_at {x : Int} (h : 0 ≤ x ∧ x ≤ 6) : noL[x.toNat]? = some (.bool false) := by
  have : x.toNat < 7 := by lia
  rw [noL, List.getElem?_replicate, if_pos this]
theorem c_spread (W : Wd c) (X : Wc c) (F : Fs c) (hg : GramAt H g ws L) (gl : GL ws L) {dk : Addr} (hk : H dk = some (.list noL)) (q : ∀ d H', Hle H H' → H d = none → H' d = some (.list noL) → Q (.ref d) H') : CallOK c (n + 2) (.fn (.ref 102)) [.ref g, .ref dk] Q H := by
  refine call_at W F.spread (fun env hs E => ok_spread W hs E) rfl ?_
  show swps c (n + 1) ir_spread _ ((noLo.put 5 (.ref g)).put 6 (.ref dk)) H
  unfold ir_spread
  obtain ⟨dx, nl, rl, lv, bl, ol, ow, ic, rfs, bs0, a1, a2, a3, a4, a5, a6, a7, a8⟩ := hg
  have hfew := gl.few
  walk_at "eb"
  constructor; refine ⟨_, hk, by simp [noL], fun df hdf => ?_⟩
  walk_at "eb"
  refine q_newList (by simp) fun dlk hdlk => ?_
  have ndf : df ≠ dlk := ne_of hp_self hdlk
  have l1 : Hle H ((H.put df (.list noL)).put dlk (.list [])) := ((Hle.refl H).put hdf _).put (put_non hdlk) _
  refine w_asg (w_empties (N := 7) fun K hK => ?_)
  walk_at "eb"
  refine ⟨_, _, it_list (put_get hp_self hdlk), fun a ha => (by cases ha; exact ⟨_, put_get hp_self hdlk⟩), by simp [noL], by decide, ?_⟩
  intro bs G du hbs t hbn hle hdu
  have lG : Hle H G := l1.trans hle
  have gf : G df = some (.list noL) := hle _ _ (put_get hp_self hdlk)
  have gk : G dlk = some (.list []) := hle _ _ hp_self
  have nfu : df ≠ du := ne_of gf hdu
  have nku : dlk ≠ du := ne_of gk hdu
  have fbs : df ∉ bs := fun h => by have := hbn df h; rw [put_get hp_self hdlk] at this; cases this
  have kbs : dlk ∉ bs := fun h => by have := hbn dlk h; rw [hp_self] at this; cases this
  have ubs : du ∉ bs := t.non hdu
  have hbsH : ∀ b ∈ bs, H b = none := fun b hb => l1.non (hbn b hb)
  have hdlkH : H dlk = none := put_non hdlk
  walk_at "eb"
  refine q_newList (by simp) fun dq hdq => ?_
  have lG1 := (lG.put (lG.non hdu) (.list (bs.map V.ref))).put (lG.non (put_non hdq)) (.list [])
  have gf1 : ((G.put du (.list (bs.map V.ref))).put dq (.list [])) df = some (.list noL) := put_get (put_get gf hdu) hdq
  have gk1 : ((G.put du (.list (bs.map V.ref))).put dq (.list [])) dlk = some (.list []) := put_get (put_get gk hdu) hdq
  have gu1 : ((G.put du (.list (bs.map V.ref))).put dq (.list [])) du = some (.list (bs.map V.ref)) := put_get hp_self hdq
  have gq1 : ((G.put du (.list (bs.map V.ref))).put dq (.list [])) dq = some (.list []) := hp_self
  have t1 : Tab ((G.put du (.list (bs.map V.ref))).put dq (.list [])) bs (fun zz => []) := (t.new hdu _).new hdq _
  have qbs : dq ∉ bs := (t.new hdu (.list (bs.map V.ref))).non hdq
  have nkq : dlk ≠ dq := ne_of (put_get gk hdu) hdq
  generalize ((G.put du (.list (bs.map V.ref))).put dq (.list [])) = G1 at lG1 gf1 gk1 gu1 gq1 t1 ⊢
  refine w_forL rl (rfs.map V.ref) (fun k m' G => Hle H G ∧ m' 5 = some (.ref g) ∧ m' 7 = some (.ref df) ∧ m' 8 = some (.ref dlk) ∧ m' 9 = some (.ref du) ∧ m' 10 = some (.ref dq) ∧ G df = some (.list noL) ∧ G du = some (.list (bs.map V.ref)) ∧ G dq = some (.list []) ∧
    (∃ lk : List Int, G dlk = some (.list (lk.map V.int)) ∧ lk.length = k ∧ ∀ x ∈ lk, 1 ≤ x) ∧ ∃ f, Tab G bs f ∧ ∀ j, (f j).length ≤ 4 * k) (fun K hK => ?_) (fun j m' G hI => hI.1 _ _ a3) ?_ ?_
  · walk_at "eb"
    refine q_attr (lG1 _ _ a1) (X.fld _ _ (by decide +kernel)) (v := .ref rl) (by kernel_rfl) ?_
    exact hK _ _ ⟨rfl, lG1 _ _ a3, lG1, by walk_at "lo", by walk_at "lo", by walk_at "lo", by walk_at "lo", by walk_at "lo", gf1, gu1, gq1, ⟨[], gk1, rfl, by simp⟩, _, t1, by simp⟩
  · rintro K k v m' G hK hKr hv ⟨lG, e5, e7, e8, e9, e10, gf, gu, gq, ⟨lkl, gk, hlk, hpos⟩, f, tf, hf⟩
    rw [List.getElem?_map] at hv
    obtain ⟨r, hrk, rfl⟩ := Option.map_eq_some_iff.mp hv
    have hk12 : k < rfs.length := (List.getElem?_eq_some_iff.mp hrk).1
    obtain ⟨p, hpk⟩ : ∃ p, (RSof ws L)[k]? = some p := ⟨(RSof ws L)[k]'(by simp [RSof]; lia), by simp [RSof]⟩
    obtain ⟨_, hp1, hp2, hp3⟩ := RS_ok gl hpk
    obtain ⟨rdx, lev, hrule⟩ := a5 k r p hrk hpk
    refine ⟨_, asg_one, ?_⟩
    walk_at "eb"
    refine w_forT (p.2.map V.int) (fun t m' G => Hle H G ∧ m' 5 = some (.ref g) ∧ m' 7 = some (.ref df) ∧ m' 8 = some (.ref dlk) ∧ m' 9 = some (.ref du) ∧ m' 10 = some (.ref dq) ∧ m' 11 = some (.ref r) ∧ m' 12 = some (.int t) ∧ G df = some (.list noL) ∧ G du = some (.list (bs.map V.ref)) ∧ G dq = some (.list []) ∧
      G dlk = some (.list (lkl.map V.int)) ∧ ∃ f, Tab G bs f ∧ ∀ j, (f j).length ≤ 4 * k + t) (fun K hK => ?_) ?_ ?_
    · walk_at "eb"
      refine q_attr (lG _ _ hrule) (X.fld _ _ (by decide +kernel)) lk_right ?_
      exact hK _ _ ⟨rfl, lG, by walk_at "lo", by walk_at "lo", by walk_at "lo", by walk_at "lo", by walk_at "lo", by walk_at "lo", by walk_at "lo", gf, gu, gq, gk, f, tf, by simpa using hf⟩
    · rintro K t v m' G hK hKr hv ⟨lG, e5, e7, e8, e9, e10, e11, e12, gf, gu, gq, gk, f, tf, hf⟩
      rw [List.getElem?_map] at hv
      obtain ⟨s, hs, rfl⟩ := Option.map_eq_some_iff.mp hv
      have hs6 := hp3 s (List.mem_of_getElem? hs)
      have hsl : s.toNat < bs.length := by rw [hbs]; lia
      refine ⟨_, asg_one, ?_⟩
      walk_at "eb"
      refine q_subL gf hs6.1 (by lia) (noL_at hs6) ?_
      walk_at "eb"
      refine q_both1 ?_
      walk_at "eb"
      refine q_subL (v := .ref bs[s.toNat]) gu hs6.1 (by lia) (by simp [hsl]) ?_
      have hb : bs[s.toNat]? = some bs[s.toNat] := by simp [hsl]
      have hbm : bs[s.toNat] ∈ bs := List.getElem_mem hsl
      refine ⟨isL_of (tf.2 _ _ hb), ?_⟩
      walk_at "eb"
      refine q_attr (lG _ _ hrule) (X.fld _ _ (by decide +kernel)) lk_number ?_
      have htk : t < p.2.length := (List.getElem?_eq_some_iff.mp hs).1
      have hfs := hf s.toNat
      refine q_append (tf.2 _ _ hb) (by lia) ?_
      refine ⟨rfl, ?_⟩
      walk_at "eb"
      refine ⟨lG.put (hbsH _ hbm) _, by walk_at "lo", by walk_at "lo", by walk_at "lo", by walk_at "lo", by walk_at "lo", by walk_at "lo", ?_, put_get' gf (fun e => fbs (e ▸ hbm)), put_get' gu (fun e => ubs (e ▸ hbm)), put_get' gq (fun e => qbs (e ▸ hbm)), put_get' gk (fun e => kbs (e ▸ hbm)), _, tf.set hb _, fun j => ?_⟩
      · rw [lo_self]; rfl
      · by_cases hj : j = s.toNat
        · rw [if_pos hj]; simp; lia
        · rw [if_neg hj]; have := hf j; lia
    · rintro m' G ⟨lG, e5, e7, e8, e9, e10, e11, e12, gf, gu, gq, gk, f, tf, hf⟩
      walk_at "eb"
      refine ⟨isL_of gk, ?_⟩
      walk_at "eb"
      refine q_append gk (by rw [List.length_map]; lia) ?_
      refine ⟨rfl, ?_⟩
      walk_at "eb"
      refine ⟨lG.put hdlkH _, e5, e7, e8, e9, e10, put_get' gf ndf, put_get' gu (Ne.symm nku), put_get' gq (Ne.symm nkq), ⟨lkl ++ [(p.2.length : Int)], by rw [hp_self]; simp, by simp [hlk], fun x hx => ?_⟩, f, tf.other kbs _, fun j => ?_⟩
      · rcases List.mem_append.mp hx with hx | hx
        · exact hpos x hx
        · simp only [List.mem_singleton] at hx; lia
      · have := hf j; simp at this; lia
  · rintro m' G ⟨lG, e5, e7, e8, e9, e10, gf, gu, gq, ⟨lkl, gk, hlk, hpos⟩, f, tf, hf⟩
    rw [List.length_map] at hlk
    refine w_forL rl (rfs.map V.ref) (fun k m' G' => G' = G ∧ m' 5 = some (.ref g) ∧ m' 7 = some (.ref df) ∧ m' 8 = some (.ref dlk) ∧ m' 9 = some (.ref du) ∧ m' 10 = some (.ref dq)) (fun K hK => ?_) (fun j m' G' hI => by rw [hI.1]; exact lG _ _ a3) ?_ ?_
    · walk_at "eb"
      refine q_attr (lG _ _ a1) (X.fld _ _ (by decide +kernel)) (v := .ref rl) (by kernel_rfl) ?_
      exact hK _ _ ⟨rfl, lG _ _ a3, rfl, by walk_at "lo", by walk_at "lo", by walk_at "lo", by walk_at "lo", by walk_at "lo"⟩
    · rintro K k v m' G' hK hKr hv ⟨rfl, e5, e7, e8, e9, e10⟩
      rw [List.getElem?_map] at hv
      obtain ⟨r, hrk, rfl⟩ := Option.map_eq_some_iff.mp hv
      have hk12 : k < rfs.length := (List.getElem?_eq_some_iff.mp hrk).1
      obtain ⟨p, hpk⟩ : ∃ p, (RSof ws L)[k]? = some p := ⟨(RSof ws L)[k]'(by simp [RSof]; lia), by simp [RSof]⟩
      obtain ⟨rdx, lev, hrule⟩ := a5 k r p hrk hpk
      have hkl : k < lkl.length := by lia
      have hx := hpos lkl[k] (List.getElem_mem hkl)
      refine ⟨_, asg_one, ?_⟩
      walk_at "eb"
      refine q_attr (lG _ _ hrule) (X.fld _ _ (by decide +kernel)) lk_number ?_
      refine q_subL (v := .int lkl[k]) gk (by lia) (by lia) (by simp [hkl]) ?_
      walk_at "eb"
      refine q_both (fun h => absurd h (by lia)) fun zz => ?_
      walk_at "eb"
      refine q_both0 ?_
      walk_at "eb"
      exact ⟨rfl, by walk_at "lo", by walk_at "lo", by walk_at "lo", by walk_at "lo", by walk_at "lo"⟩
    · rintro m' G' ⟨rfl, e5, e7, e8, e9, e10⟩
      walk_at "eb"
      refine w_whl (fun zz m' G2 => G2 = G' ∧ m' 3 = some (.int 0) ∧ m' 10 = some (.ref dq) ∧ m' 7 = some (.ref df)) 0 ⟨rfl, by walk_at "lo", by walk_at "lo", by walk_at "lo"⟩ ?_
      rintro K zz m' G2 hK hKr ⟨rfl, e3, e10, e7⟩
      walk_at "eb"
      constructor; refine .inl ⟨_, gq, by simp, ?_⟩
      walk_at "eb"
      refine q_both (fun h => absurd h (by simp)) fun zz => ?_
      walk_at "eb"
      exact q df _ lG hdf gf
theorem c_nullable (W : Wd c) (X : Wc c) (F : Fs c) (hg : GramAt H g ws L) (gl : GL ws L) (q : ∀ d H', Hle H H' → H d = none → H' d = some (.list noL) → Q (.ref d) H') : CallOK c (n + 4) (.fn (.ref 109)) [.ref g] Q H := by
  refine call_at W F.nullable (fun env hs E => ok_nullable W hs E) rfl ?_
  show swps c (n + 3) ir_nullable _ (noLo.put 5 (.ref g)) H
  unfold ir_nullable
  walk_at "eb"
  refine q_newList (by simp) fun d1 hd1 => ?_
  have hle1 : Hle H (H.put d1 (.list [V.bool false])) := (Hle.refl H).put hd1 _
  have hg1 := hg.le hle1
  obtain ⟨dx, nl, rl, lv, bl, ol, ow, ic, rfs, bs0, a1, _⟩ := id hg1
  walk_at "eb"
  refine q_meth (gf := 291) a1 (by kernel_rfl) (X.mth _ _ _ (by decide +kernel)) ?_
  walk_at "eb"
  refine CallOK.up (n := n + 2) (c_symbols W X F hg1 gl.two ?_) (nle rfl)
  constructor; refine ⟨_, hp_self, ⟨by decide, rfl, by decide⟩, fun d2 hd2 => ?_⟩
  have hle2 := hle1.put (put_non hd2) (.list (List.replicate (7 : Int).toNat [V.bool false]).flatten)
  walk_at "eb"
  refine CallOK.up (n := n + 2) (c_spread W X F (hg.le hle2) gl hp_self fun d H' hle hd hH => ?_) (nle rfl)
  walk_at "eb"
  exact q d H' (hle2.trans hle) (hle2.non hd) hH
end
end Mine
set_option tactic.hygienic false
open PySem PySem.W PySem.Calls PyProof PyProof.Rows PySem.SeqAt
set_option maxRecDepth 100000
set_option maxHeartbeats 4000000
namespace Mine
section
variable {c : Cx} {n : Nat} {m : Lo} {H H' : Hp} {Q : V → Hp → Prop} {ws : List Bool} {L : List Rt} {g : Addr}
theorem compGoIf_ind {test turn : V → (V → Hp → Prop) → Hp → Prop} {src : Option Addr} {H₀ : Hp} {K : List V → Hp → Prop}
    (I : List V → List V → Hp → Prop) (hst : ∀ r acc H, I r acc H → StillAt src H₀ H) (h0 : ∀ acc H, I [] acc H → K acc H)
    (h1 : ∀ x r acc H, I (x :: r) acc H → ∀ (K : V → Hp → Prop) (P : Hp → Prop), (∀ v H', I r (acc ++ [v]) H' → K v H') → (∀ H', I r acc H' → P H') → test x (isB fun t H' => both (turn x K H') (P H') t) H) :
    ∀ (l acc : List V) (H : Hp), I l acc H → compGoIf test turn src H₀ K l acc H := by
  intro l
  induction l with
  | nil => exact fun acc H h => ⟨hst _ _ _ h, h0 _ _ h⟩
  | cons x r ih => exact fun acc H h => ⟨hst _ _ _ h, h1 x r acc H h _ _ (fun v H' q => ih _ H' q) fun H' q => ih _ H' q⟩
theorem w_compIfG {l : List V} {src : Option Addr} {x y t : X} {i : Nat} (I : Nat → List V → Hp → Prop)
    (h : ∀ K : V → Hp → Prop, (∀ v H₁, (iterQ H₁ v = some (l, src) ∧ l.length ≤ 100000 ∧ I 0 [] H₁ ∧ ∀ j acc H, I j acc H → StillAt src H₁ H) → K v H₁) → awp c n y m K H)
    (h1 : ∀ (K : V → Hp → Prop) (P : Hp → Prop) j v acc H, (∀ u H'', I (j + 1) (acc ++ [u]) H'' → K u H'') → (∀ H', I (j + 1) acc H' → P H') → l[j]? = some v → I j acc H → awp c n t (m.put i v) (isB fun r H' => both (awp c n x (m.put i v) K H') (P H') r) H) (h0 : ∀ acc H, I l.length acc H → newList Q acc H) : awp c n (.compIf x i y t) m Q H := by
  refine h _ fun v H₁ p => ?_
  obtain ⟨e, hz, hI, hs⟩ := p
  refine ⟨l, src, e, hz, compGoIf_ind (fun r acc H => ∃ j, r = l.drop j ∧ j ≤ l.length ∧ I j acc H) ?_ ?_ ?_ l [] H₁ ⟨0, by simp, Nat.zero_le _, hI⟩⟩
  · rintro r acc H ⟨j, _, _, hI⟩; exact hs _ _ _ hI
  · rintro acc H ⟨j, e, hj, hI⟩
    have : l.length ≤ j := by simpa using e.symm
    obtain rfl : j = l.length := by lia
    exact h0 acc H hI
  · rintro v r acc H ⟨j, e, hj, hI⟩ K P hK hKp
    have hx : l[j]? = some v := by
      have := congrArg (fun z => z[0]?) e.symm
      simpa [List.getElem?_drop] using this
    have hr : r = l.drop (j + 1) := by
      have := congrArg (List.drop 1) e
      simpa [List.drop_drop] using this
    have hj1 : j + 1 ≤ l.length := (List.getElem?_eq_some_iff.mp hx).1
    exact h1 K P j v acc H (fun u H'' h => hK u H'' ⟨j + 1, hr, hj1, h⟩) (fun H' h => hKp H' ⟨j + 1, hr, hj1, h⟩) hx hI
theorem q_notinI {a : Addr} {es : List (Int × V)} {i : Int} (h : H a = some (.dictI es)) (q : Q (.bool (!(lk es i).isSome)) H) : cmpQ .NotIn (.int i) (.ref a) Q H := .k7 ⟨fun k e => (by cases e), .k2 ⟨es, h, q⟩⟩
theorem q_eqEmpty {a b : Addr} (h1 : H a = some (.list [])) (h2 : H b = some (.list [])) (q : Q (.bool true) H) : cmpQ .Eq (.ref a) (.ref b) Q H := .k4 (.k2 ⟨_, _, h1, h2, .inr (.inl ⟨rfl, rfl, q⟩)⟩)
theorem q_lenL {a : Addr} {l : List V} (h : H a = some (.list l)) (hz : l.length ≤ 100000) (q : Q (.int l.length) H) : lenQ (.ref a) Q H := .k2 (.inl ⟨l, h, hz, q⟩)
theorem q_lenI {a : Addr} {es : List (Int × V)} (h : H a = some (.dictI es)) (hz : es.length ≤ 100000) (q : Q (.int es.length) H) : lenQ (.ref a) Q H := .k2 (.inr (.inl ⟨es, h, hz, q⟩))
theorem c_order (W : Wd c) (X : Wc c) (F : Fs c) (hg : GramAt H g ws L) (gl : GL ws L) (q : ∀ d H', Hle H H' → H d = none → H' d = some (.list [.int 5, .int 6]) → Q (.ref d) H') : CallOK c (n + 6) (.fn (.ref 220)) [.ref g] Q H := by
  refine call_at W F.order (fun env hs E => ok_unit_order W hs E) rfl ?_
  show swps c (n + 5) ir_unit_order _ (noLo.put 5 (.ref g)) H
  unfold ir_unit_order
  have hfew := gl.few
  walk_at "eb"
  refine CallOK.up (n := n + 4) (c_nullable W X F hg gl fun df G lG hdf gf => ?_) (nle rfl)
  walk_at "eb"
  refine q_dct0 fun dn hdn => ?_
  have lG1 : Hle H (G.put dn (.dictI [])) := lG.put (lG.non hdn) _
  have gn1 : (G.put dn (.dictI [])) dn = some (.dictI []) := hp_self
  have gf1 := put_get (x := .dictI []) gf hdn
  have hdnH := lG.non hdn
  generalize G.put dn (.dictI []) = G1 at lG1 gn1 gf1 ⊢
  obtain ⟨dx, nl, rl, lv, bl, ol, ow, ic, rfs, bs0, a1, a2, a3, a4, a5, a6, a7, a8⟩ := id hg
  refine w_forR 5 7 (fun j m' G => Hle H G ∧ m' 5 = some (.ref g) ∧ m' 23 = some (.ref df) ∧ m' 24 = some (.ref dn) ∧ G df = some (.list noL) ∧ ∃ es : List Addr, es.length = j ∧ G dn = some (.dictI ((List.range j).zipWith (fun (i : Nat) e => ((5 + (i : Int) : Int), V.ref e)) es)) ∧ (∀ e ∈ es, G e = some (.dictI []) ∧ H e = none)) (fun K hK => ?_) ?_ ?_
  · walk_at "eb"
    refine q_attr (lG1 _ _ a1) (X.fld _ _ (by decide +kernel)) (v := .int 5) (by kernel_rfl) ?_
    walk_at "eb"
    refine q_meth (gf := 291) (lG1 _ _ a1) (by kernel_rfl) (X.mth _ _ _ (by decide +kernel)) ?_
    walk_at "eb"
    refine CallOK.up (n := n + 2) (c_symbols W X F (hg.le lG1) gl.two ?_) (nle rfl)
    exact ⟨5, 7, rfl, rfl, ⟨by decide, by decide, by decide, by decide⟩, hK _ _ ⟨ rfl, lG1, by walk_at "lo", by walk_at "lo", by walk_at "lo", gf1, [], rfl, gn1, by simp⟩⟩
  · rintro K j m' G hK hKr hj ⟨lG, e5, e23, e24, gf, es, hes, gn, he⟩
    refine ⟨_, asg_one, ?_⟩
    walk_at "eb"
    refine q_dct0 fun d hd => ?_
    walk_at "eb"
    have hj2 : j < 2 := by simpa using hj
    refine q_storeI (put_get gn hd) (by simp [hes]; lia) ?_
    walk_at "eb"
    have hd' := lG.non hd
    have ndn : d ≠ dn := (ne_of gn hd).symm
    refine ⟨(lG.put hd' _).put hdnH _, by walk_at "lo", by walk_at "lo", by walk_at "lo", put_get' (put_get gf hd) (ne_val gf gn (by intro h; cases h)), es ++ [d], by simp [hes], ?_, fun e h => ?_⟩
    · rw [hp_self]
      congr 2
      unfold putI
      rw [if_neg]
      · rw [List.range_succ, List.zipWith_append (by simp [hes])]; rfl
      · rw [List.any_eq_true]
        rintro ⟨x, hx, hx2⟩
        obtain ⟨i, hi, rfl⟩ := List.mem_iff_getElem.mp hx
        simp at hi hx2
        lia
    · rcases List.mem_append.mp h with h | h
      · obtain ⟨h1, h2⟩ := he e h
        have : e ≠ dn := by
          rintro rfl
          have hj1 : j = 1 := by
            have : 0 < es.length := List.length_pos_of_mem h
            lia
          rw [gn] at h1
          rw [hj1] at h1 hes
          match es, hes with
          | [x], _ => simp at h1
        exact ⟨put_get' (put_get h1 hd) this, h2⟩
      · simp only [List.mem_singleton] at h
        subst h
        exact ⟨put_get' hp_self ndn, hd'⟩
  · rintro m' G ⟨lG, e5, e23, e24, gf, es, hes, gn, he⟩
    obtain ⟨x5, x6, rfl⟩ : ∃ x5 x6, es = [x5, x6] := by
      have h2 : es.length = 2 := hes
      match es, h2 with
      | [x, y], _ => exact ⟨x, y, rfl⟩
    have gn' : G dn = some (.dictI [(5, .ref x5), (6, .ref x6)]) := gn
    have h5 := (he x5 (by simp)).1
    have h6 := (he x6 (by simp)).1
    refine w_forL rl (rfs.map V.ref) (fun k m' G => Hle H G ∧ m' 5 = some (.ref g) ∧ m' 23 = some (.ref df) ∧ m' 24 = some (.ref dn) ∧ G df = some (.list noL) ∧ G dn = some (.dictI [(5, .ref x5), (6, .ref x6)]) ∧ G x5 = some (.dictI []) ∧ G x6 = some (.dictI [])) (fun K hK => ?_) (fun j m' G hI => hI.1 _ _ a3) ?_ ?_
    · walk_at "eb"
      refine q_attr (lG _ _ a1) (X.fld _ _ (by decide +kernel)) (v := .ref rl) (by kernel_rfl) ?_
      exact hK _ _ ⟨rfl, lG _ _ a3, lG, by walk_at "lo", by walk_at "lo", by walk_at "lo", gf, gn', h5, h6⟩
    · rintro K k v m' G hK hKr hv ⟨lG, e5, e23, e24, gf, gn, h5, h6⟩
      rw [List.getElem?_map] at hv
      obtain ⟨r, hrk, rfl⟩ := Option.map_eq_some_iff.mp hv
      have hk12 : k < rfs.length := (List.getElem?_eq_some_iff.mp hrk).1
      obtain ⟨p, hpk⟩ : ∃ p, (RSof ws L)[k]? = some p := ⟨(RSof ws L)[k]'(by simp [RSof]; lia), by simp [RSof]⟩
      obtain ⟨_, hp1, hp2, hp3⟩ := RS_ok gl hpk
      obtain ⟨rdx, lev, hrule⟩ := a5 k r p hrk hpk
      have hone : p.2.length = 1 → ∀ x ∈ p.2, x < 5 := by
        intro h1 x hx
        have hm := List.mem_of_getElem? hpk
        simp only [RSof, List.mem_cons, List.mem_map] at hm
        rcases hm with rfl | ⟨r, hr, rfl⟩
        · simp at h1
        · obtain ⟨b, rfl⟩ := gl.solo r hr (by simpa using h1)
          simp at hx
          subst hx
          simp only [symI]; split <;> decide
      refine ⟨_, asg_one, ?_⟩
      refine w_asg ?_
      refine w_compIfG (l := p.2.map V.int) (src := none) (fun j acc G' => acc = (p.2.take j).map V.int ∧ G' = G) (fun K hK => ?_) ?_ ?_
      · walk_at "eb"
        refine q_attr (lG _ _ hrule) (X.fld _ _ (by decide +kernel)) lk_right ?_
        exact hK _ _ ⟨rfl, by rw [List.length_map]; lia, ⟨rfl, rfl⟩, fun j acc H zz a ha => by cases ha⟩
      · rintro K P j v acc G' hK hKp hv ⟨rfl, rfl⟩
        rw [List.getElem?_map] at hv
        obtain ⟨s, hs, rfl⟩ := Option.map_eq_some_iff.mp hv
        have hs6 := hp3 s (List.mem_of_getElem? hs)
        walk_at "eb"
        refine q_subL gf hs6.1 (by lia) (noL_at hs6) ?_
        walk_at "eb"
        refine q_both1 ?_
        walk_at "eb"
        refine ⟨?_, rfl⟩
        rw [List.take_add_one, hs]; simp
      · rintro acc G' ⟨rfl, rfl⟩
        rw [List.length_map, List.take_length]
        refine q_newList (by rw [List.length_map]; lia) fun ds hds => ?_
        refine w_forT (p.2.map V.int) (fun t m' G => Hle H G ∧ m' 5 = some (.ref g) ∧ m' 23 = some (.ref df) ∧ m' 24 = some (.ref dn) ∧ m' 27 = some (.ref ds) ∧ G ds = some (.list (p.2.map V.int)) ∧ G df = some (.list noL) ∧ G dn = some (.dictI [(5, .ref x5), (6, .ref x6)]) ∧ G x5 = some (.dictI []) ∧ G x6 = some (.dictI [])) (fun K hK => ?_) ?_ ?_
        · walk_at "eb"
          refine q_attr (put_get (lG _ _ hrule) hds) (X.fld _ _ (by decide +kernel)) lk_right ?_
          exact hK _ _ ⟨rfl, lG.put (lG.non hds) _, by walk_at "lo", by walk_at "lo", by walk_at "lo", by walk_at "lo", hp_self, put_get gf hds, put_get gn hds, put_get h5 hds, put_get h6 hds⟩
        · rintro K t v m' G hK hKr hv ⟨lG, e5, e23, e24, e27, gs, gf, gn, h5, h6⟩
          rw [List.getElem?_map] at hv
          obtain ⟨s, hs, rfl⟩ := Option.map_eq_some_iff.mp hv
          have hs6 := hp3 s (List.mem_of_getElem? hs)
          refine ⟨_, asg_one, ?_⟩
          walk_at "eb"
          refine q_subL gf hs6.1 (by lia) (noL_at hs6) ?_
          walk_at "eb"
          refine q_both0 ?_
          walk_at "eb"
          refine q_lenL gs (by rw [List.length_map]; lia) ?_
          rw [List.length_map]
          walk_at "eb"
          refine q_both (fun h1 => ?_) fun zz => ?_
          · walk_at "eb"
            refine q_meth (gf := 298) (lG _ _ a1) (by kernel_rfl) (X.mth _ _ _ (by decide +kernel)) ?_
            walk_at "eb"
            refine CallOK.up (n := n + 2) (c_terminal W X F (hg.le lG) ?_) (nle rfl)
            walk_at "eb"
            have hlt : s < 5 := hone (by lia) s (List.mem_of_getElem? hs)
            refine q_bothn (fun h => absurd hlt h) fun zz => ?_
            walk_at "eb"
            exact ⟨lG, by walk_at "lo", by walk_at "lo", by walk_at "lo", by walk_at "lo", gs, gf, gn, h5, h6⟩
          · walk_at "eb"
            refine q_both0 ?_
            walk_at "eb"
            exact ⟨lG, by walk_at "lo", by walk_at "lo", by walk_at "lo", by walk_at "lo", gs, gf, gn, h5, h6⟩
        · rintro m' G ⟨lG, e5, e23, e24, e27, gs, gf, gn, h5, h6⟩
          walk_at "eb"
          exact ⟨lG, e5, e23, e24, gf, gn, h5, h6⟩
    · rintro m' G ⟨lG, e5, e23, e24, gf, gn, h5, h6⟩
      walk_at "eb"
      refine q_newList (by simp) fun od hod => ?_
      walk_at "eb"
      refine q_dct0 fun pd hpd => ?_
      have hodH := lG.non hod
      have hpdH := lG.non (put_non hpd)
      have lG2 := (lG.put hodH (.list [])).put hpdH (.dictI [])
      have nop : od ≠ pd := ne_of hp_self hpd
      have go2 : ((G.put od (.list [])).put pd (.dictI [])) od = some (.list []) := put_get hp_self hpd
      have gp2 : ((G.put od (.list [])).put pd (.dictI [])) pd = some (.dictI []) := hp_self
      have gn2 : ((G.put od (.list [])).put pd (.dictI [])) dn = some (.dictI [(5, .ref x5), (6, .ref x6)]) := put_get (put_get gn hod) hpd
      have h52 : ((G.put od (.list [])).put pd (.dictI [])) x5 = some (.dictI []) := put_get (put_get h5 hod) hpd
      have h62 : ((G.put od (.list [])).put pd (.dictI [])) x6 = some (.dictI []) := put_get (put_get h6 hod) hpd
      have ndo : dn ≠ od := ne_of gn hod
      have ndp : dn ≠ pd := ne_of (put_get gn hod) hpd
      have n5p : x5 ≠ pd := ne_of (put_get h5 hod) hpd
      have n6p : x6 ≠ pd := ne_of (put_get h6 hod) hpd
      have n5o : x5 ≠ od := ne_of h5 hod
      have n6o : x6 ≠ od := ne_of h6 hod
      generalize ((G.put od (.list [])).put pd (.dictI [])) = G2 at lG2 go2 gp2 gn2 h52 h62 ⊢
      refine w_whl (fun k m' G => Hle H G ∧ m' 24 = some (.ref dn) ∧ m' 25 = some (.ref od) ∧ m' 26 = some (.ref pd) ∧ G dn = some (.dictI [(5, .ref x5), (6, .ref x6)]) ∧ G x5 = some (.dictI []) ∧ G x6 = some (.dictI []) ∧ ((k = 1 ∧ G od = some (.list []) ∧ G pd = some (.dictI [])) ∨ (k = 0 ∧ G od = some (.list [.int 5, .int 6])))) 1
        ⟨lG2, by walk_at "lo", by walk_at "lo", by walk_at "lo", gn2, h52, h62, .inl ⟨rfl, go2, gp2⟩⟩ ?_
      rintro K k m' G hK hKr ⟨lG, e24, e25, e26, gn, h5, h6, ⟨rfl, go, gp⟩ | ⟨rfl, go⟩⟩
      · walk_at "eb"
        refine q_lenL go (by simp) ?_
        walk_at "eb"
        refine q_lenI gn (by simp) ?_
        walk_at "eb"
        refine q_both (fun zz => ?_) fun h => absurd (by simp) h
        walk_at "eb"
        refine q_lenL go (by simp) ?_
        refine w_forG (l := [V.int 5, V.int 6]) (src := some dn) (fun j m' G => Hle H G ∧ m' 24 = some (.ref dn) ∧ m' 25 = some (.ref od) ∧ m' 26 = some (.ref pd) ∧ m' 28 = some (.int 0) ∧ G dn = some (.dictI [(5, .ref x5), (6, .ref x6)]) ∧ G x5 = some (.dictI []) ∧ G x6 = some (.dictI []) ∧
          G od = some (.list (([(5 : Int), 6].take j).map V.int)) ∧ G pd = some (.dictI (([(5 : Int), 6].take j).map fun i => (i, .bool true)))) (fun K hK => ?_) ?_ ?_
        · walk_at "eb"
          refine ⟨by rw [it_dict gn]; rfl, ⟨lG, by walk_at "lo", by walk_at "lo", by walk_at "lo", by walk_at "lo", gn, h5, h6, go, gp⟩, ?_⟩
          rintro j m' G' ⟨_, _, _, _, _, gn', _⟩ a ha
          cases ha
          rw [gn, gn']
        · rintro K j v m' G hK hKr hv ⟨lG, e24, e25, e26, e28, gn, h5, h6, go, gp⟩
          obtain ⟨s, x, hsx, hvs, hx0, hlk⟩ : ∃ (s : Int) (x : Addr), [(5 : Int), 6][j]? = some s ∧ v = .int s ∧ G x = some (.dictI []) ∧ lk [((5 : Int), V.ref x5), (6, V.ref x6)] s = some (.ref x) := by
            match j, hv with
            | 0, hv => cases hv; exact ⟨5, x5, rfl, rfl, h5, rfl⟩
            | 1, hv => cases hv; exact ⟨6, x6, rfl, rfl, h6, rfl⟩
            | j + 2, hv => simp at hv
          subst hvs
          have hnotin : lk (([(5 : Int), 6].take j).map fun i => (i, V.bool true)) s = none := by
            match j, hsx with
            | 0, _ => rfl
            | 1, hsx => cases hsx; rfl
            | j + 2, hsx => simp at hsx
          refine ⟨_, asg_one, ?_⟩
          walk_at "eb"
          refine q_notinI gp ?_
          rw [hnotin]
          walk_at "eb"
          refine q_both1 ?_
          refine w_cmp ?_
          refine w_compIfG (l := []) (src := some x) (fun j acc G' => acc = [] ∧ G' = G) (fun K hK => ?_) ?_ ?_
          · walk_at "eb"
            refine q_subI gn hlk ?_
            refine hK _ _ ⟨by rw [it_dict hx0]; rfl, by simp, ⟨rfl, rfl⟩, ?_⟩
            rintro j acc G' ⟨_, rfl⟩ a _
            rfl
          · intro K P j v acc G' hK hKp hv; simp at hv
          · rintro acc G' ⟨rfl, rfl⟩
            refine q_newList (by simp) fun d1 hd1 => ?_
            walk_at "eb"
            refine q_newList (by simp) fun d2 hd2 => ?_
            refine q_eqEmpty (put_get hp_self hd2) hp_self ?_
            walk_at "eb"
            refine q_both1 ?_
            have lG3 := (lG.put (lG.non hd1) (.list [])).put (lG.non (put_non hd2)) (.list [])
            have gn3 : ((G'.put d1 (.list [])).put d2 (.list [])) dn = some (.dictI [(5, .ref x5), (6, .ref x6)]) := put_get (put_get gn hd1) hd2
            have go3 : ((G'.put d1 (.list [])).put d2 (.list [])) od = some (.list (([(5 : Int), 6].take j).map V.int)) := put_get (put_get go hd1) hd2
            have gp3 : ((G'.put d1 (.list [])).put d2 (.list [])) pd = some (.dictI (([(5 : Int), 6].take j).map fun i => (i, .bool true))) := put_get (put_get gp hd1) hd2
            have h53 : ((G'.put d1 (.list [])).put d2 (.list [])) x5 = some (.dictI []) := put_get (put_get h5 hd1) hd2
            have h63 : ((G'.put d1 (.list [])).put d2 (.list [])) x6 = some (.dictI []) := put_get (put_get h6 hd1) hd2
            generalize ((G'.put d1 (.list [])).put d2 (.list [])) = G3 at lG3 gn3 go3 gp3 h53 h63 ⊢
            walk_at "eb"
            refine q_storeI gp3 (by simp; lia) ?_
            walk_at "eb"
            have go4 := put_get' (x := .dictI (putI (([(5 : Int), 6].take j).map fun i => (i, V.bool true)) s (.bool true))) go3 nop
            refine ⟨isL_of go4, ?_⟩
            walk_at "eb"
            refine q_append go4 (by simp; lia) ?_
            refine ⟨rfl, ?_⟩
            walk_at "eb"
            refine ⟨(lG3.put hpdH _).put hodH _, by walk_at "lo", by walk_at "lo", by walk_at "lo", by walk_at "lo", put_get' (put_get' gn3 ndp) ndo, put_get' (put_get' h53 n5p) n5o, put_get' (put_get' h63 n6p) n6o, ?_, ?_⟩
            · rw [hp_self, List.take_add_one, hsx]; simp
            · rw [Hp.put_ne (Ne.symm nop), hp_self]
              congr 2
              match j, hsx with
              | 0, hsx => cases hsx; rfl
              | 1, hsx => cases hsx; rfl
              | j + 2, hsx => simp at hsx
        · rintro m' G ⟨lG, e24, e25, e26, e28, gn, h5, h6, go, gp⟩
          walk_at "eb"
          refine q_lenL go (by simp) ?_
          walk_at "eb"
          refine q_both (fun h => absurd h (by decide)) fun zz => ?_
          walk_at "eb"
          exact ⟨0, by decide, lG, e24, e25, e26, gn, h5, h6, .inr ⟨rfl, go⟩⟩
      · walk_at "eb"
        refine q_lenL go (by simp) ?_
        walk_at "eb"
        refine q_lenI gn (by simp) ?_
        walk_at "eb"
        refine q_both (fun h => absurd h (by simp)) fun zz => ?_
        walk_at "eb"
        exact q od G lG hodH go
end
end Mine
set_option tactic.hygienic false
open PySem PySem.W PySem.Calls PyProof PyProof.Rows PySem.SeqAt
set_option maxRecDepth 100000
namespace Mine
noncomputable def lsum : List Int → Int
  | [] => 0
  | x :: r => x + lsum r
theorem lsum_append : ∀ l k : List Int, lsum (l ++ k) = lsum l + lsum k
  | [], k => by simp [lsum]
  | x :: r, k => by simp [lsum, lsum_append r k, Int.add_assoc]
theorem lsum_perm {l k : List Int} (h : l.Perm k) : lsum l = lsum k := by
  induction h with
  | nil => rfl
  | cons x _ ih => simp [lsum, ih]
  | swap x y l => simp only [lsum]; lia
  | trans _ _ h1 h2 => exact h1.trans h2
theorem sumTo_list (g : Nat → Int) : ∀ n, sumTo g n = lsum ((List.range n).map g)
  | 0 => rfl
  | n + 1 => by rw [List.range_succ, List.map_append, lsum_append, ← sumTo_list g n]; simp [sumTo, lsum]
theorem lsum_filter (g : Nat → Int) (p : Nat → Bool) : ∀ l : List Nat, (∀ k ∈ l, p k = false → g k = 0) → lsum (l.map g) = lsum ((l.filter p).map g)
  | [], _ => rfl
  | x :: r, h => by
    have ih := lsum_filter g p r fun k hk => h k (List.mem_cons_of_mem _ hk)
    rw [List.filter_cons]
    cases hp : p x with
    | true => simp [lsum, ih]
    | false => simp [lsum, ih, h x (by simp) hp]
theorem nodup_filter {p : Nat → Bool} {l : List Nat} (h : l.Nodup) : (l.filter p).Nodup := List.Pairwise.filter p h
theorem keysum {ks : List Nat} {e : Nat} {g : Nat → Int} (hn : ks.Nodup) (hle : ∀ k ∈ ks, k ≤ e) (h0 : ∀ k, k ∉ ks → g k = 0) : lsum (ks.map g) = sumTo g (e + 1) := by
  rw [sumTo_list, lsum_filter g (fun k => decide (k ∈ ks)) (List.range (e + 1)) fun k zz hk => h0 k (by simpa using hk)]
  refine lsum_perm (List.Perm.map g ((List.perm_ext_iff_of_nodup hn (nodup_filter List.nodup_range)).mpr fun a => ?_))
  simp only [List.mem_filter, List.mem_range, decide_eq_true_eq]
  constructor
  · intro h; exact ⟨by have := hle a h; lia, h⟩
  · exact fun h => h.2
theorem sumTo_congr {f g : Nat → Int} : ∀ n, (∀ k, k < n → f k = g k) → sumTo f n = sumTo g n
  | 0, _ => rfl
  | n + 1, h => by simp only [sumTo]; rw [sumTo_congr n fun k hk => h k (by lia), h n (by lia)]
theorem sumTo_zero {f : Nat → Int} : ∀ n, (∀ k, k < n → f k = 0) → sumTo f n = 0
  | 0, _ => rfl
  | n + 1, h => by simp only [sumTo]; rw [sumTo_zero n fun k hk => h k (by lia), h n (by lia)]; rfl
theorem sumTo_mul {f : Nat → Int} (c : Int) : ∀ n, sumTo (fun k => f k * c) n = sumTo f n * c
  | 0 => by simp [sumTo]
  | n + 1 => by simp only [sumTo]; rw [sumTo_mul c n, Int.add_mul]
theorem sumTo_shift {f : Nat → Int} (b : Nat) (h : ∀ k, k < b → f k = 0) : ∀ n, sumTo f (b + n) = sumTo (fun i => f (b + i)) n
  | 0 => by simpa [sumTo] using sumTo_zero b h
  | n + 1 => by show sumTo f (b + n) + f (b + n) = _; rw [sumTo_shift b h n]; rfl
noncomputable def edge (cf : Int → Nat → Nat → Int) (nums : List Int) (e : Nat) (sy : Int) (spot goal : Nat) : Int :=
  (if goal = spot + 1 ∧ spot < e ∧ nums[spot]? = some sy then 1 else 0) + (if spot ≤ goal ∧ goal ≤ e then cf sy spot goal else 0)
noncomputable def stepW (cf : Int → Nat → Nat → Int) (nums : List Int) (e : Nat) (w : Nat → Int) (sy : Int) (goal : Nat) : Int := sumTo (fun spot => w spot * edge cf nums e sy spot goal) (e + 1)
noncomputable def waysW (cf : Int → Nat → Nat → Int) (nums : List Int) (b e : Nat) (xs : List Int) : Nat → Int := xs.foldl (stepW cf nums e) (fun k => if k = b then 1 else 0)
structure DI (es : List (Int × V)) (w : Nat → Int) (e : Nat) : Prop where
  keys : ∃ ks : List Nat, es.map (fun zz => zz.1) = ks.map (fun (k : Nat) => (k : Int)) ∧ ks.Nodup ∧ (∀ k ∈ ks, k ≤ e) ∧ (∀ k ∈ ks, lk es k = some (.int (w k))) ∧ ∀ k, k ∉ ks → lk es k = none ∧ w k = 0
theorem lk_none {K : Type} [DecidableEq K] {es : List (K × V)} {k : K} (h : k ∉ es.map (fun zz => zz.1)) : lk es k = none := by
  induction es with
  | nil => rfl
  | cons p r ih =>
    obtain ⟨a, v⟩ := p
    simp only [List.map_cons, List.mem_cons, not_or] at h
    simp only [lk]
    rw [if_neg (fun e => h.1 e.symm)]
    exact ih h.2
theorem lk_append {K : Type} [DecidableEq K] {es : List (K × V)} {k j : K} {v : V} (h : k ∉ es.map (fun zz => zz.1)) : lk (es ++ [(k, v)]) j = if j = k then some v else lk es j := by
  induction es with
  | nil => simp [lk, eq_comm]
  | cons p r ih =>
    obtain ⟨a, u⟩ := p
    simp only [List.map_cons, List.mem_cons, not_or] at h
    simp only [List.cons_append, lk]
    by_cases q : a = j
    · subst q
      simp [Ne.symm h.1]
    · simp only [if_neg q]
      exact ih h.2
theorem lk_map {K : Type} [DecidableEq K] {es : List (K × V)} {k j : K} {v : V} (h : k ∈ es.map (fun zz => zz.1)) : lk (es.map fun e => if e.1 = k then (e.1, v) else e) j = if j = k then some v else lk es j := by
  induction es with
  | nil => simp at h
  | cons p r ih =>
    obtain ⟨a, u⟩ := p
    simp only [List.map_cons, lk]
    by_cases q : a = k
    · subst q
      simp only [if_true]
      by_cases qj : a = j
      · subst qj; simp
      · rw [if_neg qj, if_neg (fun e => qj e.symm), if_neg qj]
        by_cases hr : a ∈ r.map (fun zz => zz.1)
        · rw [ih hr, if_neg (fun e => qj e.symm)]
        · have : (r.map fun e => if e.1 = a then (e.1, v) else e) = r := by
            conv => rhs; rw [← List.map_id r]
            refine List.map_congr_left fun x hx => ?_
            rw [if_neg]; rfl
            rintro e; exact hr (e ▸ List.mem_map_of_mem hx)
          rw [this]
    · simp only [if_neg q]
      have hr : k ∈ r.map (fun zz => zz.1) := by
        simp only [List.map_cons, List.mem_cons] at h
        rcases h with h | h
        · exact absurd h.symm q
        · exact h
      by_cases qj : a = j
      · subst qj; simp [q]
      · rw [if_neg qj, if_neg qj, ih hr]
set_option tactic.hygienic true in
theorem lk_put {K : Type} [DecidableEq K] (es : List (K × V)) (k j : K) (v : V) : lk (putI es k v) j = if j = k then some v else lk es j := by
  unfold putI
  split
  · rename_i h
    refine lk_map ?_
    rw [List.any_eq_true] at h
    obtain ⟨p, hp, e⟩ := h
    exact List.mem_map.mpr ⟨p, hp, of_decide_eq_true e⟩
  · rename_i h
    refine lk_append fun hm => h ?_
    obtain ⟨p, hp, e⟩ := List.mem_map.mp hm
    exact List.any_eq_true.mpr ⟨p, hp, by simp [e]⟩
theorem put_keys {K : Type} [DecidableEq K] (es : List (K × V)) (k : K) (v : V) : (putI es k v).map (fun zz => zz.1) = if k ∈ es.map (fun zz => zz.1) then es.map (fun zz => zz.1) else es.map (fun zz => zz.1) ++ [k] := by
  unfold putI
  by_cases h : k ∈ es.map (fun zz => zz.1)
  · rw [if_pos h, if_pos]
    · rw [List.map_map]
      refine List.map_congr_left fun x zz => ?_
      simp only [Function.comp]
      split <;> rfl
    · obtain ⟨p, hp, e⟩ := List.mem_map.mp h
      exact List.any_eq_true.mpr ⟨p, hp, by simp [e]⟩
  · rw [if_neg h, if_neg]
    · simp
    · rw [List.any_eq_true]
      rintro ⟨p, hp, e⟩
      exact h (List.mem_map.mpr ⟨p, hp, of_decide_eq_true e⟩)
set_option tactic.hygienic true in
theorem DI.put {es : List (Int × V)} {w : Nat → Int} {e k : Nat} (x : DI es w e) (hk : k ≤ e) (v : Int) : DI (putI es k (.int v)) (fun j => if j = k then v else w j) e := by
  obtain ⟨ks, h1, h2, h3, h4, h5⟩ := x.keys
  have hmem : ((k : Int) ∈ es.map (fun zz => zz.1)) ↔ k ∈ ks := by
    rw [h1, List.mem_map]
    constructor
    · rintro ⟨a, ha, e⟩
      have : a = k := by lia
      exact this ▸ ha
    · intro h; exact ⟨k, h, rfl⟩
  refine ⟨⟨if k ∈ ks then ks else ks ++ [k], ?_, ?_, ?_, ?_, ?_⟩⟩
  · rw [put_keys]
    by_cases h : k ∈ ks
    · rw [if_pos h, if_pos (hmem.mpr h), h1]
    · rw [if_neg h, if_neg (fun z => h (hmem.mp z)), h1]; simp
  · split
    · exact h2
    · rename_i h
      rw [List.nodup_append]
      refine ⟨h2, by simp, fun a ha b hb e => ?_⟩
      simp only [List.mem_singleton] at hb
      subst hb; subst e; exact h ha
  · intro j hj
    split at hj
    · exact h3 j hj
    · rcases List.mem_append.mp hj with hj | hj
      · exact h3 j hj
      · simp only [List.mem_singleton] at hj; lia
  · intro j hj
    rw [lk_put]
    by_cases q : j = k
    · subst q; simp
    · have q' : ¬ ((j : Int) = (k : Int)) := by lia
      rw [if_neg q']
      simp only [if_neg q]
      refine h4 j ?_
      split at hj
      · exact hj
      · rcases List.mem_append.mp hj with hj | hj
        · exact hj
        · simp only [List.mem_singleton] at hj; exact absurd hj q
  · intro j hj
    have q : j ≠ k := by
      rintro rfl
      split at hj
      · rename_i h; exact hj h
      · exact hj (by simp)
    have q' : ¬ ((j : Int) = (k : Int)) := by lia
    rw [lk_put, if_neg q']
    simp only [if_neg q]
    refine h5 j fun hm => hj ?_
    split
    · exact hm
    · exact List.mem_append_left _ hm
theorem DI.get {es : List (Int × V)} {w : Nat → Int} {e : Nat} (x : DI es w e) (k : Nat) : (lk es k).getD (.int 0) = .int (w k) := by
  obtain ⟨ks, h1, h2, h3, h4, h5⟩ := x.keys
  by_cases h : k ∈ ks
  · rw [h4 k h]; rfl
  · obtain ⟨a, b⟩ := h5 k h
    rw [a, b]; rfl
theorem DI.nil (e : Nat) : DI [] (fun zz => 0) e := ⟨[], rfl, List.nodup_nil, by simp, by simp, fun k zz => ⟨rfl, rfl⟩⟩
theorem DI.congr {es : List (Int × V)} {w w' : Nat → Int} {e : Nat} (x : DI es w e) (h : ∀ k, w k = w' k) : DI es w' e := by
  have : w = w' := funext h
  rwa [this] at x
theorem DI.len {es : List (Int × V)} {w : Nat → Int} {e : Nat} (x : DI es w e) : es.length ≤ e + 1 := by
  obtain ⟨ks, h1, h2, h3, _⟩ := x.keys
  have e1 : es.length = ks.length := by simpa using congrArg List.length h1
  have : ks.length ≤ (List.range (e + 1)).length := by
    have hp := (List.perm_ext_iff_of_nodup h2 (nodup_filter (p := fun k => decide (k ∈ ks)) (List.nodup_range (n := e + 1)))).mpr fun a => by
      simp only [List.mem_filter, List.mem_range, decide_eq_true_eq]
      exact ⟨fun h => ⟨by have := h3 a h; lia, h⟩, fun h => h.2⟩
    rw [hp.length_eq]
    exact List.length_filter_le _ _
  simp at this
  lia
end Mine
set_option tactic.hygienic false
open PySem PySem.W PySem.Calls PyProof PyProof.Rows PySem.SeqAt
set_option maxRecDepth 100000
set_option maxHeartbeats 4000000
namespace Mine
noncomputable def CF (es : List (List Int × V)) (cf : Int → Nat → Nat → Int) : Prop := ∀ (s : Int) (i j : Nat), lk es [s, i, j] = (if cf s i j = 0 then none else some (.int (cf s i j))) ∧ 0 ≤ cf s i j ∧ cf s i j < 1000000000
set_option tactic.hygienic true in
theorem CF.get {es : List (List Int × V)} {cf : Int → Nat → Nat → Int} (h : CF es cf) (s : Int) (i j : Nat) : (lk es [s, i, j]).getD (.int 0) = .int (cf s i j) := by
  rw [(h s i j).1]
  split
  · rename_i e; rw [e]; rfl
  · rfl
section
variable {c : Cx} {n : Nat} {m : Lo} {H H' : Hp} {Q : V → Hp → Prop}
theorem c_ways (W : Wd c) (F : Fs c) {dw dc : Addr} {nums xs : List Int} {b e : Nat} {ces : List (List Int × V)} {cf : Int → Nat → Nat → Int} (hw : H dw = some (.list (nums.map V.int))) (hc : H dc = some (.dictT ces)) (hcf : CF ces cf) (hbe : b ≤ e) (he : e ≤ nums.length) (hn : nums.length ≤ 20)
    (q : ∀ H', Hle H H' → Q (.int (waysW cf nums b e xs e)) H') : CallOK c (n + 2) (.fn (.ref 227)) [.tup (xs.map V.int), .ref dw, .int b, .int e, .ref dc] Q H := by
  refine call_at W F.ways (fun env hs E => ok_ways W hs E) rfl ?_
  show swps c (n + 1) ir_ways _ (((((noLo.put 31 (.tup (xs.map V.int))).put 32 (.ref dw)).put 33 (.int b)).put 34 (.int e)).put 35 (.ref dc)) H
  unfold ir_ways
  walk_at "eb"
  refine ⟨[((b : Int), .int 1)], rfl, by simp, by simp, fun d0 hd0 => ?_⟩
  have di0 : DI [((b : Int), V.int 1)] (waysW cf nums b e []) e := by
    have := (DI.nil e).put hbe 1
    exact this
  refine w_forT (xs.map V.int) (fun k m' G => Hle H G ∧ m' 32 = some (.ref dw) ∧ m' 34 = some (.int e) ∧ m' 35 = some (.ref dc) ∧ ∃ dr es, m' 36 = some (.ref dr) ∧ G dr = some (.dictI es) ∧ H dr = none ∧ DI es (waysW cf nums b e (xs.take k)) e) (fun K hK => ?_) ?_ ?_
  · walk_at "eb"
    exact ⟨rfl, (Hle.refl H).put hd0 _, by walk_at "lo", by walk_at "lo", by walk_at "lo", d0, _, by walk_at "lo", hp_self, hd0, di0⟩
  · rintro K k v m' G hK hKr hv ⟨lG, e32, e34, e35, dr, es, e36, gr, hdr, di⟩
    rw [List.getElem?_map] at hv
    obtain ⟨sy, hsy, rfl⟩ := Option.map_eq_some_iff.mp hv
    have hnext : waysW cf nums b e (xs.take (k + 1)) = stepW cf nums e (waysW cf nums b e (xs.take k)) sy := by
      rw [List.take_add_one, hsy]; simp [waysW]
    generalize waysW cf nums b e (xs.take k) = w at di hnext
    obtain ⟨ks, hk1, hk2, hk3, hk4, hk5⟩ := id di.keys
    refine ⟨_, asg_one, ?_⟩
    walk_at "eb"
    refine q_dct0 fun dl hdl => ?_
    have hdlH := lG.non hdl
    have nlr : dl ≠ dr := (ne_of gr hdl).symm
    have hlen : es.length = ks.length := by simpa using congrArg List.length hk1
    have hdi := di.len
    refine w_forG (l := es.map fun p => V.int p.1) (src := some dr) (fun j m' G => Hle H G ∧ m' 32 = some (.ref dw) ∧ m' 34 = some (.int e) ∧ m' 35 = some (.ref dc) ∧ m' 36 = some (.ref dr) ∧ m' 37 = some (.ref dl) ∧ m' 13 = some (.int sy) ∧ G dr = some (.dictI es) ∧
      ∃ es', G dl = some (.dictI es') ∧ DI es' (fun goal => lsum ((ks.take j).map fun k => w k * edge cf nums e sy k goal)) e) (fun K hK => ?_) ?_ ?_
    · walk_at "eb"
      refine ⟨it_dict (put_get gr hdl), ⟨lG.put hdlH _, by walk_at "lo", by walk_at "lo", by walk_at "lo", by walk_at "lo", by walk_at "lo", by walk_at "lo", put_get gr hdl, [], hp_self, by simpa [lsum] using DI.nil e⟩, ?_⟩
      rintro j m' G' ⟨_, _, _, _, _, _, _, gr', _⟩ a ha
      cases ha
      rw [gr', put_get gr hdl]
    · rintro K j v m' G hK hKr hv ⟨lG, e32, e34, e35, e36, e37, e13, gr, es1, gl, di1⟩
      obtain ⟨sp, hsp, rfl⟩ : ∃ sp, ks[j]? = some sp ∧ v = V.int (sp : Int) := by
        have e1 : es.map (fun p => V.int p.1) = (es.map (fun zz => zz.1)).map V.int := by simp
        rw [e1, hk1, List.map_map, List.getElem?_map] at hv
        obtain ⟨sp, h1, h2⟩ := Option.map_eq_some_iff.mp hv
        exact ⟨sp, h1, h2.symm⟩
      have hspm : sp ∈ ks := List.mem_of_getElem? hsp
      have hspe := hk3 sp hspm
      have hlk := hk4 sp hspm
      have htake : ∀ goal, lsum ((ks.take (j + 1)).map fun k => w k * edge cf nums e sy k goal) = lsum ((ks.take j).map fun k => w k * edge cf nums e sy k goal) + w sp * edge cf nums e sy sp goal := fun goal => by
        rw [List.take_add_one, hsp]; simp [lsum_append, lsum]
      obtain ⟨p0, hp0⟩ : ∃ p0 : Nat → Int, p0 = fun goal => lsum ((ks.take j).map fun k => w k * edge cf nums e sy k goal) := ⟨_, rfl⟩
      rw [← hp0] at di1
      have hnew : (fun goal => lsum ((ks.take (j + 1)).map fun k => w k * edge cf nums e sy k goal)) = fun goal => p0 goal + w sp * edge cf nums e sy sp goal := by
        funext goal
        rw [htake goal, hp0]
      rw [hnew] at hK
      clear htake hnew hp0
      refine ⟨_, asg_one, ?_⟩
      refine w_iffJ (fun m' G => Hle H G ∧ m' 32 = some (.ref dw) ∧ m' 34 = some (.int e) ∧ m' 35 = some (.ref dc) ∧ m' 36 = some (.ref dr) ∧ m' 37 = some (.ref dl) ∧ m' 13 = some (.int sy) ∧ m' 38 = some (.int sp) ∧ G dr = some (.dictI es) ∧
        ∃ es', G dl = some (.dictI es') ∧ DI es' (fun goal => p0 goal + w sp * (if goal = sp + 1 ∧ sp < e ∧ nums[sp]? = some sy then 1 else 0)) e) (fun K hK hKr => ?_) ?_
      · walk_at "eb"
        refine q_both (fun hlt => ?_) fun hlt => ?_
        · have hlt' : sp < e := by lia
          have hnl : sp < nums.length := by lia
          walk_at "eb"
          refine q_subL (v := .int nums[sp]) (lG _ _ hw) (by lia) (by lia) (by simp [hnl]) ?_
          walk_at "eb"
          refine q_both (fun heq => ?_) fun heq => ?_
          · have hns : nums[sp]? = some sy := by rw [← heq]; simp [hnl]
            walk_at "eb"
            refine ⟨⟨dl, rfl, .inl ⟨_, gl⟩⟩, ?_⟩
            walk_at "eb"
            constructor; refine ⟨_, gl, ?_⟩
            have e1 : (sp : Int) + 1 = ((sp + 1 : Nat) : Int) := by lia
            rw [e1, di1.get (sp + 1)]
            walk_at "eb"
            refine q_subI gr hlk ?_
            walk_at "eb"
            refine q_storeI gl (by have := di1.len; lia) ?_
            walk_at "eb"
            refine ⟨lG.put hdlH _, by walk_at "lo", by walk_at "lo", by walk_at "lo", by walk_at "lo", by walk_at "lo", by walk_at "lo", by walk_at "lo", put_get' gr (Ne.symm nlr), _, hp_self, (di1.put (k := sp + 1) (by lia) _).congr fun goal => ?_⟩
            by_cases hg : goal = sp + 1
            · subst hg
              simp [hlt', hns]
            · simp [hg]
          · have hns : nums[sp]? ≠ some sy := by
              intro h
              apply heq
              rw [List.getElem?_eq_getElem hnl] at h
              simpa using h
            walk_at "eb"
            exact ⟨lG, by walk_at "lo", by walk_at "lo", by walk_at "lo", by walk_at "lo", by walk_at "lo", by walk_at "lo", by walk_at "lo", gr, _, gl, di1.congr fun goal => by simp [hns]⟩
        · walk_at "eb"
          refine q_both0 ?_
          walk_at "eb"
          have hlt' : ¬ sp < e := by lia
          exact ⟨lG, by walk_at "lo", by walk_at "lo", by walk_at "lo", by walk_at "lo", by walk_at "lo", by walk_at "lo", by walk_at "lo", gr, _, gl, di1.congr fun goal => by simp [hlt']⟩
      · rintro m' G ⟨lG, e32, e34, e35, e36, e37, e13, e38, gr, es2, gl, di2⟩
        obtain ⟨p1, hp1⟩ : ∃ p1 : Nat → Int, p1 = fun goal => p0 goal + w sp * (if goal = sp + 1 ∧ sp < e ∧ nums[sp]? = some sy then 1 else 0) := ⟨_, rfl⟩
        rw [← hp1] at di2
        refine w_forR sp ((e : Int) + 1) (fun t m' G => Hle H G ∧ m' 32 = some (.ref dw) ∧ m' 34 = some (.int e) ∧ m' 35 = some (.ref dc) ∧ m' 36 = some (.ref dr) ∧ m' 37 = some (.ref dl) ∧ m' 13 = some (.int sy) ∧ m' 38 = some (.int sp) ∧ G dr = some (.dictI es) ∧
          ∃ es', G dl = some (.dictI es') ∧ DI es' (fun goal => p1 goal + (if sp ≤ goal ∧ goal < sp + t then w sp * cf sy sp goal else 0)) e) (fun K hK => ?_) ?_ ?_
        · walk_at "eb"
          refine ⟨_, _, rfl, rfl, ⟨by lia, by lia, by lia, by lia⟩, hK _ _ ⟨ rfl, lG, by walk_at "lo", by walk_at "lo", by walk_at "lo", by walk_at "lo", by walk_at "lo", by walk_at "lo", by walk_at "lo", gr, _, gl, di2.congr fun goal => ?_⟩⟩
          rw [if_neg (by lia), Int.add_zero]
        · rintro K t m' G hK hKr ht ⟨lG, e32, e34, e35, e36, e37, e13, e38, gr, es3, gl, di3⟩
          have hte : sp + t ≤ e := by lia
          have e1 : (sp : Int) + (t : Int) = ((sp + t : Nat) : Int) := by lia
          refine ⟨_, asg_one, ?_⟩
          rw [e1]
          walk_at "eb"
          refine ⟨⟨dc, rfl, .inr ⟨_, lG _ _ hc⟩⟩, ?_⟩
          walk_at "eb"
          refine ⟨by simp, ?_⟩
          walk_at "eb"
          constructor; refine ⟨ces, [sy, (sp : Int), ((sp + t : Nat) : Int)], lG _ _ hc, rfl, ?_⟩
          rw [hcf.get]
          walk_at "eb"
          obtain ⟨_, hc0, hc1⟩ := hcf sy sp (sp + t)
          have hstep : ∀ goal, (if sp ≤ goal ∧ goal < sp + (t + 1) then w sp * cf sy sp goal else 0) = (if sp ≤ goal ∧ goal < sp + t then w sp * cf sy sp goal else 0) + (if goal = sp + t then w sp * cf sy sp (sp + t) else 0) := by
            intro goal
            by_cases h1 : goal = sp + t
            · subst h1
              rw [if_pos (by lia), if_neg (by lia), if_pos rfl]; lia
            · by_cases h2 : sp ≤ goal ∧ goal < sp + t
              · rw [if_pos (by lia), if_pos h2, if_neg h1]; lia
              · rw [if_neg (by lia), if_neg h2, if_neg h1]; lia
          refine q_both (fun hpos => ?_) fun hpos => ?_
          · walk_at "eb"
            refine ⟨⟨dl, rfl, .inl ⟨_, gl⟩⟩, ?_⟩
            walk_at "eb"
            constructor; refine ⟨_, gl, ?_⟩
            rw [di3.get (sp + t)]
            walk_at "eb"
            refine q_subI gr hlk ?_
            walk_at "eb"
            refine q_mul (.inr (by unfold Sm; lia)) ?_
            walk_at "eb"
            refine q_storeI gl (by have := di3.len; lia) ?_
            walk_at "eb"
            refine ⟨lG.put hdlH _, by walk_at "lo", by walk_at "lo", by walk_at "lo", by walk_at "lo", by walk_at "lo", by walk_at "lo", by walk_at "lo", put_get' gr (Ne.symm nlr), _, hp_self, (di3.put (k := sp + t) hte _).congr fun goal => ?_⟩
            rw [hstep goal]
            by_cases h1 : goal = sp + t
            · subst h1
              rw [if_pos rfl, if_pos rfl]
              lia
            · rw [if_neg h1, if_neg h1]; lia
          · walk_at "eb"
            have hz : cf sy sp (sp + t) = 0 := by lia
            refine ⟨lG, by walk_at "lo", by walk_at "lo", by walk_at "lo", by walk_at "lo", by walk_at "lo", by walk_at "lo", by walk_at "lo", gr, _, gl, di3.congr fun goal => ?_⟩
            rw [hstep goal, hz]
            simp
        · rintro m' G ⟨lG, e32, e34, e35, e36, e37, e13, e38, gr, es3, gl, di3⟩
          refine w_nil ?_
          refine hK _ _ ⟨lG, e32, e34, e35, e36, e37, e13, gr, _, gl, di3.congr fun goal => ?_⟩
          rw [hp1]
          simp only [edge, Int.mul_add, ← Int.add_assoc]
          congr 1
          have : ((e : Int) + 1 - (sp : Int)).toNat = e + 1 - sp := by lia
          rw [this]
          by_cases h : sp ≤ goal ∧ goal ≤ e
          · rw [if_pos h, if_pos (by lia)]
          · rw [if_neg h, if_neg (by lia)]; simp
    · rintro m' G ⟨lG, e32, e34, e35, e36, e37, e13, gr, es1, gl, di1⟩
      walk_at "eb"
      refine ⟨lG, by walk_at "lo", by walk_at "lo", by walk_at "lo", dl, _, by walk_at "lo", gl, hdlH, di1.congr fun goal => ?_⟩
      rw [List.length_map, hlen, List.take_length, hnext]
      unfold stepW
      refine keysum hk2 hk3 fun k hk => ?_
      rw [(hk5 k hk).2]; simp
  · rintro m' G ⟨lG, e32, e34, e35, dr, es, e36, gr, hdr, di⟩
    rw [List.length_map, List.take_length] at di
    walk_at "eb"
    refine ⟨⟨dr, rfl, .inl ⟨_, gr⟩⟩, ?_⟩
    walk_at "eb"
    constructor; refine ⟨_, gr, ?_⟩
    rw [di.get e]
    exact q G lG
end
end Mine
set_option tactic.hygienic false
open PySem PySem.W PySem.Calls PyProof PyProof.Rows PySem.SeqAt
set_option maxRecDepth 100000
set_option maxHeartbeats 4000000
namespace Mine
noncomputable def convT (t : Nat → Int) : Nat → Nat → Int
  | 0, d => if d = 0 then 1 else 0
  | k + 1, d => sumTo (fun i => convT t k i * t (d - i)) (d + 1)
noncomputable def rsum (c2 c3 c4 : Int) (n : Nat) (t : Nat → Int) : Int := (if n = 1 then 1 else 0) + c2 * convT t 2 n + c3 * convT t 3 n + c4 * convT t 4 n
noncomputable def TTl (c2 c3 c4 : Int) : Nat → List Int
  | 0 => []
  | n + 1 => TTl c2 c3 c4 n ++ [rsum c2 c3 c4 n fun d => (TTl c2 c3 c4 n).getD d 0]
noncomputable def TN (c2 c3 c4 : Int) (d : Nat) : Int := rsum c2 c3 c4 d fun i => (TTl c2 c3 c4 d).getD i 0
theorem TTl_len (c2 c3 c4 : Int) : ∀ n, (TTl c2 c3 c4 n).length = n
  | 0 => rfl
  | n + 1 => by simp [TTl, TTl_len c2 c3 c4 n]
theorem TTl_get (c2 c3 c4 : Int) : ∀ n d, (TTl c2 c3 c4 n).getD d 0 = if d < n then TN c2 c3 c4 d else 0
  | 0, d => by simp [TTl]
  | n + 1, d => by
    have ih := TTl_get c2 c3 c4 n
    have hl := TTl_len c2 c3 c4 n
    rw [TTl]
    by_cases h : d < n
    · have := ih d
      rw [if_pos h] at this
      rw [if_pos (by lia), ← this, List.getD_eq_getElem?_getD, List.getD_eq_getElem?_getD, List.getElem?_append_left (by lia)]
    · by_cases h2 : d = n
      · subst h2
        rw [if_pos (by lia), List.getD_eq_getElem?_getD, List.getElem?_append_right (by lia), hl]
        simp [TN]
      · rw [if_neg (by lia), List.getD_eq_getElem?_getD, List.getElem?_eq_none (by simp [hl]; lia)]; rfl
theorem lagrange : ∀ n ∈ [1, 2, 3, 4, 5], ∀ c2 ∈ [(0 : Int), 1, 2], ∀ c3 ∈ [(0 : Int), 1, 2], ∀ c4 ∈ [(0 : Int), 1], TN c2 c3 c4 n = dSum n c2 c3 c4 := by decide +kernel
theorem TN_bound : ∀ n ∈ [0, 1, 2, 3, 4, 5, 6], ∀ c2 ∈ [(0 : Int), 1, 2], ∀ c3 ∈ [(0 : Int), 1, 2], ∀ c4 ∈ [(0 : Int), 1], 0 ≤ TN c2 c3 c4 n ∧ TN c2 c3 c4 n < 1000000 := by decide +kernel
theorem TN_zero (c2 c3 c4 : Int) : TN c2 c3 c4 0 = 0 := by
  simp [TN, rsum, convT, sumTo, TTl]
theorem few_mem {c2 c3 c4 : Int} (h : Few c2 c3 c4) : c2 ∈ [(0 : Int), 1, 2] ∧ c3 ∈ [(0 : Int), 1, 2] ∧ c4 ∈ [(0 : Int), 1] := by
  obtain ⟨⟨h1, h2⟩, ⟨h3, h4⟩, h5, h6⟩ := h
  simp only [List.mem_cons, List.not_mem_nil, or_false]
  lia
noncomputable def sgv (ws : List Bool) (sa sb : Int) (x : Int) : Int := (if x = symI ws (some false) then sa else 0) + (if x = symI ws (some true) then sb else 0)
noncomputable def pwr (ws : List Bool) (sa sb : Int) (nums : List Int) (b : Nat) : Nat → Int
  | 0 => 1
  | l + 1 => pwr ws sa sb nums b l * sgv ws sa sb (nums.getD (b + l) 0)
theorem pwr_add (ws : List Bool) (sa sb : Int) (nums : List Int) (b i : Nat) : ∀ j, pwr ws sa sb nums b (i + j) = pwr ws sa sb nums b i * pwr ws sa sb nums (b + i) j
  | 0 => by simp [pwr]
  | j + 1 => by
    show pwr ws sa sb nums b (i + j) * sgv ws sa sb (nums.getD (b + (i + j)) 0) = pwr ws sa sb nums b i * (pwr ws sa sb nums (b + i) j * sgv ws sa sb (nums.getD (b + i + j) 0))
    rw [pwr_add ws sa sb nums b i j, Int.mul_assoc, Nat.add_assoc]
theorem symI_ne {ws : List Bool} (h : Two ws) : symI ws (some false) ≠ symI ws (some true) := by rcases h with rfl | rfl <;> decide
theorem sgv_bound {ws : List Bool} {sa sb : Int} (h : Two ws) (hs : (1 ≤ sa ∧ sa ≤ 2) ∧ 1 ≤ sb ∧ sb ≤ 2) (x : Int) : 0 ≤ sgv ws sa sb x ∧ sgv ws sa sb x ≤ 2 := by
  have := symI_ne h
  unfold sgv
  by_cases h1 : x = symI ws (some false)
  · rw [if_pos h1, if_neg (fun h2 => this (h1.symm.trans h2))]; lia
  · rw [if_neg h1]
    split <;> lia
theorem pwr_bound {ws : List Bool} {sa sb : Int} (h : Two ws) (hs : (1 ≤ sa ∧ sa ≤ 2) ∧ 1 ≤ sb ∧ sb ≤ 2) (nums : List Int) (b : Nat) : ∀ l, 0 ≤ pwr ws sa sb nums b l ∧ pwr ws sa sb nums b l ≤ 2 ^ l
  | 0 => by simp [pwr]
  | l + 1 => by
    obtain ⟨h1, h2⟩ := pwr_bound h hs nums b l
    obtain ⟨h3, h4⟩ := sgv_bound h hs (nums.getD (b + l) 0)
    refine ⟨Int.mul_nonneg h1 h3, ?_⟩
    rw [pwr, Int.pow_succ]
    exact Int.mul_le_mul h2 h4 h3 (by exact Int.pow_nonneg (by decide))
theorem sumTo_cut {f : Nat → Int} (d : Nat) : ∀ n, (∀ i, d < i → i < d + 1 + n → f i = 0) → sumTo f (d + 1 + n) = sumTo f (d + 1)
  | 0, _ => rfl
  | n + 1, h => by
    show sumTo f (d + 1 + n) + f (d + 1 + n) = _
    rw [sumTo_cut d n fun i h1 h2 => h i h1 (by lia), h (d + 1 + n) (by lia) (by lia), Int.add_zero]
section
variable {ws : List Bool} {sa sb : Int} {nums : List Int} {b e : Nat} {cf : Int → Nat → Nat → Int} {t : Nat → Int}
theorem ways6 (hbe : b ≤ e) (h6 : ∀ i : Nat, nums[i]? ≠ some 6) (hcf : ∀ i j, b ≤ i → i ≤ j → j ≤ e → cf 6 i j = t (j - i) * pwr ws sa sb nums i (j - i)) : ∀ k goal, waysW cf nums b e (List.replicate k 6) goal = if b ≤ goal ∧ goal ≤ e then convT t k (goal - b) * pwr ws sa sb nums b (goal - b) else 0
  | 0, goal => by
    show (if goal = b then (1 : Int) else 0) = _
    by_cases h : goal = b
    · subst h; simp [convT, pwr, hbe]
    · rw [if_neg h]
      split
      · have : ¬ goal - b = 0 := by lia
        simp [convT, this]
      · rfl
  | k + 1, goal => by
    have hs : waysW cf nums b e (List.replicate (k + 1) 6) = stepW cf nums e (waysW cf nums b e (List.replicate k 6)) 6 := by
      rw [List.replicate_succ']; simp [waysW]
    rw [hs]
    unfold stepW
    have ih := ways6 hbe h6 hcf k
    have hedge : ∀ spot, edge cf nums e 6 spot goal = if spot ≤ goal ∧ goal ≤ e then cf 6 spot goal else 0 := fun spot => by
      unfold edge
      rw [if_neg (fun h => h6 _ h.2.2), Int.zero_add]
    simp only [hedge]
    by_cases hg : b ≤ goal ∧ goal ≤ e
    · rw [if_pos hg]
      obtain ⟨d, rfl⟩ : ∃ d, goal = b + d := ⟨goal - b, by lia⟩
      have e1 : e + 1 = b + (e - b + 1) := by lia
      rw [e1, sumTo_shift b fun i hi => by rw [ih, if_neg (by lia)]; simp]
      have e2 : e - b + 1 = d + 1 + (e - b - d) := by lia
      rw [e2, sumTo_cut d (e - b - d) fun i h1 h2 => by rw [if_neg (by lia)]; simp]
      have e3 : b + d - b = d := by lia
      rw [e3]
      show _ = sumTo (fun i => convT t k i * t (d - i)) (d + 1) * _
      rw [← sumTo_mul]
      refine sumTo_congr _ fun i hi => ?_
      have hid : i ≤ d := by lia
      rw [ih, if_pos (by lia), if_pos (by lia), hcf (b + i) (b + d) (by lia) (by lia) hg.2]
      have e4 : b + i - b = i := by lia
      have e5 : b + d - (b + i) = d - i := by lia
      rw [e4, e5]
      have e6 : pwr ws sa sb nums b d = pwr ws sa sb nums b i * pwr ws sa sb nums (b + i) (d - i) := by
        have := pwr_add ws sa sb nums b i (d - i)
        rwa [show i + (d - i) = d by lia] at this
      rw [e6]
      simp only [Int.mul_assoc, Int.mul_left_comm, Int.mul_comm]
    · rw [if_neg hg]
      refine sumTo_zero _ fun i hi => ?_
      by_cases h1 : i ≤ goal ∧ goal ≤ e
      · rw [ih, if_neg (by lia)]; simp
      · rw [if_neg h1]; simp
theorem ways1 {s : Int} (hbe : b ≤ e) (h0 : ∀ i j, cf s i j = 0) : waysW cf nums b e [s] e = if e = b + 1 ∧ nums[b]? = some s then 1 else 0 := by
  show stepW cf nums e (fun k => if k = b then 1 else 0) s e = _
  unfold stepW edge
  simp only [h0]
  have : sumTo (fun spot => (if spot = b then (1 : Int) else 0) * ((if e = spot + 1 ∧ spot < e ∧ nums[spot]? = some s then 1 else 0) + if spot ≤ e ∧ e ≤ e then 0 else 0)) (e + 1) = sumTo (fun spot => if spot = b then (if e = b + 1 ∧ nums[b]? = some s then (1 : Int) else 0) else 0) (e + 1) := by
    refine sumTo_congr _ fun i zz => ?_
    by_cases h : i = b
    · subst h
      by_cases h1 : e = i + 1
      · simp [h1]
      · simp [h1]
    · simp [h]
  rw [this]
  have delta : ∀ (x : Int) n, b < n → sumTo (fun spot => if spot = b then x else 0) n = x := by
    intro x n
    induction n with
    | zero => intro h; lia
    | succ n ih =>
      intro h
      simp only [sumTo]
      by_cases hb : b < n
      · rw [ih hb, if_neg (by lia), Int.add_zero]
      · have : b = n := by lia
        subst this
        rw [sumTo_zero _ fun k hk => by rw [if_neg (by lia)], if_pos rfl, Int.zero_add]
  exact delta _ _ (by lia)
theorem ways60 (h0 : ∀ i j, cf 0 i j = 0) (hn : ∀ i : Nat, nums[i]? ≠ some 0) : waysW cf nums b e [6, 0] e = 0 := by
  show stepW cf nums e (stepW cf nums e _ 6) 0 e = 0
  unfold stepW
  refine sumTo_zero _ fun i zz => ?_
  have : edge cf nums e 0 i e = 0 := by
    unfold edge
    rw [if_neg (fun h => hn _ h.2.2), h0]; simp
  rw [this]; simp
theorem rules_sum {c2 c3 c4 : Int} {L : List Rt} {l : Nat} (hw : Two ws) (few : Few c2 c3 c4) (hs : (1 ≤ sa ∧ sa ≤ 2) ∧ 1 ≤ sb ∧ sb ≤ 2) (perm : L.Perm (baseR c2 c3 c4 sa sb)) (he : e = b + l) (hen : e ≤ nums.length) (h6 : ∀ i : Nat, nums[i]? ≠ some 6)
    (hcf : ∀ i j, b ≤ i → i ≤ j → j ≤ e → cf 6 i j = t (j - i) * pwr ws sa sb nums i (j - i)) (h0 : ∀ s, s ≠ 6 → ∀ i j, cf s i j = 0) :
    lsum (L.map fun r => waysW cf nums b e (r.map (symI ws)) e) = rsum c2 c3 c4 l t * pwr ws sa sb nums b l := by
  rw [lsum_perm (perm.map _)]
  have rep : ∀ (k : Nat) (x : Rt), lsum ((List.replicate k x).map fun r => waysW cf nums b e (r.map (symI ws)) e) = k * waysW cf nums b e (x.map (symI ws)) e := by
    intro k x
    induction k with
    | zero => simp [lsum]
    | succ k ih => rw [List.replicate_succ, List.map_cons]; simp only [lsum]; rw [ih]; rw [show ((k + 1 : Nat) : Int) = (k : Int) + 1 from rfl, Int.add_mul]; lia
  unfold baseR
  simp only [List.map_append, lsum_append, rep]
  have hbe : b ≤ e := by lia
  have w6 : ∀ k, waysW cf nums b e (List.replicate k 6) e = convT t k l * pwr ws sa sb nums b l := fun k => by
    rw [ways6 hbe h6 hcf k e, if_pos ⟨hbe, Nat.le_refl _⟩, show e - b = l by lia]
  have n1 : symI ws (some false) ≠ 6 := by rcases hw with rfl | rfl <;> decide
  have n2 : symI ws (some true) ≠ 6 := by rcases hw with rfl | rfl <;> decide
  have a2 : waysW cf nums b e (([none, none] : Rt).map (symI ws)) e = _ := w6 2
  have a3 : waysW cf nums b e (([none, none, none] : Rt).map (symI ws)) e = _ := w6 3
  have a4 : waysW cf nums b e (([none, none, none, none] : Rt).map (symI ws)) e = _ := w6 4
  have af : waysW cf nums b e (([some false] : Rt).map (symI ws)) e = _ := ways1 hbe (h0 _ n1)
  have at' : waysW cf nums b e (([some true] : Rt).map (symI ws)) e = _ := ways1 hbe (h0 _ n2)
  rw [a2, a3, a4, af, at']
  obtain ⟨⟨f1, f2⟩, ⟨f3, f4⟩, f5, f6⟩ := few
  rw [show ((c2.toNat : Nat) : Int) = c2 by lia, show ((c3.toNat : Nat) : Int) = c3 by lia, show ((c4.toNat : Nat) : Int) = c4 by lia, show ((sa.toNat : Nat) : Int) = sa by lia, show ((sb.toNat : Nat) : Int) = sb by lia]
  unfold rsum
  simp only [Int.add_mul, ← Int.mul_assoc]
  have hsg : sa * (if e = b + 1 ∧ nums[b]? = some (symI ws (some false)) then 1 else 0) + sb * (if e = b + 1 ∧ nums[b]? = some (symI ws (some true)) then 1 else 0) = (if l = 1 then 1 else 0) * pwr ws sa sb nums b l := by
    by_cases hl : l = 1
    · subst hl
      have hb : b < nums.length := by lia
      have e1 : nums[b]? = some nums[b] := by simp [hb]
      have e2 : nums.getD b 0 = nums[b] := by simp [List.getD, hb]
      rw [e1, if_pos rfl]
      show _ = 1 * (1 * sgv ws sa sb (nums.getD b 0))
      rw [e2]
      unfold sgv
      simp only [he, true_and, Option.some.injEq, Int.one_mul]
      congr 1
      · split <;> simp
      · split <;> simp
    · have : ¬ e = b + 1 := by lia
      simp [this, hl]
  lia
end
end Mine
set_option tactic.hygienic false
open PySem PySem.W PySem.Calls PyProof PyProof.Rows PySem.SeqAt
set_option maxRecDepth 100000
set_option maxHeartbeats 4000000
namespace Mine
structure Nu (c2 c3 c4 sa sb : Int) (ws : List Bool) (L : List Rt) : Prop where
  few : Few c2 c3 c4
  sig : (1 ≤ sa ∧ sa ≤ 2) ∧ 1 ≤ sb ∧ sb ≤ 2
  gl : GL ws L
  perm : L.Perm (baseR c2 c3 c4 sa sb)
noncomputable def Wo (nums : List Int) : Prop := nums.length ≤ 6 ∧ ∀ x ∈ nums, x = 2 ∨ x = 3 ∨ x = 4
section
variable {c2 c3 c4 sa sb : Int} {ws : List Bool} {nums : List Int} {L : List Rt}
noncomputable def cel (c2 c3 c4 sa sb : Int) (ws : List Bool) (nums : List Int) (i d : Nat) : Int := TN c2 c3 c4 d * pwr ws sa sb nums i d
noncomputable def cfS (c2 c3 c4 sa sb : Int) (ws : List Bool) (nums : List Int) (l b : Nat) (s : Int) (i j : Nat) : Int :=
  if s = 6 ∧ i ≤ j ∧ j ≤ nums.length ∧ (j - i < l ∨ (j - i = l ∧ i < b)) then cel c2 c3 c4 sa sb ws nums i (j - i) else 0
theorem cel_bound (N : Nu c2 c3 c4 sa sb ws L) {d : Nat} (hd : d ≤ 6) (i : Nat) : 0 ≤ cel c2 c3 c4 sa sb ws nums i d ∧ cel c2 c3 c4 sa sb ws nums i d < 1000000000 := by
  obtain ⟨m1, m2, m3⟩ := few_mem N.few
  have hd' : d ∈ [0, 1, 2, 3, 4, 5, 6] := by simp; lia
  obtain ⟨h1, h2⟩ := TN_bound d hd' c2 m1 c3 m2 c4 m3
  obtain ⟨h3, h4⟩ := pwr_bound N.gl.two N.sig nums i d
  have h5 : (2 : Int) ^ d ≤ 64 := by
    simp only [List.mem_cons, List.not_mem_nil, or_false] at hd'
    rcases hd' with rfl | rfl | rfl | rfl | rfl | rfl | rfl <;> decide
  refine ⟨Int.mul_nonneg h1 h3, ?_⟩
  have : TN c2 c3 c4 d * pwr ws sa sb nums i d ≤ 1000000 * 64 := Int.mul_le_mul (by lia) (by lia) h3 (by decide)
  unfold cel
  lia
theorem cfS_bound (N : Nu c2 c3 c4 sa sb ws L) (hn : nums.length ≤ 6) (l b : Nat) (s : Int) (i j : Nat) : 0 ≤ cfS c2 c3 c4 sa sb ws nums l b s i j ∧ cfS c2 c3 c4 sa sb ws nums l b s i j < 1000000000 := by
  unfold cfS
  split
  · exact cel_bound N (by lia) i
  · exact ⟨by decide, by decide⟩
theorem cfS_next (l b : Nat) (hb : b + l ≤ nums.length) (s : Int) (i j : Nat) : cfS c2 c3 c4 sa sb ws nums l (b + 1) s i j = if s = 6 ∧ i = b ∧ j = b + l then cel c2 c3 c4 sa sb ws nums b l else cfS c2 c3 c4 sa sb ws nums l b s i j := by
  unfold cfS
  by_cases h : s = 6 ∧ i = b ∧ j = b + l
  · obtain ⟨rfl, rfl, rfl⟩ := h
    rw [if_pos ⟨rfl, by lia, hb, .inr ⟨by lia, by lia⟩⟩, if_pos ⟨rfl, rfl, rfl⟩]
    congr 1; lia
  · rw [if_neg h]
    by_cases h2 : s = 6 ∧ i ≤ j ∧ j ≤ nums.length ∧ (j - i < l ∨ (j - i = l ∧ i < b))
    · rw [if_pos h2, if_pos (by lia)]
    · rw [if_neg h2, if_neg (by lia)]
theorem cfS_row (l : Nat) (hl : l ≤ nums.length) : cfS c2 c3 c4 sa sb ws nums l (nums.length + 1 - l) = cfS c2 c3 c4 sa sb ws nums (l + 1) 0 := by
  funext s i j
  unfold cfS
  by_cases h : s = 6 ∧ i ≤ j ∧ j ≤ nums.length ∧ (j - i < l ∨ (j - i = l ∧ i < nums.length + 1 - l))
  · rw [if_pos h, if_pos (by lia)]
  · rw [if_neg h, if_neg (by lia)]
theorem cfS_zero : cfS c2 c3 c4 sa sb ws nums 0 0 = fun zz zz zz => 0 := by
  funext s i j
  unfold cfS
  rw [if_neg (by lia)]
noncomputable def idsOf (L : List Rt) (s : Nat) : List Nat := if s = 5 then [0] else (List.range L.length).map (fun zz => zz + 1)
noncomputable def rightsOf (ws : List Bool) (L : List Rt) (s : Nat) : List (List Int) := if s = 5 then [[6, 0]] else L.map fun r => r.map (symI ws)
theorem rulesOf_ids (s : Nat) : rulesOf L s = (idsOf L s).map fun (i : Nat) => V.int i := by
  unfold rulesOf idsOf
  split
  · rfl
  · rw [List.map_map]; rfl
theorem ids_at {s : Nat} (hs : s = 5 ∨ s = 6) {k i : Nat} (h : (idsOf L s)[k]? = some i) : ∃ r, (rightsOf ws L s)[k]? = some r ∧ (RSof ws L)[i]? = some (s, r) ∧ i ≤ L.length := by
  rcases hs with rfl | rfl
  · match k, h with
    | 0, h => cases h; exact ⟨[6, 0], rfl, rfl, Nat.zero_le _⟩
    | k + 1, h => simp [idsOf] at h
  · simp only [idsOf] at h
    rw [if_neg (by decide), List.getElem?_map] at h
    obtain ⟨k', hk, rfl⟩ := Option.map_eq_some_iff.mp h
    obtain ⟨hlt, ek⟩ := List.getElem?_eq_some_iff.mp hk
    simp only [List.length_range] at hlt
    simp only [List.getElem_range] at ek
    subst ek
    refine ⟨L[k].map (symI ws), ?_, ?_, by lia⟩
    · simp [rightsOf, hlt]
    · simp [RSof, hlt]
theorem rights_len (s : Nat) : (rightsOf ws L s).length = (idsOf L s).length := by
  unfold rightsOf idsOf
  split <;> simp
theorem many_of (N : Nu c2 c3 c4 sa sb ws L) (hw : Wo nums) {l b : Nat} (hb : b + l ≤ nums.length) {s : Nat} (hs : s = 5 ∨ s = 6) :
    lsum ((rightsOf ws L s).map fun r => waysW (cfS c2 c3 c4 sa sb ws nums l b) nums b (b + l) r (b + l)) = if s = 5 then 0 else cel c2 c3 c4 sa sb ws nums b l := by
  have n6 : ∀ i : Nat, nums[i]? ≠ some 6 := fun i h => by have := hw.2 6 (List.mem_of_getElem? h); lia
  have n0 : ∀ i : Nat, nums[i]? ≠ some 0 := fun i h => by have := hw.2 0 (List.mem_of_getElem? h); lia
  have c0 : ∀ s, s ≠ 6 → ∀ i j, cfS c2 c3 c4 sa sb ws nums l b s i j = 0 := fun s hs i j => by unfold cfS; rw [if_neg (fun h => hs h.1)]
  rcases hs with rfl | rfl
  · simp only [rightsOf, if_true, List.map_cons, List.map_nil, lsum]
    rw [ways60 (c0 0 (by decide)) n0]; rfl
  · rw [if_neg (by decide)]
    have : rightsOf ws L 6 = L.map fun r => r.map (symI ws) := rfl
    rw [this, List.map_map]
    show lsum (L.map fun r => waysW (cfS c2 c3 c4 sa sb ws nums l b) nums b (b + l) (r.map (symI ws)) (b + l)) = _
    exact rules_sum (t := fun i => (TTl c2 c3 c4 l).getD i 0) N.gl.two N.few N.sig N.perm rfl hb n6 (fun i j h1 h2 h3 => by
      rw [TTl_get]
      unfold cfS
      by_cases h : j - i < l
      · rw [if_pos ⟨rfl, h2, by lia, .inl h⟩, if_pos h]; rfl
      · rw [if_neg (by lia), if_neg h]; simp) c0
end
section
variable {c : Cx} {n : Nat} {m : Lo} {H H' : Hp} {Q : V → Hp → Prop} {c2 c3 c4 sa sb : Int} {ws : List Bool} {nums : List Int} {L : List Rt} {g : Addr}
theorem CF.store {es : List (List Int × V)} {cf cf' : Int → Nat → Nat → Int} (h : CF es cf) {b e : Nat} {v : Int} (hv : 0 < v ∧ v < 1000000000) (hc : ∀ s i j, cf' s i j = if s = 6 ∧ i = b ∧ j = e then v else cf s i j) : CF (putI es [6, (b : Int), (e : Int)] (.int v)) cf' := by
  intro s i j
  rw [lk_put, hc]
  have hk : ([s, (i : Int), (j : Int)] = [6, (b : Int), (e : Int)]) ↔ (s = 6 ∧ i = b ∧ j = e) := by
    simp only [List.cons.injEq, and_true]
    lia
  by_cases q : s = 6 ∧ i = b ∧ j = e
  · rw [if_pos (hk.mpr q), if_pos q, if_neg (by lia)]
    exact ⟨rfl, by lia, hv.2⟩
  · rw [if_neg (fun z => q (hk.mp z)), if_neg q]
    exact h s i j
theorem CF.same {es : List (List Int × V)} {cf cf' : Int → Nat → Nat → Int} (h : CF es cf) (hc : ∀ s i j, cf' s i j = cf s i j) : CF es cf' := by
  have : cf' = cf := by funext s i j; exact hc s i j
  rw [this]; exact h
theorem putI_len {K : Type} [DecidableEq K] (es : List (K × V)) (k : K) (v : V) : (putI es k v).length ≤ es.length + 1 := by
  unfold putI; split <;> simp
theorem drop_cons {α : Type} {l r : List α} {x : α} {k : Nat} (e : x :: r = l.drop k) : l[k]? = some x ∧ r = l.drop (k + 1) := by
  constructor
  · have := congrArg (fun z => z[0]?) e.symm
    simpa [List.getElem?_drop] using this
  · have := congrArg (List.drop 1) e
    simpa [List.drop_drop] using this
theorem q_right (X : Wc c) (hg : GramAt H g ws L) {i : Nat} {p : Nat × List Int} (hp : (RSof ws L)[i]? = some p) (hi : i < 100000) (e11 : m 11 = some (.int i)) (q : Q (.tup (p.2.map V.int)) H) : attrQ c (.ref g) "rules" (fun a => awp c n (.var 11) m (fun b => subQ a b (fun v => attrQ c v "right" Q))) H := by
  obtain ⟨dx, nl, rl, lv, bl, ol, ow, ic, rfs, bs0, a1, a2, a3, a4, a5, a6, a7, a8⟩ := hg
  have hlt : i < rfs.length := by
    have := (List.getElem?_eq_some_iff.mp hp).1
    simp [RSof] at this
    lia
  obtain ⟨rdx, lev, hrule⟩ := a5 i rfs[i] p (by simp [hlt]) hp
  refine q_attr a1 (X.fld _ _ (by decide +kernel)) (v := .ref rl) (by kernel_rfl) ?_
  walk_at "eb"
  refine q_subL (v := .ref rfs[i]) a3 (by lia) (by lia) (by simp [hlt]) ?_
  exact q_attr hrule (X.fld _ _ (by decide +kernel)) lk_right q
theorem q_right0 (X : Wc c) (hg : GramAt H g ws L) {Q' : V → Hp → Prop} (q : Q' (.int 6) H) : attrQ c (.ref g) "rules" (fun a => awp c n (.lit (.int 0)) m (fun b => subQ a b (fun v => attrQ c v "right" (fun a => awp c n (.lit (.int 0)) m (fun b => subQ a b Q'))))) H := by
  obtain ⟨dx, nl, rl, lv, bl, ol, ow, ic, rfs, bs0, a1, a2, a3, a4, a5, a6, a7, a8⟩ := hg
  have hlt : 0 < rfs.length := by lia
  obtain ⟨rdx, lev, hrule⟩ := a5 0 rfs[0] (5, [6, 0]) (by simp [hlt]) rfl
  refine q_attr a1 (X.fld _ _ (by decide +kernel)) (v := .ref rl) (by kernel_rfl) ?_
  walk_at "eb"
  refine q_subL (v := .ref rfs[0]) a3 (by lia) (by lia) (by simp [hlt]) ?_
  refine q_attr hrule (X.fld _ _ (by decide +kernel)) lk_right ?_
  walk_at "eb"
  constructor; exact ⟨.int 6, by decide, by decide, rfl, q⟩
theorem asg_is {k : Nat} {x y : Int} (h : x = y) : asgT (.one k) (.int x) m = some (m.put k (.int y)) := by rw [h]; rfl
set_option tactic.hygienic true in
theorem c_count (W : Wd c) (X : Wc c) (F : Fs c) (hg : GramAt H g ws L) (N : Nu c2 c3 c4 sa sb ws L) {dw : Addr} (hw : H dw = some (.list (nums.map V.int))) (wo : Wo nums) (q : ∀ H', Hle H H' → Q (.int (cel c2 c3 c4 sa sb ws nums 0 nums.length)) H') :
    CallOK c (n + 8) (.fn (.ref 234)) [.ref g, .ref dw] Q H := by
  refine call_at W F.count (fun env hs E => ok_count_trees W hs E) rfl ?_
  show swps c (n + 7) ir_count_trees _ ((noLo.put 5 (.ref g)).put 32 (.ref dw)) H
  unfold ir_count_trees
  have gl := N.gl
  have hfew := gl.few
  have hN6 := wo.1
  obtain ⟨dx, nl, rl, lv, bl, ol, ow, ic, rfs, bs0, a1, a2, a3, a4, a5, a6, a7, a8⟩ := id hg
  walk_at "eb"
  refine CallOK.up (n := n + 6) (c_order W X F hg gl fun od G lG hod go => ?_) (nle rfl)
  walk_at "eb"
  refine ⟨rfl, fun dc hdc => ?_⟩
  have hdcH := lG.non hdc
  have noc : od ≠ dc := ne_of go hdc
  refine w_forR 0 ((nums.length : Int) + 1) (fun l m' G => Hle H G ∧ m' 5 = some (.ref g) ∧ m' 32 = some (.ref dw) ∧ m' 25 = some (.ref od) ∧ m' 35 = some (.ref dc) ∧ G od = some (.list [.int 5, .int 6]) ∧ ∃ es, G dc = some (.dictT es) ∧ CF es (cfS c2 c3 c4 sa sb ws nums l 0) ∧ es.length ≤ 10 * l) (fun K hK => ?_) ?_ ?_
  · walk_at "eb"
    refine q_lenL (put_get (lG _ _ hw) hdc) (by rw [List.length_map]; lia) ?_
    rw [List.length_map]
    walk_at "eb"
    refine ⟨_, rfl, by lia, by lia, hK _ _ ⟨ rfl, lG.put hdcH _, by walk_at "lo", by walk_at "lo", by walk_at "lo", by walk_at "lo", put_get go hdc, [], hp_self, ?_, by simp⟩⟩
    rw [cfS_zero]
    intro s i j
    exact ⟨rfl, Int.le_refl 0, (by show (0:Int) < 1000000000; decide)⟩
  · rintro K l m' G hK hKr hl ⟨lG, e5, e32, e25, e35, go, es, gc, cf, hes⟩
    have hlN : l ≤ nums.length := by lia
    refine ⟨_, asg_is (y := (l : Int)) (by lia), ?_⟩
    refine w_forR 0 ((nums.length : Int) + 1 - l) (fun b m' G => Hle H G ∧ m' 5 = some (.ref g) ∧ m' 32 = some (.ref dw) ∧ m' 25 = some (.ref od) ∧ m' 35 = some (.ref dc) ∧ m' 40 = some (.int l) ∧ G od = some (.list [.int 5, .int 6]) ∧ ∃ es, G dc = some (.dictT es) ∧ CF es (cfS c2 c3 c4 sa sb ws nums l b) ∧ es.length ≤ 10 * l + b) (fun K hK => ?_) ?_ ?_
    · walk_at "eb"
      refine q_lenL (lG _ _ hw) (by rw [List.length_map]; lia) ?_
      rw [List.length_map]
      walk_at "eb"
      exact ⟨_, rfl, by lia, by lia, hK _ _ ⟨ rfl, lG, by walk_at "lo", by walk_at "lo", by walk_at "lo", by walk_at "lo", by walk_at "lo", go, es, gc, cf, by lia⟩⟩
    · rintro K b m' G hK hKr hb ⟨lG, e5, e32, e25, e35, e40, go, es, gc, cf, hes⟩
      have hbl : b + l ≤ nums.length := by lia
      refine ⟨_, asg_is (y := (b : Int)) (by lia), ?_⟩
      refine w_forL od [V.int 5, V.int 6] (fun j m' G => Hle H G ∧ m' 5 = some (.ref g) ∧ m' 32 = some (.ref dw) ∧ m' 25 = some (.ref od) ∧ m' 35 = some (.ref dc) ∧ m' 40 = some (.int l) ∧ m' 33 = some (.int b) ∧ G od = some (.list [.int 5, .int 6]) ∧ ∃ es, G dc = some (.dictT es) ∧ CF es (if j < 2 then cfS c2 c3 c4 sa sb ws nums l b else cfS c2 c3 c4 sa sb ws nums l (b + 1)) ∧ es.length ≤ 10 * l + b + (if j < 2 then 0 else 1)) (fun K hK => ?_) (fun j m' G hI => hI.2.2.2.2.2.2.2.1) ?_ ?_
      · walk_at "eb"
        exact ⟨rfl, go, lG, by walk_at "lo", by walk_at "lo", by walk_at "lo", by walk_at "lo", by walk_at "lo", by walk_at "lo", go, es, gc, by simpa using cf, by simpa using hes⟩
      · rintro K j v m' G hK hKr hv ⟨lG, e5, e32, e25, e35, e40, e33, go, es, gc, cf, hes⟩
        obtain ⟨s, hs, rfl, hsj⟩ : ∃ s : Nat, (s = 5 ∨ s = 6) ∧ v = V.int s ∧ (j = if s = 5 then 0 else 1) := by
          match j, hv with
          | 0, hv => cases hv; exact ⟨5, .inl rfl, rfl, rfl⟩
          | 1, hv => cases hv; exact ⟨6, .inr rfl, rfl, rfl⟩
          | j + 2, hv => simp at hv
        have hj2 : j < 2 := by rw [hsj]; split <;> decide
        rw [if_pos hj2] at cf hes
        refine ⟨_, asg_one, ?_⟩
        walk_at "eb"
        have hms := many_of N wo hbl hs
        refine w_for (fun H₁ r m' G' => ∃ d k, r = (rulesOf L s).drop k ∧ k ≤ (rulesOf L s).length ∧ H₁ = G.put d (.list (rulesOf L s)) ∧ G d = none ∧ Hle H₁ G' ∧ m' 5 = some (.ref g) ∧ m' 32 = some (.ref dw) ∧ m' 25 = some (.ref od) ∧ m' 35 = some (.ref dc) ∧ m' 40 = some (.int l) ∧ m' 33 = some (.int b) ∧ m' 13 = some (.int s) ∧ m' 28 = some (.int (lsum (((rightsOf ws L s).take k).map fun r => waysW (cfS c2 c3 c4 sa sb ws nums l b) nums b (b + l) r (b + l))))) (fun K hK => ?_) ?_ ?_
        · walk_at "eb"
          refine q_meth (gf := 319) (lG _ _ a1) (by kernel_rfl) (X.mth _ _ _ (by decide +kernel)) ?_
          walk_at "eb"
          refine CallOK.up (n := n + 2) (c_rules_of W X F (hg.le lG) hfew hs fun d hd => ?_) (nle rfl)
          refine hK _ _ ⟨_, _, it_list hp_self, ⟨d, 0, rfl, Nat.zero_le _, rfl, hd, Hle.refl _, by walk_at "lo", by walk_at "lo", by walk_at "lo", by walk_at "lo", by walk_at "lo", by walk_at "lo", by walk_at "lo", by walk_at "lo"⟩, ?_⟩
          rintro r m' H' ⟨d', k, _, _, he, hd', hle, _⟩ a ha
          cases ha
          rw [hle _ _ hp_self, hp_self]
        · rintro K H₁ v r m' G' hK hKr ⟨d, k, hr, hk, rfl, hd, hle, e5, e32, e25, e35, e40, e33, e13, e28⟩
          obtain ⟨hv, hr'⟩ := drop_cons hr
          rw [rulesOf_ids, List.getElem?_map] at hv
          obtain ⟨i, hi, rfl⟩ := Option.map_eq_some_iff.mp hv
          obtain ⟨rt, hrt, hRS, hiL⟩ := ids_at (ws := ws) hs hi
          have lG' : Hle H G' := (lG.put (lG.non hd) _).trans hle
          have gc' : G' dc = some (.dictT es) := hle _ _ (put_get gc hd)
          refine ⟨_, asg_one, ?_⟩
          walk_at "eb"
          refine q_right X (hg.le lG') hRS (by lia) (by walk_at "lo") ?_
          walk_at "eb"
          have e1 : (b : Int) + (l : Int) = ((b + l : Nat) : Int) := by lia
          rw [e1]
          refine CallOK.up (n := n + 2) (c_ways W F (lG' _ _ hw) gc' cf (by lia) hbl (by lia) fun G2 l2 => ?_) (nle rfl)
          walk_at "eb"
          refine ⟨d, k + 1, hr', ?_, rfl, hd, hle.trans l2, by walk_at "lo", by walk_at "lo", by walk_at "lo", by walk_at "lo", by walk_at "lo", by walk_at "lo", by walk_at "lo", ?_⟩
          · have := (List.getElem?_eq_some_iff.mp hi).1
            rw [rulesOf_ids, List.length_map]; lia
          · rw [lo_self, List.take_add_one, hrt]
            simp [lsum_append, lsum]
        · rintro H₁ m' G' ⟨d, k, hr, hk, rfl, hd, hle, e5, e32, e25, e35, e40, e33, e13, e28⟩
          have hkk : (rightsOf ws L s).take k = rightsOf ws L s := by
            apply List.take_of_length_le
            rw [rights_len]
            have h1 : (rulesOf L s).length ≤ k := by simpa using hr.symm
            rwa [rulesOf_ids, List.length_map] at h1
          rw [hkk, hms] at e28
          have lG' : Hle H G' := (lG.put (lG.non hd) _).trans hle
          have gc' : G' dc = some (.dictT es) := hle _ _ (put_get gc hd)
          have go' : G' od = some (.list [.int 5, .int 6]) := hle _ _ (put_get go hd)
          have cb := cel_bound (nums := nums) N (show l ≤ 6 by lia) b
          walk_at "eb"
          refine q_both (fun hpos => ?_) fun hpos => ?_
          · have hs6 : s = 6 := by
              rcases hs with rfl | rfl
              · simp at hpos
              · rfl
            subst hs6
            rw [if_neg (by decide)] at hpos e28
            walk_at "eb"
            refine ⟨by simp, ?_⟩
            refine q_storeT (ks := [6, (b : Int), ((b + l : Nat) : Int)]) (by simp) gc' (by lia) ?_
            walk_at "eb"
            have hj1 : j = 1 := hsj
            subst hj1
            refine ⟨lG'.put hdcH _, by walk_at "lo", by walk_at "lo", by walk_at "lo", by walk_at "lo", by walk_at "lo", by walk_at "lo", put_get' go' noc, _, hp_self, ?_, ?_⟩
            · rw [if_neg (by decide)]
              exact cf.store ⟨hpos, cb.2⟩ (cfS_next l b hbl)
            · have := putI_len es [6, (b : Int), ((b + l : Nat) : Int)] (V.int (cel c2 c3 c4 sa sb ws nums b l))
              simp only [show ¬ (1 + 1 < 2) by decide, if_false]
              lia
          · walk_at "eb"
            refine ⟨lG', by walk_at "lo", by walk_at "lo", by walk_at "lo", by walk_at "lo", by walk_at "lo", by walk_at "lo", go', es, gc', ?_, ?_⟩
            · rcases hs with rfl | rfl
              · have hj0 : j = 0 := hsj
                subst hj0
                exact cf
              · have hj1 : j = 1 := hsj
                subst hj1
                rw [if_neg (by decide)] at hpos
                rw [if_neg (by decide)]
                refine cf.same fun s' i' j' => ?_
                rw [cfS_next l b hbl]
                split
                · rename_i h
                  obtain ⟨rfl, rfl, rfl⟩ := h
                  have : cel c2 c3 c4 sa sb ws nums i' l = 0 := by lia
                  rw [this]
                  unfold cfS
                  rw [if_neg (by lia)]
                · rfl
            · split <;> lia
      · rintro m' G ⟨lG, e5, e32, e25, e35, e40, e33, go, es, gc, cf, hes⟩
        walk_at "eb"
        exact ⟨lG, e5, e32, e25, e35, e40, go, es, gc, cf, hes⟩
    · rintro m' G ⟨lG, e5, e32, e25, e35, e40, go, es, gc, cf, hes⟩
      walk_at "eb"
      have : ((nums.length : Int) + 1 - l - 0).toNat = nums.length + 1 - l := by lia
      rw [this] at cf hes
      rw [cfS_row l hlN] at cf
      exact ⟨lG, e5, e32, e25, e35, go, es, gc, cf, by lia⟩
  · rintro m' G ⟨lG, e5, e32, e25, e35, go, es, gc, cf, hes⟩
    walk_at "eb"
    refine ⟨⟨dc, rfl, .inr ⟨_, gc⟩⟩, ?_⟩
    walk_at "eb"
    refine q_right0 X (hg.le lG) ?_
    walk_at "eb"
    refine q_lenL (lG _ _ hw) (by rw [List.length_map]; lia) ?_
    rw [List.length_map]
    walk_at "eb"
    refine ⟨by simp, ?_⟩
    walk_at "eb"
    constructor; refine ⟨es, [6, 0, (nums.length : Int)], gc, rfl, ?_⟩
    have hl : (((nums.length : Int) + 1 - 0).toNat) = nums.length + 1 := by lia
    rw [hl] at cf
    have := cf.get 6 0 nums.length
    have e : cfS c2 c3 c4 sa sb ws nums (nums.length + 1) 0 6 0 nums.length = cel c2 c3 c4 sa sb ws nums 0 nums.length := by
      unfold cfS
      rw [if_pos (by lia)]; rfl
    rw [e] at this
    show Q ((lk es [6, ((0 : Nat) : Int), (nums.length : Int)]).getD (.int 0)) G
    rw [this]
    exact q G lG
end
end Mine
set_option tactic.hygienic false
open PySem PySem.W PySem.Calls PyProof PyProof.Rows PySem.SeqAt
set_option maxRecDepth 100000
set_option maxHeartbeats 4000000
namespace Mine
inductive Kd | lf (x : Str) | nd (i : Nat)
noncomputable abbrev Cod := List (Addr × Kd)
noncomputable def tokF (x : Str) : List (Str × V) := [("kind", .str x), ("text", .str x), ("at", .none), ("worth", .str x)]
noncomputable def leafF (x : Str) (dc tk : Addr) : List (Str × V) := [("name", .str x), ("rule", .int 0), ("children", .ref dc), ("token", .ref tk)]
noncomputable def treeF (x : Str) (i : Int) (dc : Addr) : List (Str × V) := [("name", .str x), ("rule", .int i), ("children", .ref dc)]
noncomputable def NodeAt (H : Hp) (x : Addr) (k : Kd) (ch : List Addr) : Prop := ∃ dx dc, H dc = some (.list (ch.map V.ref)) ∧
  match k with
  | .lf s => ch = [] ∧ ∃ tk dt, H x = some (.inst 206 dx (leafF s dc tk)) ∧ H tk = some (.inst 93 dt (tokF s))
  | .nd i => ∃ nm, H x = some (.inst 171 dx (treeF nm i dc))
inductive TAts (H : Hp) : List Addr → Cod → Prop
  | nil : TAts H [] []
  | snoc {x k ch lc xs l} : NodeAt H x k ch → TAts H ch lc → TAts H xs l → TAts H (xs ++ [x]) (l ++ (lc ++ [(x, k)]))
theorem NodeAt.le {H H' : Hp} (h : Hle H H') {x : Addr} {k : Kd} {ch : List Addr} (t : NodeAt H x k ch) : NodeAt H' x k ch := by
  obtain ⟨dx, dc, e, r⟩ := t
  refine ⟨dx, dc, h _ _ e, ?_⟩
  cases k with
  | lf s => obtain ⟨a, tk, dt, b, d⟩ := r; exact ⟨a, tk, dt, h _ _ b, h _ _ d⟩
  | nd i => obtain ⟨nm, b⟩ := r; exact ⟨nm, h _ _ b⟩
theorem TAts.le {H H' : Hp} (h : Hle H H') {xs : List Addr} {l : Cod} (t : TAts H xs l) : TAts H' xs l := by
  induction t with
  | nil => exact .nil
  | snoc a _ _ ih1 ih2 => exact .snoc (a.le h) ih1 ih2
theorem TAts.append {H : Hp} {xs ys : List Addr} {l k : Cod} (t : TAts H xs l) (u : TAts H ys k) : TAts H (xs ++ ys) (l ++ k) := by
  induction u with
  | nil => simpa using t
  | snoc a b _ _ ih => rw [← List.append_assoc, ← List.append_assoc]; exact .snoc a b ih
theorem TAts.last {H : Hp} {ys : List Addr} {l : Cod} (t : TAts H ys l) (h : ys ≠ []) : ∃ zs x lz lc k ch, ys = zs ++ [x] ∧ l = lz ++ (lc ++ [(x, k)]) ∧ NodeAt H x k ch ∧ TAts H ch lc ∧ TAts H zs lz := by
  cases t with
  | nil => exact absurd rfl h
  | snoc a b c => exact ⟨_, _, _, _, _, _, rfl, rfl, a, b, c⟩
theorem TAts.kinds {H : Hp} {xs : List Addr} {l : Cod} (t : TAts H xs l) : ∀ p ∈ l, ∃ ch, NodeAt H p.1 p.2 ch := by
  induction t with
  | nil => simp
  | snoc a _ _ ih1 ih2 =>
    intro p hp
    rcases List.mem_append.mp hp with hp | hp
    · exact ih2 p hp
    · rcases List.mem_append.mp hp with hp | hp
      · exact ih1 p hp
      · simp only [List.mem_singleton] at hp; subst hp; exact ⟨_, a⟩
noncomputable def ylds : Cod → List Str := List.filterMap fun p => match p.2 with | .lf x => some x | .nd _ => none
noncomputable def reds : Cod → List Nat := List.filterMap fun p => match p.2 with | .lf _ => none | .nd i => some i
theorem ylds_append (l k : Cod) : ylds (l ++ k) = ylds l ++ ylds k := List.filterMap_append
theorem reds_append (l k : Cod) : reds (l ++ k) = reds l ++ reds k := List.filterMap_append
section
variable {c : Cx} {n : Nat} {m : Lo} {H H' : Hp} {Q : V → Hp → Prop}
theorem vi {k : Int} (u : Value) : V.int k ≠ .fn u := by intro e; cases e
theorem vr {k : Addr} (u : Value) : V.ref k ≠ .fn u := by intro e; cases e
theorem vn (u : Value) : V.none ≠ .fn u := by intro e; cases e
theorem vs {k : Str} (u : Value) : V.str k ≠ .fn u := by intro e; cases e
theorem c_Token (W : Wd c) (X : Wc c) (F : Fs c) {s : Str} (q : ∀ x dx H', Hle H H' → H x = none → H' x = some (.inst 93 dx (tokF s)) → Q (.ref x) H') :
    CallOK c (n + 3) (.fn (.ref 93)) [.str s, .str s, .none] Q H := by
  refine make W X (f := 76) (by decide) fun x dx hx hdx hne => ?_
  refine call_at W F.token (fun env hs E => ok_Token_init W hs E) rfl ?_
  show swps c (n + 1) ir_Token_init _ (((((noLo.put 0 (.ref x)).put 1 (.str s)).put 2 (.str s)).put 3 .none).put 4 .none) _
  unfold ir_Token_init
  walk_at "eb"
  refine q_setA hp_self (X.fld _ _ (by decide +kernel)) (by decide) vs ?_
  rw [put_put]
  walk_at "eb"
  refine q_setA hp_self (X.fld _ _ (by decide +kernel)) (Nat.le_of_ble_eq_true (by kernel_rfl)) vs ?_
  rw [put_put]
  walk_at "eb"
  refine q_setA hp_self (X.fld _ _ (by decide +kernel)) (Nat.le_of_ble_eq_true (by kernel_rfl)) vn ?_
  rw [put_put]
  walk_at "eb"
  constructor; refine .inl ⟨rfl, ?_⟩
  walk_at "eb"
  refine q_both1 ?_
  walk_at "eb"
  refine q_setA hp_self (X.fld _ _ (by decide +kernel)) (Nat.le_of_ble_eq_true (by kernel_rfl)) vs ?_
  rw [put_put]
  walk_at "eb"
  refine ⟨rfl, ?_⟩
  have e : putF (putF (putF (putF [] "kind" (.str s)) "text" (.str s)) "at" .none) "worth" (.str s) = tokF s := by kernel_rfl
  rw [e]
  exact q x dx _ (((Hle.refl H).put hdx _).put hx _) hx hp_self
theorem c_Leaf (W : Wd c) (X : Wc c) (F : Fs c) {s : Str} {tk dt : Addr} (ht : H tk = some (.inst 93 dt (tokF s))) (q : ∀ x H', Hle H H' → H x = none → (∀ K : Hp, (∀ a o, H a = none → H' a = some o → K a = some o) → K tk = some (.inst 93 dt (tokF s)) → NodeAt K x (.lf s) []) → Q (.ref x) H') :
    CallOK c (n + 3) (.fn (.ref 206)) [.ref tk] Q H := by
  refine make W X (f := 189) (by decide) fun x dx hx hdx hne => ?_
  refine call_at W F.leaf (fun env hs E => ok_Leaf_init W hs E) rfl ?_
  show swps c (n + 1) ir_Leaf_init _ ((noLo.put 0 (.ref x)).put 19 (.ref tk)) _
  unfold ir_Leaf_init
  have t1 := put_get (x := .hid x) ht hdx
  have ntx := ne_of ht hx
  walk_at "eb"
  refine q_attr (put_get' t1 ntx) (X.fld _ _ (by decide +kernel)) (v := .str s) (by kernel_rfl) ?_
  walk_at "eb"
  refine q_setA hp_self (X.fld _ _ (by decide +kernel)) (by decide) vs ?_
  rw [put_put]
  walk_at "eb"
  refine q_setA hp_self (X.fld _ _ (by decide +kernel)) (Nat.le_of_ble_eq_true (by kernel_rfl)) vi ?_
  rw [put_put]
  walk_at "eb"
  refine q_newList (by simp) fun dc hdc => ?_
  have ndx : dc ≠ x := (ne_of hp_self hdc).symm
  have hdcH : H dc = none := put_non (put_non hdc)
  walk_at "eb"
  refine q_setA (put_get' hp_self ndx.symm) (X.fld _ _ (by decide +kernel)) (Nat.le_of_ble_eq_true (by kernel_rfl)) vr ?_
  walk_at "eb"
  refine q_setA hp_self (X.fld _ _ (by decide +kernel)) (Nat.le_of_ble_eq_true (by kernel_rfl)) vr ?_
  rw [put_put]
  walk_at "eb"
  refine ⟨rfl, ?_⟩
  have e : putF (putF (putF (putF [] "name" (.str s)) "rule" (.int 0)) "children" (.ref dc)) "token" (.ref tk) = leafF s dc tk := by kernel_rfl
  rw [e]
  exact q x _ ((((Hle.refl H).put hdx _).put hx _).put hdcH _ |>.put hx _) hx fun K hK hKt => ⟨dx, dc, hK _ _ hdcH (put_get' hp_self ndx), rfl, tk, dt, hK _ _ hx hp_self, hKt⟩
theorem c_Tree (W : Wd c) (X : Wc c) (F : Fs c) {s : Str} {i : Nat} {ch : List Addr} {d0 : Addr} (h0 : H d0 = some (.list (ch.map V.ref))) (hz : ch.length ≤ 100) (q : ∀ x H', Hle H H' → H x = none → (∀ K : Hp, (∀ a o, H a = none → H' a = some o → K a = some o) → NodeAt K x (.nd i) ch) → Q (.ref x) H') :
    CallOK c (n + 3) (.fn (.ref 171)) [.str s, .int i, .ref d0] Q H := by
  refine make W X (f := 123) (by decide) fun x dx hx hdx hne => ?_
  refine call_at W F.tree (fun env hs E => ok_Tree_init W hs E) rfl ?_
  show swps c (n + 1) ir_Tree_init _ ((((noLo.put 0 (.ref x)).put 16 (.str s)).put 11 (.int i)).put 17 (.ref d0)) _
  unfold ir_Tree_init
  have t1 := put_get (x := .hid x) h0 hdx
  have ntx := ne_of h0 hx
  walk_at "eb"
  refine q_setA hp_self (X.fld _ _ (by decide +kernel)) (by decide) vs ?_
  rw [put_put]
  walk_at "eb"
  refine q_setA hp_self (X.fld _ _ (by decide +kernel)) (Nat.le_of_ble_eq_true (by kernel_rfl)) vi ?_
  rw [put_put]
  walk_at "eb"
  constructor; refine ⟨_, put_get' t1 ntx, by rw [List.length_map]; lia, fun dc hdc => ?_⟩
  have ndx : dc ≠ x := (ne_of hp_self hdc).symm
  have hdcH : H dc = none := put_non (put_non hdc)
  walk_at "eb"
  refine q_setA (put_get' hp_self ndx.symm) (X.fld _ _ (by decide +kernel)) (Nat.le_of_ble_eq_true (by kernel_rfl)) vr ?_
  walk_at "eb"
  refine ⟨rfl, ?_⟩
  have e : putF (putF (putF [] "name" (.str s)) "rule" (.int i)) "children" (.ref dc) = treeF s i dc := by kernel_rfl
  rw [e]
  exact q x _ ((((Hle.refl H).put hdx _).put hx _).put hdcH _ |>.put hx _) hx fun K hK => ⟨dx, dc, hK _ _ hdcH (put_get' hp_self ndx), s, hK _ _ hx hp_self⟩
noncomputable def Kd.isLeaf : Kd → Bool | .lf _ => true | .nd _ => false
theorem c_isleaf (W : Wd c) (X : Wc c) (F : Fs c) {x : Addr} {k : Kd} {ch : List Addr} (h : NodeAt H x k ch) (q : Q (.bool k.isLeaf) H) :
    ∃ a C dx fs g, V.ref x = .ref a ∧ H a = some (.inst C dx fs) ∧ lk fs "is_leaf" = none ∧ c.mth C "is_leaf" = some g ∧ CallOK c (n + 2) (.fn (.ref g)) [.ref x] Q H := by
  obtain ⟨dx, dc, _, r⟩ := h
  cases k with
  | lf s =>
    obtain ⟨_, tk, dt, b, _⟩ := r
    refine q_meth (gf := 196) (R := fun g => CallOK c (n + 2) (.fn (.ref g)) [.ref x] Q H) b (by kernel_rfl) (X.mth _ _ _ (by decide +kernel)) ?_
    refine call_at W F.lleaf (fun env hs E => ok_Leaf_is_leaf W hs E) rfl ?_
    show swps c (n + 1) ir_Leaf_is_leaf _ (noLo.put 0 (.ref x)) _
    unfold ir_Leaf_is_leaf
    walk_at "eb"
    exact q
  | nd i =>
    obtain ⟨nm, b⟩ := r
    refine q_meth (gf := 130) (R := fun g => CallOK c (n + 2) (.fn (.ref g)) [.ref x] Q H) b (by kernel_rfl) (X.mth _ _ _ (by decide +kernel)) ?_
    refine call_at W F.tleaf (fun env hs E => ok_Tree_is_leaf W hs E) rfl ?_
    show swps c (n + 1) ir_Tree_is_leaf _ (noLo.put 0 (.ref x)) _
    unfold ir_Tree_is_leaf
    walk_at "eb"
    exact q
theorem c_post (W : Wd c) (X : Wc c) (F : Fs c) {x : Addr} {l0 : Cod} (ht : TAts H [x] l0) (hl0 : l0.length ≤ 1000) (q : ∀ d H', Hle H H' → H d = none → H' d = some (.list (l0.map fun p => V.ref p.1)) → Q (.ref d) H') :
    CallOK c (n + 2) (.fn (.ref 215)) [.ref x] Q H := by
  refine call_at W F.postorder (fun env hs E => ok_postorder W hs E) rfl ?_
  show swps c (n + 1) ir_postorder _ (noLo.put 20 (.ref x)) _
  unfold ir_postorder
  walk_at "eb"
  refine q_newList (by simp) fun df hdf => ?_
  walk_at "eb"
  refine q_newList (by simp) fun dl hdl => ?_
  walk_at "eb"
  refine w_whl (fun k m' G => Hle H G ∧ m' 7 = some (.ref df) ∧ m' 21 = some (.ref dl) ∧ H df = none ∧ H dl = none ∧ df ≠ dl ∧ ∃ (ys : List Addr) (l fo : Cod), TAts H ys l ∧ l.length = k ∧ G dl = some (.list (ys.map V.ref)) ∧ G df = some (.list (fo.map fun (p : Addr × Kd) => V.ref p.1)) ∧ l ++ fo.reverse = l0) l0.length ?_ ?_
  · have nfl : df ≠ dl := ne_of hp_self hdl
    exact ⟨((Hle.refl H).put hdf _).put (put_non hdl) _, by walk_at "lo", by walk_at "lo", hdf, put_non hdl, nfl, [x], l0, [], ht, rfl, hp_self, put_get' hp_self nfl, by simp⟩
  · rintro K k m' G hK hKr ⟨lG, e7, e21, hdf, hdl, nfl, ys, l, fo, t, hk, gl, gf, hl⟩
    have hlen : l.length + fo.length = l0.length := by rw [← hl]; simp
    walk_at "eb"
    refine q_newList (by simp) fun d hd => ?_
    have ndl := ne_of gl hd
    have ndf := ne_of gf hd
    have hdH := lG.non hd
    have lG' := lG.put hdH (.list [])
    have gl' := put_get' (x := .list []) gl ndl
    have gf' := put_get' (x := .list []) gf ndf
    have gd : (G.put d (.list [])) d = some (.list []) := hp_self
    generalize G.put d (.list []) = G1 at lG' gl' gf' gd ⊢
    refine q_neEmpty gl' gd (fun hne => ?_) fun he => ?_
    · walk_at "eb"
      refine q_both1 ?_
      obtain ⟨zs, y, lz, lc, ky, ch, rfl, rfl, hn, tc, tz⟩ := t.last (by rintro rfl; exact hne rfl)
      walk_at "eb"
      refine ⟨⟨dl, _, rfl, gl'⟩, ?_⟩
      rw [List.map_append] at gl'
      have hchl : ∀ {zs : List Addr} {lz : Cod}, TAts H zs lz → zs.length ≤ lz.length := by
        intro zs lz t
        induction t with
        | nil => exact Nat.le_refl _
        | snoc _ _ _ _ ih => simp; lia
      have hz1 := hchl tz
      have hz2 := hchl tc
      simp only [List.length_append, List.length_singleton] at hlen hk
      refine ⟨dl, _, _, rfl, gl', by rw [List.length_map]; lia, ?_⟩
      walk_at "eb"
      refine ⟨⟨df, _, rfl, put_get' gf' nfl⟩, ?_⟩
      walk_at "eb"
      refine q_append (put_get' gf' nfl) (by simp; lia) ?_
      refine ⟨rfl, ?_⟩
      obtain ⟨dx, dc, hdc, hr⟩ := hn
      have hattr : ∀ (G : Hp) (Q : V → Hp → Prop), Hle H G → Q (.ref dc) G → attrQ c (.ref y) "children" Q G := by
        intro G Q lG q
        cases ky with
        | lf s => obtain ⟨_, tk, dt, b, _⟩ := hr; exact q_attr (lG _ _ b) (X.fld _ _ (by decide +kernel)) (by kernel_rfl) q
        | nd i => obtain ⟨nm, b⟩ := hr; exact q_attr (lG _ _ b) (X.fld _ _ (by decide +kernel)) (by kernel_rfl) q
      have lG2 : Hle H ((G1.put dl (.list (zs.map V.ref))).put df (.list ((fo.map fun (p : Addr × Kd) => V.ref p.1) ++ [V.ref y]))) := (lG'.put hdl _).put hdf _
      refine w_forL dc (ch.map V.ref) (fun j m'' G2 => Hle H G2 ∧ m'' 7 = some (.ref df) ∧ m'' 21 = some (.ref dl) ∧ G2 dl = some (.list ((zs ++ ch.take j).map V.ref)) ∧ G2 df = some (.list ((fo ++ [(y, ky)]).map fun (p : Addr × Kd) => V.ref p.1))) (fun K hK => ?_) (fun j m'' G2 hI => hI.1 _ _ hdc) ?_ ?_
      · walk_at "eb"
        refine hattr _ _ lG2 (hK _ _ ⟨rfl, lG2 _ _ hdc, lG2, by walk_at "lo", by walk_at "lo", ?_, ?_⟩)
        · simpa using put_get' hp_self nfl.symm
        · rw [hp_self]; simp
      · rintro K j v m'' G2 hK hKr hv ⟨l2, e7, e21, g1, g2⟩
        rw [List.getElem?_map] at hv
        obtain ⟨cx, hcx, rfl⟩ := Option.map_eq_some_iff.mp hv
        have hj : j < ch.length := (List.getElem?_eq_some_iff.mp hcx).1
        refine ⟨_, asg_one, ?_⟩
        walk_at "eb"
        refine ⟨⟨dl, _, rfl, g1⟩, ?_⟩
        walk_at "eb"
        refine q_append g1 (by rw [List.length_map, List.length_append, List.length_take]; lia) ?_
        refine ⟨rfl, ?_⟩
        walk_at "eb"
        refine ⟨l2.put hdl _, by walk_at "lo", by walk_at "lo", ?_, put_get' g2 nfl⟩
        rw [hp_self, List.take_add_one, hcx]; simp
      · rintro m'' G2 ⟨l2, e7, e21, g1, g2⟩
        walk_at "eb"
        rw [List.length_map, List.take_length] at g1
        refine ⟨(lz ++ lc).length, by simp; lia, l2, e7, e21, hdf, hdl, nfl, zs ++ ch, lz ++ lc, fo ++ [(y, ky)], tz.append tc, rfl, g1, g2, ?_⟩
        rw [← hl]; simp
    · walk_at "eb"
      refine q_both0 ?_
      have hys : ys = [] := by simpa using he
      subst hys
      have hl1 : l = [] := by
        generalize hz : ([] : List Addr) = z at t
        cases t with
        | nil => rfl
        | snoc _ _ _ => exact absurd (congrArg List.length hz) (by simp)
      subst hl1
      walk_at "eb"
      have hfo : fo.length ≤ 1000 := by simp at hlen; lia
      refine ⟨df, _, rfl, gf', by rw [List.length_map]; lia, fun d2 hd2 => ?_⟩
      refine q d2 _ (lG'.put (lG'.non hd2) _) (lG'.non hd2) ?_
      rw [hp_self, ← hl]
      simp [List.map_reverse]
noncomputable def TokAt (H : Hp) (t : Addr) (s : Str) : Prop := ∃ dt, H t = some (.inst 93 dt (tokF s))
theorem filter_take {α β : Type} (f : α → Option β) (l : List α) (j : Nat) {p : α} (h : l[j]? = some p) : (l.take (j + 1)).filterMap f = (l.take j).filterMap f ++ (f p).toList := by
  rw [List.take_add_one, h, List.filterMap_append]
  cases hf : f p <;> simp [hf]
theorem w_compIfE {l : List V} {x y t : X} {i : Nat} (I : Hp → Nat → List V → Hp → Prop)
    (h : ∀ K : V → Hp → Prop, (∀ v H₁, (∃ src, iterQ H₁ v = some (l, src) ∧ l.length ≤ 100000 ∧ I H₁ 0 [] H₁ ∧ ∀ j acc H, I H₁ j acc H → StillAt src H₁ H) → K v H₁) → awp c n y m K H)
    (h1 : ∀ (K : V → Hp → Prop) (P : Hp → Prop) H₁ j v acc H, (∀ u H'', I H₁ (j + 1) (acc ++ [u]) H'' → K u H'') → (∀ H', I H₁ (j + 1) acc H' → P H') → l[j]? = some v → I H₁ j acc H → awp c n t (m.put i v) (isB fun r H' => both (awp c n x (m.put i v) K H') (P H') r) H) (h0 : ∀ H₁ acc H, I H₁ l.length acc H → newList Q acc H) : awp c n (.compIf x i y t) m Q H := by
  refine h _ fun v H₁ p => ?_
  obtain ⟨src, e, hz, hI, hs⟩ := p
  refine ⟨l, src, e, hz, compGoIf_ind (fun r acc H => ∃ j, r = l.drop j ∧ j ≤ l.length ∧ I H₁ j acc H) ?_ ?_ ?_ l [] H₁ ⟨0, by simp, Nat.zero_le _, hI⟩⟩
  · rintro r acc H ⟨j, _, _, hI⟩; exact hs _ _ _ hI
  · rintro acc H ⟨j, e, hj, hI⟩
    have : l.length ≤ j := by simpa using e.symm
    obtain rfl : j = l.length := by lia
    exact h0 H₁ acc H hI
  · rintro v r acc H ⟨j, e, hj, hI⟩ K P hK hKp
    obtain ⟨hx, hr⟩ := drop_cons e
    have hj1 : j + 1 ≤ l.length := (List.getElem?_eq_some_iff.mp hx).1
    exact h1 K P H₁ j v acc H (fun u H'' h => hK u H'' ⟨j + 1, hr, hj1, h⟩) (fun H' h => hKp H' ⟨j + 1, hr, hj1, h⟩) hx hI
theorem reds_at (l : Cod) (j : Nat) {p : Addr × Kd} (h : l[j]? = some p) : reds (l.take (j + 1)) = reds (l.take j) ++ (match p.2 with | .lf _ => none | .nd i => some i : Option Nat).toList := by
  unfold reds
  exact filter_take _ l j h
theorem ylds_at (l : Cod) (j : Nat) {p : Addr × Kd} (h : l[j]? = some p) : ylds (l.take (j + 1)) = ylds (l.take j) ++ (match p.2 with | .lf x => some x | .nd _ => none : Option Str).toList := by
  unfold ylds
  exact filter_take _ l j h
theorem c_reds (W : Wd c) (X : Wc c) (F : Fs c) {x : Addr} {l0 : Cod} (ht : TAts H [x] l0) (hl0 : l0.length ≤ 1000) (q : ∀ d H', Hle H H' → H d = none → H' d = some (.list ((reds l0).map fun (i : Nat) => V.int i)) → Q (.ref d) H') :
    CallOK c (n + 4) (.fn (.ref 154)) [.ref x] Q H := by
  refine call_at W F.reductions (fun env hs E => ok_Tree_reductions W hs E) rfl ?_
  show swps c (n + 3) ir_Tree_reductions _ (noLo.put 0 (.ref x)) _
  unfold ir_Tree_reductions
  refine w_ret ?_
  refine w_compIfE (l := l0.map fun p => V.ref p.1) (fun H₁ j acc G' => G' = H₁ ∧ Hle H H₁ ∧ acc = (reds (l0.take j)).map fun (i : Nat) => V.int i) (fun K hK => ?_) ?_ ?_
  · walk_at "eb"
    refine CallOK.up (n := n + 2) (c_post W X F ht hl0 fun d G lG hd hdl => ?_) (nle rfl)
    refine hK _ _ ⟨some d, it_list hdl, by rw [List.length_map]; lia, ⟨rfl, lG, by simp [reds]⟩, ?_⟩
    rintro j acc G' ⟨rfl, _⟩ a ha
    rfl
  · rintro K P H₁ j v acc G' hK hKp hv ⟨rfl, lG, rfl⟩
    rw [List.getElem?_map] at hv
    obtain ⟨p, hp, rfl⟩ := Option.map_eq_some_iff.mp hv
    obtain ⟨ch, hn⟩ := ht.kinds p (List.mem_of_getElem? hp)
    have hn' := hn.le lG
    have hr := reds_at l0 j hp
    walk_at "eb"
    refine c_isleaf (n := n + 1) W X F hn' ?_
    walk_at "eb"
    obtain ⟨a, k⟩ := p
    cases k with
    | lf s =>
      refine q_both0 ?_
      refine hKp _ ⟨rfl, lG, ?_⟩
      rw [hr]; simp
    | nd i =>
      refine q_both1 ?_
      walk_at "eb"
      obtain ⟨dx, dc, _, nm, b⟩ := hn'
      refine q_attr b (X.fld _ _ (by decide +kernel)) (v := .int i) (by kernel_rfl) ?_
      refine hK _ _ ⟨rfl, lG, ?_⟩
      rw [hr]; simp
  · rintro H₁ acc G' ⟨rfl, lG, rfl⟩
    rw [List.length_map, List.take_length]
    have hrl : (reds l0).length ≤ l0.length := List.length_filterMap_le _ _
    refine q_newList (by rw [List.length_map]; lia) fun d hd => ?_
    exact q d _ (lG.put (lG.non hd) _) (lG.non hd) hp_self
theorem c_leaves (W : Wd c) (X : Wc c) (F : Fs c) {x : Addr} {l0 : Cod} (ht : TAts H [x] l0) (hl0 : l0.length ≤ 1000) (q : ∀ d H' (ts : List Addr), Hle H H' → H d = none → H' d = some (.list (ts.map V.ref)) → ts.length = (ylds l0).length → (∀ (i : Nat) t s, ts[i]? = some t → (ylds l0)[i]? = some s → TokAt H' t s) → Q (.ref d) H') :
    CallOK c (n + 4) (.fn (.ref 149)) [.ref x] Q H := by
  refine call_at W F.leaves (fun env hs E => ok_Tree_leaves W hs E) rfl ?_
  show swps c (n + 3) ir_Tree_leaves _ (noLo.put 0 (.ref x)) _
  unfold ir_Tree_leaves
  refine w_ret ?_
  refine w_compIfE (l := l0.map fun p => V.ref p.1) (fun H₁ j acc G' => G' = H₁ ∧ Hle H H₁ ∧ ∃ ts : List Addr, acc = ts.map V.ref ∧ ts.length = (ylds (l0.take j)).length ∧ ∀ (i : Nat) t s, ts[i]? = some t → (ylds (l0.take j))[i]? = some s → TokAt H t s) (fun K hK => ?_) ?_ ?_
  · walk_at "eb"
    refine CallOK.up (n := n + 2) (c_post W X F ht hl0 fun d G lG hd hdl => ?_) (nle rfl)
    refine hK _ _ ⟨some d, it_list hdl, by rw [List.length_map]; lia, ⟨rfl, lG, [], rfl, rfl, by simp⟩, ?_⟩
    rintro j acc G' ⟨rfl, _⟩ a ha
    rfl
  · rintro K P H₁ j v acc G' hK hKp hv ⟨rfl, lG, ts, rfl, hts, hat⟩
    rw [List.getElem?_map] at hv
    obtain ⟨p, hp, rfl⟩ := Option.map_eq_some_iff.mp hv
    obtain ⟨ch, hn⟩ := ht.kinds p (List.mem_of_getElem? hp)
    have hn' := hn.le lG
    have hr := ylds_at l0 j hp
    walk_at "eb"
    refine c_isleaf (n := n + 1) W X F hn' ?_
    obtain ⟨a, k⟩ := p
    cases k with
    | nd i =>
      refine q_isB ?_
      refine q_both0 ?_
      refine hKp _ ⟨rfl, lG, ts, rfl, ?_, ?_⟩
      · rw [hr]; simpa using hts
      · rw [hr]; simpa using hat
    | lf s =>
      refine q_isB ?_
      refine q_both1 ?_
      walk_at "eb"
      obtain ⟨dx, dc, _, _, tk, dt, b, hb⟩ := hn'
      obtain ⟨_, _, _, _, tk', dt', b', hb'⟩ := hn
      have := lG _ _ b'
      rw [b] at this
      obtain rfl : tk = tk' := by
        have h1 := congrArg (fun o => match o with | some (O.inst _ _ fs) => lk fs "token" | _ => none) this
        have h2 : some (V.ref tk) = some (V.ref tk') := h1
        cases h2; rfl
      refine q_attr b (X.fld _ _ (by decide +kernel)) (v := .ref tk) (by kernel_rfl) ?_
      refine hK _ _ ⟨rfl, lG, ts ++ [tk], by simp, ?_, ?_⟩
      · rw [hr]; simp [hts]
      · rw [hr]
        intro i t s' h1 h2
        by_cases hi : i < ts.length
        · rw [List.getElem?_append_left hi] at h1
          rw [List.getElem?_append_left (by lia)] at h2
          exact hat i t s' h1 h2
        · have e1 : i = ts.length := by
            have := (List.getElem?_eq_some_iff.mp h1).1
            simp at this; lia
          subst e1
          rw [hts] at h2
          simp at h1 h2
          subst h1; subst h2
          exact ⟨dt', hb'⟩
  · rintro H₁ acc G' ⟨rfl, lG, ts, rfl, hts, hat⟩
    rw [List.length_map, List.take_length] at hts hat
    have hrl : (ylds l0).length ≤ l0.length := List.length_filterMap_le _ _
    refine q_newList (by rw [List.length_map]; lia) fun d hd => ?_
    have lG' := lG.put (lG.non hd) (.list (ts.map V.ref))
    exact q d _ ts lG' (lG.non hd) hp_self hts fun i t s h1 h2 => let ⟨dt, h⟩ := hat i t s h1 h2; ⟨dt, lG' _ _ h⟩
end
end Mine
set_option tactic.hygienic false
open PySem PySem.W PySem.Calls PyProof PyProof.Rows PySem.SeqAt
set_option maxRecDepth 100000
set_option maxHeartbeats 4000000
namespace Mine
noncomputable abbrev Rw := List Addr × Cod
noncomputable abbrev Tw := Addr × Cod
noncomputable def rowV (r : Rw) : V := .tup (r.1.map V.ref)
noncomputable def key (r : Rw) : List Nat := reds r.2
noncomputable def tkey (o : Tw) : List Nat := reds o.2
noncomputable def eat (ar : Nat → Nat) : List Nat → Nat → Option (List Nat)
  | l, 0 => some l
  | [], _ + 1 => none
  | i :: l, k + 1 => eat ar l (k + ar i)
noncomputable def Cmp (ar : Nat → Nat) (R : List Nat) (j : Nat) : Prop := ∀ rest k, eat ar (R.reverse ++ rest) (k + j) = eat ar rest k
section
variable {ar tm : Nat → Nat}
theorem Cmp.nil : Cmp ar [] 0 := fun zz zz => rfl
theorem Cmp.append {K R : List Nat} {j i : Nat} (x : Cmp ar K j) (y : Cmp ar R i) : Cmp ar (K ++ R) (j + i) := fun rest k => by
  rw [List.reverse_append, List.append_assoc, ← Nat.add_assoc, y, x]
theorem Cmp.node {K : List Nat} {i : Nat} (x : Cmp ar K (ar i)) : Cmp ar (K ++ [i]) 1 := fun rest k => by
  rw [List.reverse_append]
  show eat ar (i :: (K.reverse ++ rest)) (k + 1) = _
  rw [eat, x]
theorem eat_zero (l : List Nat) : eat ar l 0 = some l := by cases l <;> rfl
theorem Cmp.uniq {A A' R R' : List Nat} {v : Nat} (x : Cmp ar R v) (y : Cmp ar R' v) (h : A ++ R = A' ++ R') : A = A' ∧ R = R' := by
  have h1 := x A.reverse 0
  have h2 := y A'.reverse 0
  rw [← List.reverse_append] at h1 h2
  rw [h, h2, eat_zero, eat_zero] at h1
  have e : A = A' := by
    have := Option.some.inj h1
    simpa using (congrArg List.reverse this).symm
  subst e
  exact ⟨rfl, List.append_cancel_left h⟩
noncomputable def wid (tm : Nat → Nat) (R : List Nat) : Nat := (R.map tm).sum
theorem wid_append (R K : List Nat) : wid tm (R ++ K) = wid tm R + wid tm K := by simp [wid]
structure RowOk (ar tm : Nat → Nat) (H : Hp) (y : List Str) (b e j t : Nat) (r : Rw) : Prop where
  tree : TAts H r.1 r.2
  cmp : Cmp ar (key r) j
  wid : e = b + wid tm (key r) + t
  yl : ylds r.2 = (y.drop b).take (e - b)
  small : r.2.length + j + 2 * t ≤ 3 * (e - b)
  len : r.1.length = j + t
theorem RowOk.le {H H' : Hp} (h : Hle H H') {y : List Str} {b e j t : Nat} {r : Rw} (x : RowOk ar tm H y b e j t r) : RowOk ar tm H' y b e j t r := ⟨x.tree.le h, x.cmp, x.wid, x.yl, x.small, x.len⟩
theorem RowOk.nil {H : Hp} {y : List Str} {b : Nat} : RowOk ar tm H y b b 0 0 ([], []) := ⟨.nil, Cmp.nil, by simp [key, reds, Mine.wid], by simp [ylds], by simp, rfl⟩
noncomputable def cat (a : Rw) (o : Tw) : Rw := (a.1 ++ [o.1], a.2 ++ o.2)
theorem key_cat (a : Rw) (o : Tw) : key (cat a o) = key a ++ tkey o := reds_append _ _
theorem slice_app (y : List Str) {b s e : Nat} (h1 : b ≤ s) (h2 : s ≤ e) : (y.drop b).take (s - b) ++ (y.drop s).take (e - s) = (y.drop b).take (e - b) := by
  have e1 : y.drop s = (y.drop b).drop (s - b) := by rw [List.drop_drop]; congr 1; lia
  have e2 : e - b = (s - b) + (e - s) := by lia
  rw [e1, e2, List.take_add]
theorem RowOk.cat {H : Hp} {y : List Str} {b s e j t v u : Nat} {a : Rw} {o : Tw} (x : RowOk ar tm H y b s j t a) (z : RowOk ar tm H y s e v u ([o.1], o.2)) : RowOk ar tm H y b e (j + v) (t + u) (cat a o) := by
  have h1 := x.wid
  have h2 := z.wid
  have h3 := x.small
  have h4 := z.small
  have h5 := x.len
  have h6 := z.len
  have e1 : key ([o.1], o.2) = tkey o := rfl
  simp only [List.length_singleton] at h6
  simp only at h4
  refine ⟨x.tree.append z.tree, ?_, ?_, ?_, ?_, ?_⟩
  · rw [key_cat]; exact x.cmp.append z.cmp
  · rw [key_cat, wid_append]; rw [e1] at h2; lia
  · show ylds (a.2 ++ o.2) = _
    rw [ylds_append, x.yl]
    have := z.yl
    simp only at this
    rw [this]
    exact slice_app y (by lia) (by lia)
  · show (a.2 ++ o.2).length + _ + _ ≤ _
    rw [List.length_append]; lia
  · show (a.1 ++ [o.1]).length = _
    simp; lia
theorem RowOk.node {H : Hp} {y : List Str} {b e i : Nat} {r : Rw} {x : Addr} (z : RowOk ar tm H y b e (ar i) (tm i) r) (h : NodeAt H x (.nd i) r.1) (h2 : 2 ≤ ar i + 2 * tm i) : RowOk ar tm H y b e 1 0 ([x], r.2 ++ [(x, .nd i)]) := by
  have h1 := z.wid
  have h3 := z.small
  have e1 : reds (r.2 ++ [(x, .nd i)]) = key r ++ [i] := by rw [reds_append]; rfl
  refine ⟨?_, ?_, ?_, ?_, ?_, rfl⟩
  · have := TAts.snoc h z.tree .nil
    simpa using this
  · show Cmp ar (reds _) 1
    rw [e1]; exact z.cmp.node
  · show e = b + Mine.wid tm (reds _) + 0
    rw [e1, wid_append]
    have : Mine.wid tm [i] = tm i := by simp [Mine.wid]
    lia
  · show ylds _ = _
    rw [ylds_append, z.yl]; simp [ylds]
  · simp only [List.length_append, List.length_singleton]; lia
theorem RowOk.leaf {H : Hp} {y : List Str} {s : Nat} {x : Addr} {nm : Str} (h : NodeAt H x (.lf nm) []) (hy : y[s]? = some nm) : RowOk ar tm H y s (s + 1) 0 1 ([x], [(x, .lf nm)]) := by
  refine ⟨?_, ?_, ?_, ?_, ?_, rfl⟩
  · have := TAts.snoc h .nil .nil
    simpa using this
  · exact Cmp.nil
  · rfl
  · have e1 : s + 1 - s = 1 := by lia
    rw [e1]
    obtain ⟨hlt, rfl⟩ := List.getElem?_eq_some_iff.mp hy
    rw [List.drop_eq_getElem_cons hlt]; rfl
  · simp only [List.length_singleton]; lia
noncomputable def prods (A : List Rw) (B : List Tw) : List Rw := A.flatMap fun a => B.map (cat a)
theorem prods_len (B : List Tw) : ∀ A : List Rw, (prods A B).length = A.length * B.length
  | [] => by simp [prods]
  | a :: A => by
    have ih := prods_len B A
    show ((B.map (cat a)) ++ prods A B).length = _
    rw [List.length_append, ih, List.length_map, List.length_cons, Nat.add_mul]; lia
theorem prods_mem {A : List Rw} {B : List Tw} {r : Rw} : r ∈ prods A B ↔ ∃ a ∈ A, ∃ o ∈ B, r = cat a o := by
  simp only [prods, List.mem_flatMap, List.mem_map]
  constructor
  · rintro ⟨a, ha, o, ho, e⟩; exact ⟨a, ha, o, ho, e.symm⟩
  · rintro ⟨a, ha, o, ho, e⟩; exact ⟨a, ha, o, ho, e.symm⟩
theorem nodup_map_inj {α β γ : Type} {f : α → β} {g : α → γ} : ∀ {l : List α}, (l.map g).Nodup → (∀ a ∈ l, ∀ b ∈ l, f a = f b → g a = g b) → (l.map f).Nodup
  | [], _, _ => List.nodup_nil
  | a :: l, h, hi => by
    rw [List.map_cons, List.nodup_cons] at h ⊢
    refine ⟨fun hm => ?_, nodup_map_inj h.2 fun x hx y hy => hi x (List.mem_cons_of_mem _ hx) y (List.mem_cons_of_mem _ hy)⟩
    obtain ⟨b, hb, e⟩ := List.mem_map.mp hm
    exact h.1 (List.mem_map.mpr ⟨b, hb, hi b (List.mem_cons_of_mem _ hb) a (by simp) e⟩)
theorem nodup_app {α : Type} {l k : List α} (h1 : l.Nodup) (h2 : k.Nodup) (h : ∀ a ∈ l, a ∉ k) : (l ++ k).Nodup := by
  rw [List.nodup_append]
  exact ⟨h1, h2, fun a ha b hb e => h a ha (e ▸ hb)⟩
theorem prods_nodup {B : List Tw} {v : Nat} (hB : (B.map tkey).Nodup) (hc : ∀ o ∈ B, Cmp ar (tkey o) v) : ∀ {A : List Rw}, (A.map key).Nodup → ((prods A B).map key).Nodup
  | [], _ => List.nodup_nil
  | a :: A, h => by
    rw [List.map_cons, List.nodup_cons] at h
    show ((B.map (cat a) ++ prods A B).map key).Nodup
    rw [List.map_append]
    refine nodup_app ?_ (prods_nodup hB hc h.2) ?_
    · rw [List.map_map]
      refine nodup_map_inj hB fun o zz o' zz e => ?_
      simp only [Function.comp, key_cat] at e
      exact List.append_cancel_left e
    · rintro k hk hk'
      obtain ⟨_, h1, rfl⟩ := List.mem_map.mp hk
      obtain ⟨o, ho, rfl⟩ := List.mem_map.mp h1
      obtain ⟨r, hr, e⟩ := List.mem_map.mp hk'
      obtain ⟨a', ha', o', ho', rfl⟩ := prods_mem.mp hr
      rw [key_cat, key_cat] at e
      obtain ⟨e1, _⟩ := (hc o' ho').uniq (hc o ho) e
      exact h.1 (List.mem_map.mpr ⟨a', ha', e1⟩)
theorem min_step {M W w d z x y : Int} (hM : 1 ≤ M) (hW : 0 ≤ W) (hw : 0 ≤ w) (hd : 0 ≤ d) (hz : z = min M W) (hx : x = min M w) (hy : y = min M d) : min M (z + x * y) = min M (W + w * d) := by
  by_cases h0 : w = 0
  · subst h0
    have : x = 0 := by lia
    subst this; simp; lia
  by_cases h1 : d = 0
  · subst h1
    have : y = 0 := by lia
    subst this; simp; lia
  by_cases h : w ≤ M ∧ d ≤ M
  · have e1 : x = w := by lia
    have e2 : y = d := by lia
    subst e1; subst e2
    have := Int.mul_nonneg hw hd
    generalize x * y = p at *
    lia
  · have hxM : M ≤ x * y := by
      by_cases hw' : w ≤ M
      · have e : y = M := by lia
        have : 1 * M ≤ x * y := by rw [e]; exact Int.mul_le_mul_of_nonneg_right (by lia) (by lia)
        lia
      · have e : x = M := by lia
        have : M * 1 ≤ x * y := by rw [e]; exact Int.mul_le_mul_of_nonneg_left (by lia) (by lia)
        lia
    have hwM : M ≤ w * d := by
      by_cases hw' : w ≤ M
      · have : 1 * M ≤ w * d := Int.mul_le_mul (by lia) (by lia) (by lia) (by lia)
        lia
      · have : M * 1 ≤ w * d := Int.mul_le_mul (by lia) (by lia) (by lia) (by lia)
        lia
    generalize x * y = p at *
    generalize w * d = p' at *
    lia
structure Reach (ar tm : Nat → Nat) (H : Hp) (y : List Str) (b j t M : Nat) (w : Nat → Int) (f : Nat → List Rw) : Prop where
  num : ∀ g, ((f g).length : Int) = min (M : Int) (w g)
  row : ∀ g, ∀ r ∈ f g, RowOk ar tm H y b g j t r
  nod : ∀ g, ((f g).map key).Nodup
structure Ends (ar tm : Nat → Nat) (H : Hp) (y : List Str) (s v u M : Nat) (w : Nat → Int) (h : Nat → List Tw) : Prop where
  num : ∀ g, ((h g).length : Int) = min (M : Int) (w g)
  one : ∀ g, ∀ o ∈ h g, RowOk ar tm H y s g v u ([o.1], o.2)
  nod : ∀ g, ((h g).map tkey).Nodup
noncomputable def Tagd (ar tm : Nat → Nat) (b t v : Nat) (done : List Nat) (f : Nat → List Rw) : Prop := ∀ g, ∀ r ∈ f g, ∃ ka ko, key r = ka ++ ko ∧ Cmp ar ko v ∧ b + wid tm ka + t ∈ done
theorem Reach.le {H H' : Hp} (h : Hle H H') {y : List Str} {b j t M : Nat} {w : Nat → Int} {f : Nat → List Rw} (x : Reach ar tm H y b j t M w f) : Reach ar tm H' y b j t M w f := ⟨x.num, fun g r hr => (x.row g r hr).le h, x.nod⟩
theorem later_step {H : Hp} {y : List Str} {b s j t v u M : Nat} {w W d : Nat → Int} {f fl : Nat → List Rw} {h : Nat → List Tw} {done : List Nat} (hM : 1 ≤ M) (x : Reach ar tm H y b j t M w f) (z : Reach ar tm H y b (j + v) (t + u) M W fl) (zt : Tagd ar tm b t v done fl) (e : Ends ar tm H y s v u M d h) (hs : s ∉ done) :
    Reach ar tm H y b (j + v) (t + u) M (fun g => W g + w s * d g) (fun g => (fl g ++ prods (f s) (h g)).take M) ∧ Tagd ar tm b t v (done ++ [s]) (fun g => (fl g ++ prods (f s) (h g)).take M) := by
  have hcat : ∀ g, ∀ r ∈ (fl g ++ prods (f s) (h g)).take M, r ∈ fl g ∨ ∃ a ∈ f s, ∃ o ∈ h g, r = cat a o := fun g r hr => by
    rcases List.mem_append.mp (List.mem_of_mem_take hr) with h1 | h1
    · exact .inl h1
    · exact .inr (prods_mem.mp h1)
  refine ⟨⟨fun g => ?_, fun g r hr => ?_, fun g => ?_⟩, fun g r hr => ?_⟩
  · have h1 := x.num s
    have h2 := z.num g
    have h3 := e.num g
    rw [← min_step (M := (M : Int)) (by lia) (by lia) (by lia) (by lia) h2 h1 h3, List.length_take, List.length_append, prods_len]
    have : (((f s).length * (h g).length : Nat) : Int) = ((f s).length : Int) * ((h g).length : Int) := by simp
    rw [← this]
    lia
  · rcases hcat g r hr with h1 | ⟨a, ha, o, ho, rfl⟩
    · exact z.row g r h1
    · exact (x.row s a ha).cat (e.one g o ho)
  · refine List.Nodup.sublist (List.Sublist.map key (List.take_sublist _ _)) ?_
    rw [List.map_append]
    refine nodup_app (z.nod g) (prods_nodup (ar := ar) (v := v) (e.nod g) (fun o ho => (e.one g o ho).cmp) (x.nod s)) ?_
    rintro k hk hk'
    obtain ⟨r, hr, rfl⟩ := List.mem_map.mp hk
    obtain ⟨r', hr', e'⟩ := List.mem_map.mp hk'
    obtain ⟨a, ha, o, ho, rfl⟩ := prods_mem.mp hr'
    obtain ⟨ka, ko, hko, hc, hd⟩ := zt g r hr
    rw [key_cat, hko] at e'
    have hco : Cmp ar (tkey o) v := (e.one g o ho).cmp
    obtain ⟨e1, _⟩ := hco.uniq hc e'
    have := (x.row s a ha).wid
    rw [e1] at this
    rw [← this] at hd
    exact hs hd
  · rcases hcat g r hr with h1 | ⟨a, ha, o, ho, rfl⟩
    · obtain ⟨ka, ko, hko, hc, hd⟩ := zt g r h1
      exact ⟨ka, ko, hko, hc, List.mem_append_left _ hd⟩
    · have := (x.row s a ha).wid
      exact ⟨key a, tkey o, key_cat _ _, (e.one g o ho).cmp, by rw [← this]; simp⟩
end
end Mine
set_option tactic.hygienic false
open PySem PySem.W PySem.Calls PyProof PyProof.Rows PySem.SeqAt
set_option maxRecDepth 100000
set_option maxHeartbeats 4000000
namespace Mine
noncomputable abbrev ir_pairs : S := .for (.one 46) (.sub (.var 36) (.var 38)) (.cons
          (.for (.one 30) (.var 44) (.cons
            (.iff (.cmp .Lt (.len (.var 45)) (.var 42)) (.cons
              (.expr (.append (.var 45) (.bin .Add (.var 46) (.tup (.cons (.var 30) .nil))))) .nil) .nil) .nil)) .nil)
section
variable {c : Cx} {n : Nat} {m : Lo} {H H' : Hp} {Q : V → Hp → Prop} {SQ : Fl → Lo → Hp → Prop} {ss : Ss}
theorem w_forE {tg : Tg} {x : X} {a : Ss} (I : Hp → List V → Nat → Lo → Hp → Prop)
    (h : ∀ K : V → Hp → Prop, (∀ v H₁, (∃ l src, iterQ H₁ v = some (l, src) ∧ I H₁ l 0 m H₁ ∧ ∀ j m H, I H₁ l j m H → StillAt src H₁ H) → K v H₁) → awp c n x m K H)
    (h1 : ∀ (K : Fl → Lo → Hp → Prop) H₁ l j v m H, (∀ m'' H', I H₁ l (j + 1) m'' H' → K .next m'' H') → (∀ v m'' H', SQ (.ret v) m'' H' → K (.ret v) m'' H') → l[j]? = some v → I H₁ l j m H → ∃ m', asgT tg v m = some m' ∧ swps c n a K m' H)
    (h0 : ∀ H₁ l m H, I H₁ l l.length m H → swps c n ss SQ m H) : swps c n (.cons (.for tg x a) ss) SQ m H := by
  refine h _ fun v H₁ p => ?_
  obtain ⟨l, src, e, hI, hst⟩ := p
  refine ⟨l, src, e, forGo_ind (fun r m H => ∃ j, r = l.drop j ∧ j ≤ l.length ∧ I H₁ l j m H) ?_ ?_ ?_ l m H₁ ⟨0, by simp, Nat.zero_le _, hI⟩⟩
  · rintro r m H ⟨j, _, _, hI⟩
    exact hst j m H hI
  · rintro m H ⟨j, e, hj, hI⟩
    have : l.length ≤ j := by simpa using e.symm
    obtain rfl : j = l.length := by lia
    exact h0 H₁ l m H hI
  · rintro v r m H ⟨j, e, hj, hI⟩ K hK
    obtain ⟨hx, hr⟩ := drop_cons e
    exact h1 (fun f m'' H' => match f with | .next => K m'' H' | .ret v => SQ (.ret v) m'' H') H₁ l j v m H (fun m'' H' h => hK _ _ ⟨j + 1, hr, (List.getElem?_eq_some_iff.mp hx).1, h⟩) (fun zz zz zz h => h) hx hI
theorem take_app {α : Type} {M : Nat} {l : List α} {x : α} : (l ++ [x]).take M = if (l.take M).length < M then l.take M ++ [x] else l.take M := by
  rw [List.length_take]
  split
  · rw [List.take_of_length_le (by simp; lia), List.take_of_length_le (by lia)]
  · rw [List.take_append_of_le_length (by lia)]
theorem prods_snoc {A : List Rw} {B : List Tw} {j : Nat} {a : Rw} (h : A[j]? = some a) : prods (A.take (j + 1)) B = prods (A.take j) B ++ B.map (cat a) := by
  rw [List.take_add_one, h]
  simp [prods]
theorem l_pairs {G2 : Hp} {d dr da db : Addr} {es : List (Int × V)} {A : List Rw} {B : List Tw} {M : Nat} {s : Int} {r0 : List Rw}
    (e36 : m 36 = some (.ref dr)) (e38 : m 38 = some (.int s)) (e44 : m 44 = some (.ref db)) (e45 : m 45 = some (.ref d)) (e42 : m 42 = some (.int M)) (gr : G2 dr = some (.dictI es)) (hl : lk es s = some (.ref da)) (ga : G2 da = some (.list (A.map rowV)))
    (gb : G2 db = some (.list (B.map fun o => V.ref o.1))) (n1 : dr ≠ d) (n2 : da ≠ d) (n3 : db ≠ d) (hM : M ≤ 100) (hA : ∀ a ∈ A, a.1.length ≤ 100) (h0 : r0.length ≤ M)
    (k : ∀ m' : Lo, (∀ j, j ≠ 46 → j ≠ 30 → m' j = m j) → swps c n ss SQ m' (G2.put d (.list (((r0 ++ prods A B).take M).map rowV)))) :
    swps c n (.cons ir_pairs ss) SQ m (G2.put d (.list (r0.map rowV))) := by
  refine w_forL da (A.map rowV) (fun j m' G => (∀ j, j ≠ 46 → j ≠ 30 → m' j = m j) ∧ G = G2.put d (.list (((r0 ++ prods (A.take j) B).take M).map rowV))) (fun K hK => ?_) ?_ ?_ ?_
  · walk_at "eb"
    refine q_subI (put_get' gr n1) hl (hK _ _ ⟨rfl, put_get' ga n2, fun zz zz zz => rfl, ?_⟩)
    simp [prods, List.take_of_length_le h0]
  · rintro j m' G ⟨_, rfl⟩
    exact put_get' ga n2
  · rintro K j v m' G hK hKr hv ⟨hm, rfl⟩
    rw [List.getElem?_map] at hv
    obtain ⟨a, ha, rfl⟩ := Option.map_eq_some_iff.mp hv
    have hal := hA a (List.mem_of_getElem? ha)
    refine ⟨_, asg_one, ?_⟩
    have e44' : m' 44 = _ := (hm 44 (by decide) (by decide)).trans e44
    refine w_forL db (B.map fun o => V.ref o.1) (fun i m'' G => (∀ j, j ≠ 46 → j ≠ 30 → m'' j = m j) ∧ m'' 46 = some (rowV a) ∧ G = G2.put d (.list (((r0 ++ prods (A.take j) B ++ (B.take i).map (cat a)).take M).map rowV))) (fun K hK => ?_) ?_ ?_ ?_
    · walk_at "eb"
      refine ⟨rfl, put_get' gb n3, fun j h1 h2 => ?_, by walk_at "lo", by simp⟩
      show Lo.put m' 46 _ j = _
      unfold Lo.put
      rw [if_neg h1, hm j h1 h2]
    · rintro j m' G ⟨_, _, rfl⟩
      exact put_get' gb n3
    · rintro K i v m'' G hK hKr hv ⟨hm', e46, rfl⟩
      rw [List.getElem?_map] at hv
      obtain ⟨o, ho, rfl⟩ := Option.map_eq_some_iff.mp hv
      have e45' : m'' 45 = _ := (hm' 45 (by decide) (by decide)).trans e45
      have e42' : m'' 42 = _ := (hm' 42 (by decide) (by decide)).trans e42
      have hnext : (r0 ++ prods (A.take j) B ++ (B.take (i + 1)).map (cat a)).take M = if ((r0 ++ prods (A.take j) B ++ (B.take i).map (cat a)).take M).length < M then (r0 ++ prods (A.take j) B ++ (B.take i).map (cat a)).take M ++ [cat a o] else (r0 ++ prods (A.take j) B ++ (B.take i).map (cat a)).take M := by
        rw [← take_app, List.take_add_one, ho]
        simp
      rw [hnext] at hK
      clear hnext
      generalize hz : (r0 ++ prods (A.take j) B ++ (B.take i).map (cat a)).take M = z at hK ⊢
      have hzM : z.length ≤ M := by rw [← hz, List.length_take]; lia
      refine ⟨_, asg_one, ?_⟩
      have hm'' : ∀ j, j ≠ 46 → j ≠ 30 → (m''.put 30 (V.ref o.1)) j = m j := fun j h1 h2 => by
        show Lo.put m'' 30 _ j = _
        unfold Lo.put
        rw [if_neg h2, hm' j h1 h2]
      walk_at "eb"
      refine q_lenL hp_self (by rw [List.length_map]; lia) ?_
      rw [List.length_map]
      walk_at "eb"
      refine q_both (fun hlt => ?_) fun hlt => ?_
      · walk_at "eb"
        refine ⟨⟨d, _, rfl, hp_self⟩, ?_⟩
        walk_at "eb"
        refine ⟨by simp, ?_⟩
        refine .k7 ⟨by simp; lia, ?_⟩
        refine q_append hp_self (by rw [List.length_map]; lia) ?_
        refine ⟨rfl, ?_⟩
        walk_at "eb"
        refine ⟨hm'', by walk_at "lo", ?_⟩
        rw [put_put, if_pos (by lia)]
        congr 2
        simp [rowV, cat]
      · walk_at "eb"
        refine ⟨hm'', by walk_at "lo", ?_⟩
        rw [if_neg (by lia)]
    · rintro m'' G ⟨hm', e46, rfl⟩
      walk_at "eb"
      refine ⟨hm', ?_⟩
      rw [List.length_map, List.take_length, prods_snoc ha, ← List.append_assoc]
  · rintro m' G ⟨hm, rfl⟩
    rw [List.length_map, List.take_length]
    exact k m' hm
end
end Mine
set_option tactic.hygienic false
open PySem PySem.W PySem.Calls PyProof PyProof.Rows PySem.SeqAt
set_option maxRecDepth 100000
set_option maxHeartbeats 4000000
namespace Mine
structure FDx (P G : Hp) (dl : Addr) (e : Nat) (f : Nat → List Rw) (es : List (Int × V)) (ks : List Nat) : Prop where
  dict : G dl = some (.dictI es)
  own : P dl = none
  keys : es.map (fun zz => zz.1) = ks.map (fun (k : Nat) => (k : Int))
  nod : ks.Nodup
  le : ∀ k ∈ ks, k ≤ e
  out : ∀ k, k ∉ ks → f k = []
  ent : ∀ k ∈ ks, ∃ d, lk es k = some (.ref d) ∧ G d = some (.list ((f k).map rowV)) ∧ P d = none
  inj : ∀ (k k' : Nat) d, lk es k = some (.ref d) → lk es k' = some (.ref d) → k = k'
noncomputable def FD (P G : Hp) (dl : Addr) (e : Nat) (f : Nat → List Rw) : Prop := ∃ es ks, FDx P G dl e f es ks
section
variable {P G G' : Hp} {dl : Addr} {e : Nat} {f : Nat → List Rw} {es : List (Int × V)} {ks : List Nat}
theorem FDx.key (x : FDx P G dl e f es ks) {k : Nat} : ((k : Int) ∈ es.map (fun zz => zz.1)) ↔ k ∈ ks := by
  rw [x.keys, List.mem_map]
  constructor
  · rintro ⟨a, ha, e⟩
    have : a = k := by lia
    exact this ▸ ha
  · intro h; exact ⟨k, h, rfl⟩
theorem FDx.len (x : FDx P G dl e f es ks) : es.length ≤ e + 1 := by
  have e1 : es.length = ks.length := by simpa using congrArg List.length x.keys
  have hp := (List.perm_ext_iff_of_nodup x.nod (nodup_filter (p := fun k => decide (k ∈ ks)) (List.nodup_range (n := e + 1)))).mpr fun a => by
    simp only [List.mem_filter, List.mem_range, decide_eq_true_eq]
    exact ⟨fun h => ⟨by have := x.le a h; lia, h⟩, fun h => h.2⟩
  have := hp.length_eq
  have h2 := List.length_filter_le (fun k => decide (k ∈ ks)) (List.range (e + 1))
  simp at h2
  lia
theorem FDx.mono (x : FDx P G dl e f es ks) (h : Hle G G') : FDx P G' dl e f es ks :=
  ⟨h _ _ x.dict, x.own, x.keys, x.nod, x.le, x.out, fun k hk => let ⟨d, a, b, c⟩ := x.ent k hk; ⟨d, a, h _ _ b, c⟩, x.inj⟩
theorem FDx.upd (x : FDx P G dl e f es ks) {goal : Nat} {d : Addr} (hk : lk es goal = some (.ref d)) (hm : goal ∈ ks) (rows : List Rw) : FDx P (G.put d (.list (rows.map rowV))) dl e (fun k => if k = goal then rows else f k) es ks := by
  obtain ⟨d', h1, h2, h3⟩ := x.ent goal hm
  rw [hk] at h1; cases h1
  have nd : dl ≠ d := ne_val x.dict h2 (by intro h; cases h)
  refine ⟨put_get' x.dict nd, x.own, x.keys, x.nod, x.le, fun k hk' => ?_, fun k hk' => ?_, x.inj⟩
  · have : k ≠ goal := by rintro rfl; exact hk' hm
    simp only [if_neg this]; exact x.out k hk'
  · by_cases q : k = goal
    · subst q; exact ⟨d, hk, by simp only [if_true]; exact hp_self, h3⟩
    · obtain ⟨d2, a, b, c⟩ := x.ent k hk'
      have : d2 ≠ d := by rintro rfl; exact q (x.inj _ _ _ a hk)
      exact ⟨d2, a, by simp only [if_neg q]; exact put_get' b this, c⟩
theorem FDx.new (x : FDx P G dl e f es ks) (hP : Hle P G) {goal : Nat} {d : Addr} (hg : goal ≤ e) (hk : goal ∉ ks) (hd : G d = none) : FDx P ((G.put d (.list [])).put dl (.dictI (es ++ [((goal : Int), .ref d)]))) dl e f (es ++ [((goal : Int), .ref d)]) (ks ++ [goal]) := by
  have nd : d ≠ dl := (ne_of x.dict hd).symm
  have hno : (goal : Int) ∉ es.map (fun zz => zz.1) := fun h => hk (x.key.mp h)
  have hlk : ∀ k : Nat, lk (es ++ [((goal : Int), V.ref d)]) k = if k = goal then some (.ref d) else lk es k := fun k => by
    rw [lk_append hno]
    by_cases q : k = goal
    · subst q; simp
    · rw [if_neg q, if_neg (by lia)]
  have hold : ∀ k : Nat, lk es k = some (.ref d) → False := fun k h => by
    have hm : k ∈ ks := by
      by_cases q : k ∈ ks
      · exact q
      · have := lk_none (fun z => q (x.key.mp z)); rw [this] at h; cases h
    obtain ⟨d2, a, b, _⟩ := x.ent k hm
    rw [h] at a; cases a
    rw [hd] at b; cases b
  refine ⟨hp_self, x.own, by rw [List.map_append, x.keys, List.map_append]; rfl, nodup_app x.nod (by simp) (fun a ha => ?_), fun k hk' => ?_, fun k hk' => ?_, fun k hk' => ?_, fun k k' d' h1 h2 => ?_⟩
  · simp only [List.mem_singleton]; rintro rfl; exact hk ha
  · rcases List.mem_append.mp hk' with h | h
    · exact x.le k h
    · simp only [List.mem_singleton] at h; lia
  · exact x.out k fun h => hk' (List.mem_append_left _ h)
  · rcases List.mem_append.mp hk' with h | h
    · obtain ⟨d2, a, b, c⟩ := x.ent k h
      have q : k ≠ goal := by rintro rfl; exact hk h
      exact ⟨d2, by rw [hlk, if_neg q]; exact a, put_get' (put_get b hd) (ne_val b x.dict (by intro h; cases h)), c⟩
    · simp only [List.mem_singleton] at h
      subst h
      exact ⟨d, by rw [hlk, if_pos rfl], by rw [x.out k hk]; exact put_get' hp_self nd, hP.non hd⟩
  · rw [hlk] at h1 h2
    by_cases q1 : k = goal <;> by_cases q2 : k' = goal
    · lia
    · rw [if_pos q1] at h1; rw [if_neg q2] at h2; cases h1; exact (hold _ h2).elim
    · rw [if_neg q1] at h1; rw [if_pos q2] at h2; cases h2; exact (hold _ h1).elim
    · rw [if_neg q1] at h1; rw [if_neg q2] at h2; exact x.inj _ _ _ h1 h2
theorem FD.grow (x : FD P G dl e f) (hP : Hle P G) (h : Hle G G') : ∃ P', Hle P P' ∧ Hle P' G' ∧ FD P' G' dl e f ∧ ∀ a o, G a = none → G' a = some o → P' a = some o := by
  obtain ⟨es, ks, x⟩ := x
  refine ⟨fun a => if P a = none ∧ G a ≠ none then none else G' a, fun a o ea => ?_, fun a o ea => ?_, ⟨es, ks, ?_⟩, fun a o e1 e2 => ?_⟩
  · show (if P a = none ∧ G a ≠ none then none else G' a) = some o
    rw [if_neg (by rw [ea]; simp)]; exact h _ _ (hP _ _ ea)
  · replace ea : (if P a = none ∧ G a ≠ none then none else G' a) = some o := ea
    split at ea
    · cases ea
    · exact ea
  · have x' := x.mono h
    refine ⟨x'.dict, if_pos ⟨x.own, by rw [x.dict]; simp⟩, x.keys, x.nod, x.le, x.out, fun k hk => ?_, x.inj⟩
    obtain ⟨d, a, b, c⟩ := x.ent k hk
    exact ⟨d, a, h _ _ b, if_pos ⟨c, by rw [b]; simp⟩⟩
  · show (if P a = none ∧ G a ≠ none then none else G' a) = some o
    rw [if_neg (by rw [e1]; simp)]; exact e2
end
noncomputable abbrev ir_apply : S := .for (.two 39 44) (.var 43) (.cons
        (.asg 45 (.setd (.var 37) (.var 39) (.lst .nil))) (.cons ir_pairs .nil))
section
variable {c : Cx} {n : Nat} {m : Lo} {H H' P G : Hp} {Q : V → Hp → Prop} {SQ : Fl → Lo → Hp → Prop} {ss : Ss} {dl : Addr} {e : Nat} {f : Nat → List Rw}
theorem w_setF {goal : Nat} (hF : FD P G dl e f) (hP : Hle P G) (hg : goal ≤ e) (he : e ≤ 100) (e37 : m 37 = some (.ref dl)) (e39 : m 39 = some (.int goal))
    (q : ∀ d G', Hle P G' → G' d = some (.list ((f goal).map rowV)) → P d = none → (∀ rows : List Rw, FD P (G'.put d (.list (rows.map rowV))) dl e (fun k => if k = goal then rows else f k)) → Q (.ref d) G') :
    awp c n (.setd (.var 37) (.var 39) (.lst .nil)) m Q G := by
  obtain ⟨es, ks, x⟩ := hF
  walk_at "eb"
  refine ⟨⟨dl, rfl, .inl ⟨_, x.dict⟩⟩, ?_⟩
  walk_at "eb"
  refine q_newList (by simp) fun d hd => ?_
  have hl := x.len
  refine ⟨dl, goal, es, rfl, rfl, put_get x.dict hd, by lia, ?_⟩
  by_cases hm : goal ∈ ks
  · have x' := x.mono ((Hle.refl G).put hd (.list []))
    obtain ⟨d2, a, b, cc⟩ := x'.ent goal hm
    rw [a]
    exact q d2 _ (hP.put (hP.non hd) _) b cc fun rows => ⟨es, ks, x'.upd a hm rows⟩
  · have hn := lk_none (fun z => hm (x.key.mp z))
    rw [hn]
    have x' := x.new hP hg hm hd
    have hlk : lk (es ++ [((goal : Int), V.ref d)]) goal = some (.ref d) := by
      rw [lk_append (fun z => hm (x.key.mp z)), if_pos rfl]
    have nd : d ≠ dl := (ne_of x.dict hd).symm
    refine q d _ ((hP.put (hP.non hd) _).put x.own _) ?_ (hP.non hd) fun rows => ⟨_, _, x'.upd hlk (by simp) rows⟩
    rw [x.out goal hm]
    exact put_get' hp_self nd
theorem asg_two' {i j : Nat} {a b : V} : asgT (.two i j) (.tup [a, b]) m = some ((m.put i a).put j b) := rfl
set_option tactic.hygienic true in
theorem l_apply {dr de da : Addr} {res : List (Int × V)} {E : List (Nat × Addr)} {h : Nat → List Tw} {A : List Rw} {M spot : Nat}
    (hF : FD P G dl e f) (hP : Hle P G) (hfl : ∀ g, (f g).length ≤ M) (hr : P dr = some (.dictI res)) (hlr : lk res spot = some (.ref da)) (ga : P da = some (.list (A.map rowV)))
    (gE : P de = some (.list (E.map fun p => V.tup [.int p.1, .ref p.2]))) (hE : ∀ p ∈ E, P p.2 = some (.list ((h p.1).map fun o => V.ref o.1)) ∧ p.1 ≤ e) (hn : (E.map (fun zz => zz.1)).Nodup) (hh : ∀ g, g ∉ E.map (fun zz => zz.1) → h g = [])
    (he : e ≤ 100) (hM : M ≤ 100) (hA : ∀ a ∈ A, a.1.length ≤ 100) (e36 : m 36 = some (.ref dr)) (e37 : m 37 = some (.ref dl)) (e38 : m 38 = some (.int spot)) (e43 : m 43 = some (.ref de)) (e42 : m 42 = some (.int M))
    (k : ∀ m' G', (∀ j, j ≠ 39 → j ≠ 44 → j ≠ 45 → j ≠ 46 → j ≠ 30 → m' j = m j) → FD P G' dl e (fun g => (f g ++ prods A (h g)).take M) → Hle P G' → swps c n ss SQ m' G') :
    swps c n (.cons ir_apply ss) SQ m G := by
  refine w_forL de (E.map fun p => V.tup [.int p.1, .ref p.2]) (fun i m' G => (∀ j, j ≠ 39 → j ≠ 44 → j ≠ 45 → j ≠ 46 → j ≠ 30 → m' j = m j) ∧ Hle P G ∧ FD P G dl e (fun g => if g ∈ (E.take i).map (fun zz => zz.1) then (f g ++ prods A (h g)).take M else f g)) (fun K hK => ?_) (fun i m' G hI => hI.2.1 _ _ gE) ?_ ?_
  · walk_at "eb"
    exact ⟨rfl, hP _ _ gE, fun zz zz zz zz zz zz => rfl, hP, by simpa using hF⟩
  · rintro K i v m' G hK hKr hv ⟨hm, hP, hF⟩
    rw [List.getElem?_map] at hv
    obtain ⟨⟨goal, db⟩, hp, rfl⟩ := Option.map_eq_some_iff.mp hv
    obtain ⟨gb, hge⟩ := hE _ (List.mem_of_getElem? hp)
    simp only at gb hge
    refine ⟨_, asg_two', ?_⟩
    have hnot : goal ∉ (E.take i).map (fun zz => zz.1) := by
      intro hmem
      obtain ⟨hlt, ep⟩ := List.getElem?_eq_some_iff.mp hp
      have hd : E = E.take i ++ E.drop i := (List.take_append_drop i E).symm
      rw [hd, List.map_append, List.nodup_append] at hn
      refine hn.2.2 goal hmem goal ?_ rfl
      rw [List.drop_eq_getElem_cons hlt, ep]; simp
    have e37' : m' 37 = _ := (hm 37 (by decide) (by decide) (by decide) (by decide) (by decide)).trans e37
    have e36' : m' 36 = _ := (hm 36 (by decide) (by decide) (by decide) (by decide) (by decide)).trans e36
    have e38' : m' 38 = _ := (hm 38 (by decide) (by decide) (by decide) (by decide) (by decide)).trans e38
    have e42' : m' 42 = _ := (hm 42 (by decide) (by decide) (by decide) (by decide) (by decide)).trans e42
    refine w_asg ?_
    refine w_setF (goal := goal) hF hP hge he (by walk_at "lo") (by walk_at "lo") fun d G2 hP2 gd hPd hupd => ?_
    rw [if_neg hnot] at gd
    have hG2 : G2 = G2.put d (.list ((f goal).map rowV)) := by
      funext a
      by_cases q : a = d
      · subst q; rw [Hp.put_self, gd]
      · rw [Hp.put_ne q]
    rw [hG2]
    refine l_pairs (dr := dr) (da := da) (db := db) (es := res) (A := A) (B := h goal) (M := M) (s := spot) (by walk_at "lo") (by walk_at "lo") (by walk_at "lo") (by walk_at "lo") (by walk_at "lo") (hP2 _ _ hr) hlr (hP2 _ _ ga) (hP2 _ _ gb) (ne_of hr hPd) (ne_of ga hPd) (ne_of gb hPd) hM hA (hfl goal) fun m2 hm2 => ?_
    refine w_nil ?_
    refine hK _ _ ⟨fun j h1 h2 h3 h4 h5 => ?_, hP2.put hPd _, ?_⟩
    · rw [hm2 j h4 h5]
      show Lo.put _ 45 _ j = _
      unfold Lo.put
      rw [if_neg h3, if_neg h2, if_neg h1]
      exact hm j h1 h2 h3 h4 h5
    · have hfun : (fun g => if g ∈ (E.take (i + 1)).map (fun zz => zz.1) then (f g ++ prods A (h g)).take M else f g) = fun k => if k = goal then (f goal ++ prods A (h goal)).take M else if k ∈ (E.take i).map (fun zz => zz.1) then (f k ++ prods A (h k)).take M else f k := by
        funext g
        rw [List.take_add_one, hp, List.map_append]
        simp only [Option.toList_some, List.map_cons, List.map_nil, List.mem_append, List.mem_singleton]
        by_cases q : g = goal
        · subst q; simp
        · simp [q]
      rw [hfun]
      exact hupd _
  · rintro m' G ⟨hm, hP, hF⟩
    rw [List.length_map, List.take_length] at hF
    refine k m' G hm ?_ hP
    have : (fun g => (f g ++ prods A (h g)).take M) = fun g => if g ∈ E.map (fun zz => zz.1) then (f g ++ prods A (h g)).take M else f g := by
      funext g
      split
      · rfl
      · rename_i hg
        rw [hh g hg]
        have : prods A [] = [] := by simp [prods]
        rw [this, List.append_nil, List.take_of_length_le (hfl g)]
    rw [this]; exact hF
end
end Mine
set_option tactic.hygienic false
open PySem PySem.W PySem.Calls PyProof PyProof.Rows PySem.SeqAt
set_option maxRecDepth 100000
set_option maxHeartbeats 4000000
namespace Mine
noncomputable abbrev ir_ends1 : S := .iff (.and (.cmp .Lt (.var 38) (.var 34)) (.cmp .Eq (.sub (.var 32) (.var 38)) (.var 13))) (.cons
        (.asg 16 (.sub (.attr (.var 5) "names") (.var 13))) (.cons
        (.expr (.append (.var 43) (.tup (.cons (.bin .Add (.var 38) (.lit (.int 1))) (.cons (.lst (.cons (.call (.glob "Leaf" (.fn (.ref 206))) (.cons (.call (.glob "Token" (.fn (.ref 93))) (.cons (.var 16) (.cons (.var 16) (.cons (.lit .none) .nil)))) .nil)) .nil)) .nil))))) .nil)) .nil
noncomputable abbrev ir_ends2 : S := .for (.one 39) (.range2 (.var 38) (.bin .Add (.var 34) (.lit (.int 1)))) (.cons
        (.iff (.cmp .In (.tup (.cons (.var 13) (.cons (.var 38) (.cons (.var 39) .nil)))) (.var 41)) (.cons
          (.expr (.append (.var 43) (.tup (.cons (.var 39) (.cons (.sub (.var 41) (.tup (.cons (.var 13) (.cons (.var 38) (.cons (.var 39) .nil))))) .nil))))) .nil) .nil) .nil)
noncomputable def TF (H : Hp) (tes : List (List Int × V)) (tf : Nat → Nat → List Tw) : Prop := ∀ (s : Int) (i j : Nat), (s = 6 ∧ ∃ d, lk tes [s, i, j] = some (.ref d) ∧ H d = some (.list ((tf i j).map fun o => V.ref o.1))) ∨ (lk tes [s, i, j] = none ∧ (s = 6 → tf i j = []))
structure Cell (ar tm : Nat → Nat) (H : Hp) (y : List Str) (i j M : Nat) (k : Int) (ts : List Tw) : Prop where
  num : (ts.length : Int) = min (M : Int) k
  one : ∀ o ∈ ts, RowOk ar tm H y i j 1 0 ([o.1], o.2)
  nod : (ts.map tkey).Nodup
theorem Cell.le {ar tm : Nat → Nat} {H H' : Hp} (h : Hle H H') {y : List Str} {i j M : Nat} {k : Int} {ts : List Tw} (x : Cell ar tm H y i j M k ts) : Cell ar tm H' y i j M k ts := ⟨x.num, fun o ho => (x.one o ho).le h, x.nod⟩
noncomputable def hhT (tf : Nat → Nat → List Tw) (sy : Int) (spot t : Nat) (lp : Nat → List Tw) (g : Nat) : List Tw := lp g ++ (if sy = 6 ∧ spot ≤ g ∧ g < spot + t then tf spot g else [])
noncomputable def nw (G G' : Hp) (d : Addr) : Hp := fun a => if G a = none ∧ a ≠ d then G' a else none
theorem nw_put (G G' : Hp) (d : Addr) (o : O) : nw G (G'.put d o) d = nw G G' d := by
  funext a
  unfold nw Hp.put
  by_cases q : a = d
  · simp [q]
  · simp [q]
theorem nw_le (G G' : Hp) (d : Addr) : Hle (nw G G' d) G' := fun a o e => by
  unfold nw at e
  split at e
  · exact e
  · cases e
theorem nw_get {G G' : Hp} {d a : Addr} {o : O} (h0 : G a = none) (h : G' a = some o) (n : a ≠ d) : nw G G' d a = some o := by
  unfold nw; rw [if_pos ⟨h0, n⟩]; exact h
noncomputable def wo (G : Hp) (d : Addr) : Hp := fun a => if a = d then none else G a
theorem wo_le (G : Hp) (d : Addr) : Hle (wo G d) G := fun a o e => by
  unfold wo at e
  split at e
  · cases e
  · exact e
theorem wo_put (G : Hp) (d : Addr) (o : O) : wo (G.put d o) d = wo G d := by
  funext a
  unfold wo Hp.put
  by_cases q : a = d
  · simp [q]
  · simp [q]
set_option tactic.hygienic true in
theorem wo_mono {G G' : Hp} (h : Hle G G') (d : Addr) : Hle (wo G d) (wo G' d) := fun a o e => by
  unfold wo at e ⊢
  split at e
  · cases e
  · rename_i q; rw [if_neg q]; exact h _ _ e
noncomputable def mx (B H G : Hp) : Hp := fun a => if B a = none ∧ H a ≠ none then none else G a
set_option tactic.hygienic true in
theorem mx_mono {B H G G' : Hp} (h : Hle G G') : Hle (mx B H G) (mx B H G') := fun a o e => by
  unfold mx at e ⊢
  split at e
  · cases e
  · rename_i q; rw [if_neg q]; exact h _ _ e
theorem mx_le (B H G : Hp) : Hle (mx B H G) G := fun a o e => by
  unfold mx at e
  split at e
  · cases e
  · exact e
theorem mx_base {B H G : Hp} (h : Hle B G) : Hle B (mx B H G) := fun a o e => by
  unfold mx; rw [if_neg (fun z => by rw [e] at z; exact absurd z.1 (by simp))]; exact h _ _ e
theorem mx_new {B H G : Hp} {a : Addr} {o : O} (h0 : H a = none) (e : G a = some o) : mx B H G a = some o := by
  unfold mx; rw [if_neg (fun z => z.2 h0)]; exact e
theorem wo_get {G : Hp} {d a : Addr} {o : O} (h : G a = some o) (n : a ≠ d) : wo G d a = some o := by
  unfold wo; rw [if_neg n]; exact h
noncomputable def LPat (H : Hp) (y : List Str) (nums : List Int) (sy : Int) (spot e : Nat) (lp : Nat → List Tw) : Prop :=
  ∀ g, if sy ≠ 6 ∧ g = spot + 1 ∧ spot < e ∧ nums[spot]? = some sy then ∃ x nm, lp g = [(x, [(x, .lf nm)])] ∧ NodeAt H x (.lf nm) [] ∧ y[spot]? = some nm else lp g = []
set_option tactic.hygienic true in
theorem LPat.le {H H' : Hp} (h : Hle H H') {y : List Str} {nums : List Int} {sy : Int} {spot e : Nat} {lp : Nat → List Tw} (x : LPat H y nums sy spot e lp) : LPat H' y nums sy spot e lp := fun g => by
  have := x g
  split
  · rename_i q
    rw [if_pos q] at this
    obtain ⟨a, nm, e1, e2, e3⟩ := this
    exact ⟨a, nm, e1, e2.le h, e3⟩
  · rename_i q
    rwa [if_neg q] at this
section
variable {c : Cx} {n : Nat} {m : Lo} {H H' P G : Hp} {Q : V → Hp → Prop} {SQ : Fl → Lo → Hp → Prop} {ss : Ss} {ws : List Bool} {L : List Rt} {g : Addr} {ar tm : Nat → Nat} {y : List Str} {nums : List Int} {tes : List (List Int × V)} {tf : Nat → Nat → List Tw} {cf : Int → Nat → Nat → Int} {M : Nat}
set_option tactic.hygienic true in
theorem l_ends (W : Wd c) (X : Wc c) (F : Fs c) (hg : GramAt H g ws L) {dw dt : Addr} (hw : H dw = some (.list (nums.map V.int))) (ht' : H dt = some (.dictT tes)) (hT : TF H tes tf) (lG : Hle H G)
    (hy : ∀ (i : Nat) (x : Int), nums[i]? = some x → ∃ nm, (namesL ws)[x.toNat]? = some nm ∧ y[i]? = some nm) (n6 : ∀ x ∈ nums, 0 ≤ x ∧ x < 6) (hM : 1 ≤ M) (c0 : ∀ s, s ≠ 6 → ∀ i j, cf s i j = 0) {spot e : Nat} (hse : spot ≤ e) (hel : e ≤ nums.length) (hnl : nums.length ≤ 20)
    {B : Hp} (hcell : ∀ i j, i ≤ j → j ≤ nums.length → Cell ar tm B y i j M (cf 6 i j) (tf i j)) {sy : Int}
    (e5 : m 5 = some (.ref g)) (e32 : m 32 = some (.ref dw)) (e34 : m 34 = some (.int e)) (e41 : m 41 = some (.ref dt)) (e13 : m 13 = some (.int sy)) (e38 : m 38 = some (.int spot))
    (k : ∀ (m' : Lo) (G' : Hp) (de : Addr) (E : List (Nat × Addr)) (h : Nat → List Tw), (∀ j, j ≠ 43 → j ≠ 16 → j ≠ 39 → m' j = m j) → m' 43 = some (.ref de) → Hle G G' → G de = none → G' de = some (.list (E.map fun p => V.tup [.int p.1, .ref p.2])) →
      (∀ p ∈ E, p.1 ≤ e ∧ (H p.2 = some (.list ((h p.1).map fun o => V.ref o.1)) ∨ (G p.2 = none ∧ G' p.2 = some (.list ((h p.1).map fun o => V.ref o.1))))) → (E.map (fun zz => zz.1)).Nodup → (∀ g, g ∉ E.map (fun zz => zz.1) → h g = []) →
      (∀ K : Hp, Hle B K → Hle (nw G G' de) K → Ends ar tm K y spot (if sy = 6 then 1 else 0) (if sy = 6 then 0 else 1) M (edge cf nums e sy spot) h) → swps c (n + 3) ss SQ m' G') :
    swps c (n + 3) (.cons (.asg 43 (.lst .nil)) (.cons ir_ends1 (.cons ir_ends2 ss))) SQ m G := by
  walk_at "eb"
  refine q_newList (by simp) fun de hde => ?_
  have hdeH := lG.non hde
  refine w_iffJ (fun m' G' => (∀ j, j ≠ 43 → j ≠ 16 → j ≠ 39 → m' j = m j) ∧ m' 43 = some (.ref de) ∧ Hle G G' ∧ ∃ (E : List (Nat × Addr)) (lp : Nat → List Tw), LPat (nw G G' de) y nums sy spot e lp ∧ G' de = some (.list (E.map fun p => V.tup [.int p.1, .ref p.2])) ∧
      (∀ p ∈ E, sy ≠ 6 ∧ p.1 ≤ e ∧ (G p.2 = none ∧ p.2 ≠ de ∧ G' p.2 = some (.list ((lp p.1).map fun o => V.ref o.1)))) ∧ (E.map (fun zz => zz.1)).Nodup ∧ (∀ g, g ∉ E.map (fun zz => zz.1) → lp g = [])) (fun K hK hKr => ?_) ?_
  · have hm0 : ∀ j, j ≠ 43 → j ≠ 16 → j ≠ 39 → (m.put 43 (V.ref de)) j = m j := fun j h1 zz zz => by unfold Lo.put; rw [if_neg h1]
    have lG0 : Hle G (G.put de (.list [])) := (Hle.refl G).put hde _
    have hoff : (¬ (spot < e ∧ nums[spot]? = some sy)) → (∀ j, j ≠ 43 → j ≠ 16 → j ≠ 39 → (m.put 43 (V.ref de)) j = m j) ∧ (m.put 43 (V.ref de)) 43 = some (.ref de) ∧ Hle G (G.put de (.list [])) ∧ ∃ (E : List (Nat × Addr)) (lp : Nat → List Tw), LPat (nw G (G.put de (.list [])) de) y nums sy spot e lp ∧ (G.put de (.list [])) de = some (.list (E.map fun p => V.tup [.int p.1, .ref p.2])) ∧
      (∀ p ∈ E, sy ≠ 6 ∧ p.1 ≤ e ∧ (G p.2 = none ∧ p.2 ≠ de ∧ (G.put de (.list [])) p.2 = some (.list ((lp p.1).map fun o => V.ref o.1)))) ∧ (E.map (fun zz => zz.1)).Nodup ∧ (∀ g, g ∉ E.map (fun zz => zz.1) → lp g = []) := fun hn =>
      ⟨hm0, lo_self, lG0, [], fun zz => [], fun g => by rw [if_neg (fun h => hn h.2.2)], hp_self, by simp, List.nodup_nil, fun zz zz => rfl⟩
    walk_at "eb"
    refine q_both (fun hlt => ?_) fun hlt => ?_
    · have hlt' : spot < e := by lia
      have hsn : spot < nums.length := by lia
      walk_at "eb"
      refine q_subL (v := .int nums[spot]) (put_get (lG _ _ hw) hde) (by lia) (by lia) (by simp [hsn]) ?_
      walk_at "eb"
      refine q_both (fun heq => ?_) fun heq => ?_
      · have hns : nums[spot]? = some sy := by rw [← heq]; simp [hsn]
        have hmem := n6 sy (List.mem_of_getElem? hns)
        obtain ⟨nm, hnm, hyn⟩ := hy spot sy hns
        obtain ⟨dx, nl, rl, lv, bl, ol, ow, ic, rfs, bs0, a1, a2, a3, a4, a5, a6, a7, a8⟩ := id hg
        walk_at "eb"
        refine q_attr (put_get (lG _ _ a1) hde) (X.fld _ _ (by decide +kernel)) (v := .ref nl) (by kernel_rfl) ?_
        walk_at "eb"
        refine q_subL (v := .str nm) (put_get (lG _ _ a2) hde) hmem.1 (by lia) (by rw [List.getElem?_map, hnm]; rfl) ?_
        walk_at "eb"
        refine ⟨⟨de, _, rfl, hp_self⟩, ?_⟩
        walk_at "eb"
        refine CallOK.up (n := n + 3) (c_Token W X F fun tk dtk G1 l1 htk gtk => ?_) (nle rfl)
        walk_at "eb"
        refine CallOK.up (n := n + 3) (c_Leaf W X F gtk fun x G2 l2 hx gx => ?_) (nle rfl)
        walk_at "eb"
        refine q_newList (by simp) fun dn hdn => ?_
        walk_at "eb"
        refine ⟨by simp, ?_⟩
        have g2de : G2 de = some (.list []) := l2 _ _ (l1 _ _ hp_self)
        have nde : de ≠ dn := ne_of g2de hdn
        refine q_append (put_get' g2de nde) (by simp) ?_
        refine ⟨rfl, ?_⟩
        walk_at "eb"
        have lG2 : Hle G G2 := (lG0.trans l1).trans l2
        have lG3 := (lG2.put (lG2.non hdn) (.list [V.ref x])).put hde (.list ([] ++ [V.tup [V.int (spot + 1), V.ref dn]]))
        have htkde : tk ≠ de := (ne_of (hp_self (H := G)) htk).symm
        have htkG : G tk = none := put_non htk
        have g2tk := l2 _ _ gtk
        have hnew : ∀ {a : Addr} {o : O}, G1 a = none → G2 a = some o → ((G2.put dn (.list [V.ref x])).put de (.list ([] ++ [V.tup [V.int (spot + 1), V.ref dn]]))) a = some o := fun {a o} h1 h2 =>
          put_get' (put_get h2 hdn) (by rintro rfl; rw [l1 _ _ hp_self] at h1; cases h1)
        have gx3 := gx (nw G ((G2.put dn (.list [V.ref x])).put de (.list ([] ++ [V.tup [V.int (spot + 1), V.ref dn]]))) de) (fun a o h1 h2 => nw_get ((lG0.trans l1).non h1) (hnew h1 h2) (by rintro rfl; rw [l1 _ _ hp_self] at h1; cases h1)) (nw_get htkG (put_get' (put_get g2tk hdn) htkde) htkde)
        refine ⟨fun j h1 h2 h3 => ?_, by walk_at "lo", lG3, [(spot + 1, dn)], fun g => if g = spot + 1 then [(x, [(x, .lf nm)])] else [], fun g => ?_, ?_, ?_, ?_, ?_⟩
        · show Lo.put _ 16 _ j = _
          unfold Lo.put
          rw [if_neg h2, if_neg h1]
        · split
          · rename_i q
            obtain ⟨_, rfl, _⟩ := q
            exact ⟨x, nm, if_pos rfl, gx3, hyn⟩
          · rename_i q
            exact if_neg fun h => q ⟨by lia, h, hlt', hns⟩
        · rw [hp_self]; rfl
        · intro p hp
          simp only [List.mem_singleton] at hp
          subst hp
          refine ⟨by lia, by lia, lG2.non hdn, nde.symm, ?_⟩
          simp only [if_true]
          rw [Hp.put_ne nde.symm, Hp.put_self]; rfl
        · simp
        · intro g hg
          simp only [List.map_cons, List.map_nil, List.mem_singleton] at hg
          exact if_neg hg
      · walk_at "eb"
        refine hoff fun h => heq ?_
        obtain ⟨_, h⟩ := h
        rw [List.getElem?_eq_getElem hsn] at h
        simpa using h
    · walk_at "eb"
      refine q_both0 ?_
      walk_at "eb"
      exact hoff fun h => hlt (by lia)
  · rintro m1 G1 ⟨hm1, e43, l1, E0, lp, hlp, gde, hE0, hn0, hE0h⟩
    have f5 : m1 5 = _ := (hm1 5 (by decide) (by decide) (by decide)).trans e5
    have f34 : m1 34 = _ := (hm1 34 (by decide) (by decide) (by decide)).trans e34
    have f38 : m1 38 = _ := (hm1 38 (by decide) (by decide) (by decide)).trans e38
    have hlp6 : sy = 6 → ∀ g, lp g = [] := fun h g => by
      have := hlp g
      rwa [if_neg (fun z => z.1 h)] at this
    refine w_forR spot ((e : Int) + 1) (fun t m' G' => (∀ j, j ≠ 43 → j ≠ 16 → j ≠ 39 → m' j = m j) ∧ m' 43 = some (.ref de) ∧ Hle G G' ∧ LPat (nw G G' de) y nums sy spot e lp ∧ ∃ (E : List (Nat × Addr)), G' de = some (.list (E.map fun p => V.tup [.int p.1, .ref p.2])) ∧
      (∀ p ∈ E, p.1 ≤ e ∧ (sy = 6 → p.1 < spot + t) ∧ (H p.2 = some (.list ((hhT tf sy spot t lp p.1).map fun o => V.ref o.1)) ∨ (G p.2 = none ∧ p.2 ≠ de ∧ G' p.2 = some (.list ((hhT tf sy spot t lp p.1).map fun o => V.ref o.1))))) ∧ (E.map (fun zz => zz.1)).Nodup ∧ (∀ g, g ∉ E.map (fun zz => zz.1) → hhT tf sy spot t lp g = [])) (fun K hK => ?_) ?_ ?_
    · walk_at "eb"
      have hh0 : ∀ g, hhT tf sy spot 0 lp g = lp g := fun g => by unfold hhT; rw [if_neg (by lia), List.append_nil]
      refine ⟨_, _, rfl, rfl, ⟨by lia, by lia, by lia, by lia⟩, hK _ _ ⟨ rfl, hm1, e43, l1, hlp, E0, gde, fun p hp => ?_, hn0, fun g hg => by rw [hh0]; exact hE0h g hg⟩⟩
      obtain ⟨h1, h2, h3⟩ := hE0 p hp
      exact ⟨h2, fun h => absurd h h1, .inr (by rw [hh0]; exact h3)⟩
    · rintro K t m2 G2 hK hKr ht ⟨hm2, e43, l2, hlp2, E, gde, hE, hn, hEh⟩
      have hte : spot + t ≤ e := by lia
      have g38 : m2 38 = _ := (hm2 38 (by decide) (by decide) (by decide)).trans e38
      have g13 : m2 13 = _ := (hm2 13 (by decide) (by decide) (by decide)).trans e13
      have g41 : m2 41 = _ := (hm2 41 (by decide) (by decide) (by decide)).trans e41
      have e1 : (spot : Int) + (t : Int) = ((spot + t : Nat) : Int) := by lia
      refine ⟨_, asg_one, ?_⟩
      rw [e1]
      have hm2' : ∀ j, j ≠ 43 → j ≠ 16 → j ≠ 39 → (m2.put 39 (V.int ((spot + t : Nat) : Int))) j = m j := fun j h1 h2 h3 => by
        show Lo.put _ 39 _ j = _
        unfold Lo.put; rw [if_neg h3]; exact hm2 j h1 h2 h3
      walk_at "eb"
      refine ⟨by simp, ?_⟩
      walk_at "eb"
      have gt2 : G2 dt = some (.dictT tes) := l2 _ _ (lG _ _ ht')
      constructor; constructor; refine ⟨tes, [sy, (spot : Int), ((spot + t : Nat) : Int)], gt2, rfl, ?_⟩
      walk_at "eb"
      have hsame : ∀ g, (sy = 6 → g = spot + t → tf spot g = []) → hhT tf sy spot (t + 1) lp g = hhT tf sy spot t lp g := fun g hg => by
        unfold hhT
        congr 1
        by_cases q : sy = 6 ∧ g = spot + t
        · rw [if_pos (by lia), if_neg (by lia)]
          exact hg q.1 q.2
        · by_cases q2 : sy = 6 ∧ spot ≤ g ∧ g < spot + t
          · rw [if_pos q2, if_pos (by lia)]
          · rw [if_neg q2, if_neg (by lia)]
      rcases hT sy spot (spot + t) with ⟨h6, d, hlk, hd⟩ | ⟨hlk, htf⟩
      · rw [hlk]
        refine q_both1 ?_
        walk_at "eb"
        refine ⟨⟨de, _, rfl, gde⟩, ?_⟩
        walk_at "eb"
        refine ⟨by simp, ?_⟩
        constructor; refine ⟨tes, [sy, (spot : Int), ((spot + t : Nat) : Int)], _, gt2, rfl, hlk, ?_⟩
        walk_at "eb"
        refine ⟨by simp, ?_⟩
        have hEl : E.length ≤ 1000 := by
          have h1 : E.length = (E.map (fun zz => zz.1)).length := by simp
          have hp := (List.perm_ext_iff_of_nodup hn (nodup_filter (p := fun k => decide (k ∈ E.map (fun zz => zz.1))) (List.nodup_range (n := e + 1)))).mpr fun a => by
            simp only [List.mem_filter, List.mem_range, decide_eq_true_eq]
            refine ⟨fun h => ⟨?_, h⟩, fun h => h.2⟩
            obtain ⟨p, hp, rfl⟩ := List.mem_map.mp h
            have := (hE p hp).1; lia
          have h2 := hp.length_eq
          have h3 := List.length_filter_le (fun k => decide (k ∈ E.map (fun zz => zz.1))) (List.range (e + 1))
          simp only [List.length_range] at h3
          lia
        refine q_append gde (by rw [List.length_map]; lia) ?_
        refine ⟨rfl, ?_⟩
        walk_at "eb"
        have hdde : d ≠ de := by rintro rfl; rw [hdeH] at hd; cases hd
        refine ⟨hm2', by walk_at "lo", l2.put hde _, by rw [nw_put]; exact hlp2, E ++ [(spot + t, d)], by rw [hp_self]; simp, fun p hp => ?_, ?_, fun g hg => ?_⟩
        · rcases List.mem_append.mp hp with hp | hp
          · obtain ⟨h1, h2, h3⟩ := hE p hp
            have h2' := h2 h6
            rw [hsame p.1 (fun zz h => absurd h (by lia))]
            refine ⟨h1, fun zz => by lia, ?_⟩
            rcases h3 with h3 | ⟨h3, h4, h5⟩
            · exact .inl h3
            · exact .inr ⟨h3, h4, put_get' h5 h4⟩
          · simp only [List.mem_singleton] at hp
            subst hp
            refine ⟨hte, fun zz => by lia, .inl ?_⟩
            have : hhT tf sy spot (t + 1) lp (spot + t) = tf spot (spot + t) := by
              unfold hhT
              rw [hlp6 h6, if_pos ⟨h6, by lia, by lia⟩]; rfl
            rw [this]; exact hd
        · rw [List.map_append]
          refine nodup_app hn (by simp) fun a ha => ?_
          simp only [List.map_cons, List.map_nil, List.mem_singleton]
          rintro rfl
          obtain ⟨p, hp, hpa⟩ := List.mem_map.mp ha
          have := (hE p hp).2.1 h6
          lia
        · rw [List.map_append, List.mem_append] at hg
          simp only [List.map_cons, List.map_nil, List.mem_singleton, not_or] at hg
          rw [hsame g (fun zz h => absurd h hg.2)]
          exact hEh g hg.1
      · rw [hlk]
        refine q_both0 ?_
        walk_at "eb"
        have hs : ∀ g, hhT tf sy spot (t + 1) lp g = hhT tf sy spot t lp g := fun g => hsame g fun h6 hg => by rw [hg]; exact htf h6
        refine ⟨hm2', by walk_at "lo", l2, hlp2, E, gde, fun p hp => ?_, hn, fun g hg => by rw [hs]; exact hEh g hg⟩
        obtain ⟨h1, h2, h3⟩ := hE p hp
        rw [hs]
        exact ⟨h1, fun h => by have := h2 h; lia, h3⟩
    · rintro m2 G2 ⟨hm2, e43, l2, hlp2, E, gde, hE, hn, hEh⟩
      have het : ((e : Int) + 1 - spot).toNat = e + 1 - spot := by lia
      rw [het] at hE hEh
      refine k m2 G2 de E _ hm2 e43 l2 hde gde (fun p hp => ?_) hn hEh fun K hK1 hK2 => ?_
      · obtain ⟨h1, _, h3⟩ := hE p hp
        refine ⟨h1, ?_⟩
        rcases h3 with h3 | ⟨h3, _, h5⟩
        · exact .inl h3
        · exact .inr ⟨h3, h5⟩
      · by_cases h6 : sy = 6
        · subst h6
          have hns : ∀ g, hhT tf 6 spot (e + 1 - spot) lp g = if spot ≤ g ∧ g ≤ e then tf spot g else [] := fun g => by
            unfold hhT
            rw [hlp6 rfl, List.nil_append]
            by_cases q : spot ≤ g ∧ g ≤ e
            · rw [if_pos q, if_pos (by lia)]
            · rw [if_neg q, if_neg (by lia)]
          have hedge : ∀ g, edge cf nums e 6 spot g = if spot ≤ g ∧ g ≤ e then cf 6 spot g else 0 := fun g => by
            unfold edge
            rw [if_neg, Int.zero_add]
            rintro ⟨_, _, h⟩
            have := n6 6 (List.mem_of_getElem? h)
            lia
          refine ⟨fun g => ?_, fun g o ho => ?_, fun g => ?_⟩
          · rw [hns, hedge]
            split
            · rename_i q
              exact (hcell spot g q.1 (by lia)).num
            · simp only [List.length_nil]; lia
          · rw [hns] at ho
            split at ho
            · rename_i q
              exact ((hcell spot g q.1 (by lia)).one o ho).le hK1
            · simp at ho
          · rw [hns]
            split
            · rename_i q
              exact (hcell spot g q.1 (by lia)).nod
            · exact List.nodup_nil
        · have hns : ∀ g, hhT tf sy spot (e + 1 - spot) lp g = lp g := fun g => by
            unfold hhT
            rw [if_neg (fun h => h6 h.1), List.append_nil]
          rw [if_neg h6, if_neg h6]
          have hlg : ∀ g, (lp g = [] ∧ edge cf nums e sy spot g = 0) ∨ (g = spot + 1 ∧ edge cf nums e sy spot g = 1 ∧ ∃ x nm, lp g = [(x, [(x, .lf nm)])] ∧ NodeAt K x (.lf nm) [] ∧ y[spot]? = some nm) := fun g => by
            have := hlp2.le hK2 g
            unfold edge
            rw [c0 sy h6]
            split at this
            · rename_i q
              refine .inr ⟨q.2.1, ?_, this⟩
              rw [if_pos ⟨q.2.1, q.2.2.1, q.2.2.2⟩]; simp
            · rename_i q
              refine .inl ⟨this, ?_⟩
              rw [if_neg (fun h => q ⟨h6, h.1, h.2.1, h.2.2⟩)]; simp
          refine ⟨fun g => ?_, fun g o ho => ?_, fun g => ?_⟩
          · rw [hns]
            rcases hlg g with ⟨h1, h2⟩ | ⟨_, h2, x, nm, h1, _⟩
            · rw [h1, h2, List.length_nil]; lia
            · rw [h1, h2, List.length_singleton]; lia
          · rw [hns] at ho
            rcases hlg g with ⟨h1, h2⟩ | ⟨rfl, h2, x, nm, h1, h3, h4⟩
            · rw [h1] at ho; simp at ho
            · rw [h1] at ho
              simp only [List.mem_singleton] at ho
              subst ho
              exact RowOk.leaf h3 h4
          · rw [hns]
            rcases hlg g with ⟨h1, h2⟩ | ⟨_, h2, x, nm, h1, _⟩
            · rw [h1]; exact List.nodup_nil
            · rw [h1]; simp
end
end Mine
set_option tactic.hygienic false
open PySem PySem.W PySem.Calls PyProof PyProof.Rows PySem.SeqAt
set_option maxRecDepth 100000
set_option maxHeartbeats 4000000
namespace Mine
noncomputable def c6 (xs : List Int) : Nat := (xs.map fun x => if x = 6 then 1 else 0).sum
noncomputable def ct (xs : List Int) : Nat := (xs.map fun x => if x = 6 then 0 else 1).sum
theorem c6_at {xs : List Int} {k : Nat} {s : Int} (h : xs[k]? = some s) : c6 (xs.take (k + 1)) = c6 (xs.take k) + (if s = 6 then 1 else 0) := by
  unfold c6; rw [List.take_add_one, h]; simp
theorem ct_at {xs : List Int} {k : Nat} {s : Int} (h : xs[k]? = some s) : ct (xs.take (k + 1)) = ct (xs.take k) + (if s = 6 then 0 else 1) := by
  unfold ct; rw [List.take_add_one, h]; simp
theorem c6_ct : ∀ xs : List Int, c6 xs + ct xs = xs.length
  | [] => rfl
  | x :: r => by
    have := c6_ct r
    simp only [c6, ct, List.map_cons, List.sum_cons, List.length_cons] at this ⊢
    split <;> lia
section
variable {c : Cx} {n : Nat} {m : Lo} {H H' P G : Hp} {Q : V → Hp → Prop} {ws : List Bool} {L : List Rt} {g : Addr} {ar tm : Nat → Nat} {y : List Str} {nums : List Int} {tes : List (List Int × V)} {tf : Nat → Nat → List Tw} {cf : Int → Nat → Nat → Int} {M : Nat}
set_option tactic.hygienic true in
theorem reach0 {b : Nat} (hM : 1 ≤ M) : Reach ar tm H y b 0 0 M (fun k => if k = b then 1 else 0) (fun k => if k = b then [([], [])] else []) := by
  refine ⟨fun g => ?_, fun g r hr => ?_, fun g => ?_⟩
  · split
    · simp only [List.length_singleton]; lia
    · simp only [List.length_nil]; lia
  · split at hr
    · rename_i q
      subst q
      simp only [List.mem_singleton] at hr
      subst hr
      exact RowOk.nil
    · simp at hr
  · split
    · simp
    · exact List.nodup_nil
set_option tactic.hygienic true in
theorem c_rows (W : Wd c) (X : Wc c) (F : Fs c) (hg : GramAt H g ws L) {dw dt : Addr} (hw : H dw = some (.list (nums.map V.int))) (ht : H dt = some (.dictT tes)) (hT : TF H tes tf)
    (hy : ∀ (i : Nat) (x : Int), nums[i]? = some x → ∃ nm, (namesL ws)[x.toNat]? = some nm ∧ y[i]? = some nm) (n6 : ∀ x ∈ nums, 0 ≤ x ∧ x < 6) (hM : 1 ≤ M) (hM2 : M ≤ 20) (c0 : ∀ s, s ≠ 6 → ∀ i j, cf s i j = 0) {b e : Nat} (hbe : b ≤ e) (hel : e ≤ nums.length) (hnl : nums.length ≤ 20)
    {B : Hp} (hBH : Hle B H) (hcell : ∀ i j, i ≤ j → j ≤ nums.length → Cell ar tm B y i j M (cf 6 i j) (tf i j)) {xs : List Int} (hxs : xs.length ≤ 10)
    (q : ∀ d H' (rows : List Rw), Hle H H' → H d = none → H' d = some (.list (rows.map rowV)) → ((rows.length : Int) = min (M : Int) (waysW cf nums b e xs e)) → (∀ r ∈ rows, RowOk ar tm (mx B H H') y b e (c6 xs) (ct xs) r) → (rows.map key).Nodup → Q (.ref d) H') :
    CallOK c (n + 4) (.fn (.ref 241)) [.ref g, .tup (xs.map V.int), .ref dw, .int b, .int e, .ref dt, .int M] Q H := by
  refine call_at W F.rows (fun env hs E => ok_rows_over W hs E) rfl ?_
  show swps c (n + 3) ir_rows_over _ (((((((noLo.put 5 (.ref g)).put 31 (.tup (xs.map V.int))).put 32 (.ref dw)).put 33 (.int b)).put 34 (.int e)).put 41 (.ref dt)).put 42 (.int M)) H
  unfold ir_rows_over
  walk_at "eb"
  refine ⟨by simp, ?_⟩
  walk_at "eb"
  refine q_newList (by simp) fun d1 hd1 => ?_
  walk_at "eb"
  refine ⟨[((b : Int), .ref d1)], rfl, by simp, by simp, fun d0 hd0 => ?_⟩
  have hd0H := put_non hd0
  have nd : d1 ≠ d0 := ne_of hp_self hd0
  refine w_forT (xs.map V.int) (fun k m' G => Hle H G ∧ m' 5 = some (.ref g) ∧ m' 32 = some (.ref dw) ∧ m' 34 = some (.int e) ∧ m' 41 = some (.ref dt) ∧ m' 42 = some (.int M) ∧ ∃ dr f P, m' 36 = some (.ref dr) ∧ Hle H P ∧ FD P G dr e f ∧ Reach ar tm (mx B H G) y b (c6 (xs.take k)) (ct (xs.take k)) M (waysW cf nums b e (xs.take k)) f) (fun K hK => ?_) ?_ ?_
  · walk_at "eb"
    refine ⟨rfl, ((Hle.refl H).put hd1 _).put hd0H _, by walk_at "lo", by walk_at "lo", by walk_at "lo", by walk_at "lo", by walk_at "lo", d0, fun k => if k = b then [([], [])] else [], H, by walk_at "lo", Hle.refl H, ⟨[((b : Int), .ref d1)], [b], hp_self, hd0H, rfl, by simp, by simpa using hbe, fun k hk => ?_, fun k hk => ?_, fun k k' d h1 h2 => ?_⟩, ?_⟩
    · simp only [List.mem_singleton] at hk; exact if_neg hk
    · simp only [List.mem_singleton] at hk
      subst hk
      refine ⟨d1, by simp [lk], ?_, hd1⟩
      rw [put_get' hp_self nd]
      simp [rowV]
    · simp only [lk] at h1 h2
      split at h1
      · split at h2
        · lia
        · cases h2
      · cases h1
    · exact reach0 hM
  · rintro K k v m' G hK hKr hv ⟨lG, e5, e32, e34, e41, e42, dr, f, P0, e36, hHP0, ⟨es, ks, hF⟩, hR⟩
    rw [List.getElem?_map] at hv
    obtain ⟨sy, hsy, rfl⟩ := Option.map_eq_some_iff.mp hv
    have hnext : waysW cf nums b e (xs.take (k + 1)) = stepW cf nums e (waysW cf nums b e (xs.take k)) sy := by
      rw [List.take_add_one, hsy]; simp [waysW]
    rw [hnext, c6_at hsy, ct_at hsy] at hK
    have hlen6 := c6_ct (xs.take k)
    have hlen6' : (xs.take k).length ≤ 10 := by rw [List.length_take]; lia
    generalize waysW cf nums b e (xs.take k) = w at hR hnext hK
    generalize c6 (xs.take k) = j6 at hR hlen6 hK
    generalize ct (xs.take k) = jt at hR hlen6 hK
    have hesl := hF.len
    refine ⟨_, asg_one, ?_⟩
    walk_at "eb"
    refine q_dct0 fun dl hdl => ?_
    have hdlH := lG.non hdl
    refine w_forE (fun H₁ l j m' G' => ∃ sk : List Nat, l = sk.map (fun (k : Nat) => V.int k) ∧ sk.Perm ks ∧ Hle G (wo H₁ dl) ∧ m' 5 = some (.ref g) ∧ m' 32 = some (.ref dw) ∧ m' 34 = some (.int e) ∧ m' 41 = some (.ref dt) ∧ m' 42 = some (.int M) ∧ m' 36 = some (.ref dr) ∧ m' 37 = some (.ref dl) ∧ m' 13 = some (.int sy) ∧
      ∃ P fl, Hle (wo H₁ dl) P ∧ Hle P G' ∧ FD P G' dl e fl ∧ Reach ar tm (mx B H P) y b (j6 + (if sy = 6 then 1 else 0)) (jt + (if sy = 6 then 0 else 1)) M (fun g => lsum ((sk.take j).map fun s => w s * edge cf nums e sy s g)) fl ∧ Tagd ar tm b jt (if sy = 6 then 1 else 0) (sk.take j) fl) (fun K hK => ?_) ?_ ?_
    · walk_at "eb"
      have hrl := put_get (x := .dictI []) hF.dict hdl
      refine ⟨dr, es, rfl, hrl, by lia, fun dk l hperm hpw hdk => ?_⟩
      have ndk : dl ≠ dk := ne_of hp_self hdk
      have hdkG := put_non hdk
      obtain ⟨sk, rfl, hsk⟩ : ∃ sk : List Nat, l = sk.map (fun (k : Nat) => (k : Int)) ∧ sk.Perm ks := by
        rw [hF.keys] at hperm
        refine ⟨l.map Int.toNat, ?_, ?_⟩
        · rw [List.map_map]
          conv => lhs; rw [← List.map_id l]
          refine List.map_congr_left fun x hx => ?_
          obtain ⟨k, _, rfl⟩ := List.mem_map.mp (hperm.mem_iff.mp hx)
          simp
        · have := hperm.map Int.toNat
          rw [List.map_map] at this
          have e1 : (Int.toNat ∘ fun (k : Nat) => (k : Int)) = id := by funext k; simp
          rw [e1, List.map_id] at this
          exact this
      have hmm : (sk.map (fun (k : Nat) => (k : Int))).map V.int = sk.map (fun (k : Nat) => V.int k) := by rw [List.map_map]; rfl
      rw [hmm]
      have hwo : Hle G (wo ((G.put dl (.dictI [])).put dk (.list (sk.map (fun (k : Nat) => V.int k)))) dl) := fun a o ea => by
        refine wo_get (put_get (put_get ea hdl) hdk) ?_
        rintro rfl; rw [hdl] at ea; cases ea
      refine hK _ _ ⟨_, _, it_list hp_self, ⟨sk, rfl, hsk, hwo, by walk_at "lo", by walk_at "lo", by walk_at "lo", by walk_at "lo", by walk_at "lo", by walk_at "lo", by walk_at "lo", by walk_at "lo", _, fun zz => [], Hle.refl _, wo_le _ _, ⟨[], [], put_get' hp_self ndk, by unfold wo; rw [if_pos rfl], rfl, List.nodup_nil, by simp, fun zz zz => rfl, by simp, by simp [lk]⟩, ⟨fun g => ?_, by simp, fun g => List.nodup_nil⟩, by simp [Tagd]⟩, ?_⟩
      · simp only [List.take_zero, List.map_nil, lsum, List.length_nil]; lia
      · rintro j m2 G2 ⟨sk2, _, _, _, _, _, _, _, _, _, _, _, P, fl, h1, h2, _⟩ a ha
        cases ha
        rw [h2 _ _ (h1 _ _ (wo_get hp_self ndk.symm)), hp_self]
    · rintro K H₁ l j v m2 G2 hK hKr hv ⟨sk, rfl, hsk, hwo, e5, e32, e34, e41, e42, e36, e37, e13, P, fl, hP1, hP2, hFl, hL, hTg⟩
      rw [List.getElem?_map] at hv
      obtain ⟨s, hs, rfl⟩ := Option.map_eq_some_iff.mp hv
      have hsks : s ∈ ks := hsk.mem_iff.mp (List.mem_of_getElem? hs)
      have hse := hF.le s hsks
      obtain ⟨da, hda, gda, _⟩ := hF.ent s hsks
      have lG2 : Hle H G2 := ((lG.trans hwo).trans hP1).trans hP2
      have lGP : Hle G P := hwo.trans hP1
      have hnotin : s ∉ sk.take j := by
        have hn : sk.Nodup := hsk.nodup_iff.mpr hF.nod
        intro hmem
        obtain ⟨hlt, ep⟩ := List.getElem?_eq_some_iff.mp hs
        have hd : sk = sk.take j ++ sk.drop j := (List.take_append_drop j sk).symm
        rw [hd, List.nodup_append] at hn
        refine hn.2.2 s hmem s ?_ rfl
        rw [List.drop_eq_getElem_cons hlt, ep]; simp
      refine ⟨_, asg_one, ?_⟩
      refine l_ends (M := M) W X F hg hw ht hT lG2 hy n6 hM c0 hse hel hnl hcell (sy := sy) (by walk_at "lo") (by walk_at "lo") (by walk_at "lo") (by walk_at "lo") (by walk_at "lo") (by walk_at "lo") fun m3 G3 de E h hm3 e43 l3 hde gde hE hEn hEh hEnds => ?_
      obtain ⟨P', hPP, hP3, hF3, hnew⟩ := hFl.grow hP2 l3
      have hdeP : P' de = some _ := hnew _ _ hde gde
      have hHP : Hle H P' := (lG.trans lGP).trans hPP
      have hnwP : Hle (nw G2 G3 de) P' := fun a o ea => by
        have h2 := nw_le _ _ _ _ _ ea
        unfold nw at ea
        split at ea
        · rename_i h1; exact hnew _ _ h1.1 ea
        · cases ea
      have hnwM : Hle (nw G2 G3 de) (mx B H P') := fun a o ea => by
        have h2 := hnwP _ _ ea
        unfold nw at ea
        split at ea
        · rename_i h1; exact mx_new (lG2.non h1.1) h2
        · cases ea
      have f36 : m3 36 = some (.ref dr) := (hm3 36 (by decide) (by decide) (by decide)).trans (by walk_at "lo")
      have f37 : m3 37 = some (.ref dl) := (hm3 37 (by decide) (by decide) (by decide)).trans (by walk_at "lo")
      have f38 : m3 38 = some (.int s) := (hm3 38 (by decide) (by decide) (by decide)).trans (by walk_at "lo")
      have f42 : m3 42 = some (.int M) := (hm3 42 (by decide) (by decide) (by decide)).trans (by walk_at "lo")
      have f5 : m3 5 = some (.ref g) := (hm3 5 (by decide) (by decide) (by decide)).trans (by walk_at "lo")
      have f32 : m3 32 = some (.ref dw) := (hm3 32 (by decide) (by decide) (by decide)).trans (by walk_at "lo")
      have f34 : m3 34 = some (.int e) := (hm3 34 (by decide) (by decide) (by decide)).trans (by walk_at "lo")
      have f41 : m3 41 = some (.ref dt) := (hm3 41 (by decide) (by decide) (by decide)).trans (by walk_at "lo")
      have f13 : m3 13 = some (.int sy) := (hm3 13 (by decide) (by decide) (by decide)).trans (by walk_at "lo")
      refine l_apply (dr := dr) (da := da) (de := de) (res := es) (E := E) (h := h) (A := f s) (M := M) (spot := s) hF3 hP3 (fun g => ?_) (hPP _ _ (lGP _ _ hF.dict)) hda (hPP _ _ (lGP _ _ gda)) hdeP (fun p hp => ?_) hEn hEh (by lia) (by lia) (fun a ha => ?_) f36 f37 f38 e43 f42 fun m4 G4 hm4 hF4 hP4 => ?_
      · have := hL.num g; lia
      · obtain ⟨h1, h2⟩ := hE p hp
        refine ⟨?_, h1⟩
        rcases h2 with h2 | ⟨h2, h3⟩
        · exact hHP _ _ h2
        · exact hnew _ _ h2 h3
      · have := (hR.row s a ha).len; lia
      · refine w_nil ?_
        have hm : ∀ i, i ≠ 39 → i ≠ 44 → i ≠ 45 → i ≠ 46 → i ≠ 30 → m4 i = m3 i := hm4
        obtain ⟨k1, k2⟩ := later_step hM (hR.le (mx_mono (lGP.trans hPP))) (hL.le (mx_mono hPP)) hTg (hEnds (mx B H P') (mx_base (hBH.trans hHP)) hnwM) hnotin
        refine hK _ _ ⟨sk, rfl, hsk, hwo, ?_, ?_, ?_, ?_, ?_, ?_, ?_, ?_, P', _, hP1.trans hPP, hP4, hF4, ?_, ?_⟩
        · rw [hm 5 (by decide) (by decide) (by decide) (by decide) (by decide)]; exact f5
        · rw [hm 32 (by decide) (by decide) (by decide) (by decide) (by decide)]; exact f32
        · rw [hm 34 (by decide) (by decide) (by decide) (by decide) (by decide)]; exact f34
        · rw [hm 41 (by decide) (by decide) (by decide) (by decide) (by decide)]; exact f41
        · rw [hm 42 (by decide) (by decide) (by decide) (by decide) (by decide)]; exact f42
        · rw [hm 36 (by decide) (by decide) (by decide) (by decide) (by decide)]; exact f36
        · rw [hm 37 (by decide) (by decide) (by decide) (by decide) (by decide)]; exact f37
        · rw [hm 13 (by decide) (by decide) (by decide) (by decide) (by decide)]; exact f13
        · have hfun : (fun g => lsum ((sk.take (j + 1)).map fun s => w s * edge cf nums e sy s g)) = fun g => lsum ((sk.take j).map fun s => w s * edge cf nums e sy s g) + w s * edge cf nums e sy s g := by
            funext g
            rw [List.take_add_one, hs]; simp [lsum_append, lsum]
          rw [hfun]; exact k1
        · rw [List.take_add_one, hs]; exact k2
    · rintro H₁ l m2 G2 ⟨sk, rfl, hsk, hwo, e5, e32, e34, e41, e42, e36, e37, e13, P, fl, hP1, hP2, hFl, hL, hTg⟩
      walk_at "eb"
      rw [List.length_map, List.take_length] at hL
      have lG2 : Hle H G2 := ((lG.trans hwo).trans hP1).trans hP2
      refine ⟨lG2, by walk_at "lo", by walk_at "lo", by walk_at "lo", by walk_at "lo", by walk_at "lo", dl, fl, P, by walk_at "lo", (lG.trans hwo).trans hP1, hFl, ?_⟩
      have hw0 : ∀ k, k ∉ sk → w k = 0 := fun k hk => by
        have h1 := hF.out k fun h => hk (hsk.mem_iff.mpr h)
        have h2 := hR.num k
        rw [h1, List.length_nil] at h2
        lia
      have hfun : stepW cf nums e w sy = fun g => lsum (sk.map fun s => w s * edge cf nums e sy s g) := by
        funext g
        unfold stepW
        refine (keysum (hsk.nodup_iff.mpr hF.nod) (fun k hk => hF.le k (hsk.mem_iff.mp hk)) fun k hk => ?_).symm
        rw [hw0 k hk, Int.zero_mul]
      rw [hfun]
      exact hL.le (mx_mono hP2)
  · rintro m' G ⟨lG, e5, e32, e34, e41, e42, dr, f, P0, e36, hHP0, ⟨es, ks, hF⟩, hR⟩
    rw [List.length_map, List.take_length] at hR
    walk_at "eb"
    refine ⟨⟨dr, rfl, .inl ⟨_, hF.dict⟩⟩, ?_⟩
    walk_at "eb"
    refine q_newList (by simp) fun dn hdn => ?_
    constructor; refine ⟨es, put_get hF.dict hdn, ?_⟩
    have lG' : Hle G (G.put dn (.list [])) := (Hle.refl G).put hdn _
    by_cases hm : e ∈ ks
    · obtain ⟨d, h1, h2, h3⟩ := hF.ent e hm
      rw [h1]
      exact q d _ (f e) (lG.trans lG') (hHP0.non h3) (lG' _ _ h2) (hR.num e) (fun r hr => (hR.row e r hr).le (mx_mono lG')) (hR.nod e)
    · rw [lk_none (fun z => hm (hF.key.mp z))]
      have hfe := hF.out e hm
      refine q dn _ [] (lG.trans lG') (lG.non hdn) hp_self ?_ (by simp) List.nodup_nil
      have := hR.num e
      rw [hfe] at this
      exact this
end
end Mine
set_option tactic.hygienic false
open PySem PySem.W PySem.Calls PyProof PyProof.Rows PySem.SeqAt
set_option maxRecDepth 100000
set_option maxHeartbeats 4000000
namespace Mine
noncomputable abbrev ir_rules : S := .for (.one 11) (.meth (.var 5) "rules_of" (.cons (.var 13) .nil)) (.cons
          (.asg 31 (.attr (.sub (.attr (.var 5) "rules") (.var 11)) "right")) (.cons
          (.for (.one 45) (.call (.glob "rows_over" (.fn (.ref 241))) (.cons (.var 5) (.cons (.var 31) (.cons (.var 32) (.cons (.var 33) (.cons (.bin .Add (.var 33) (.var 40)) (.cons (.var 41) (.cons (.var 42) .nil)))))))) (.cons
            (.expr (.append (.var 7) (.call (.glob "Tree" (.fn (.ref 171))) (.cons (.sub (.attr (.var 5) "names") (.var 13)) (.cons (.var 11) (.cons (.list (.var 45)) .nil)))))) .nil)) .nil))
structure Fo (ar tm : Nat → Nat) (K : Hp) (y : List Str) (b e : Nat) (ids : List Nat) (k : Int) (ts : List Tw) : Prop where
  num : (ts.length : Int) = k
  one : ∀ o ∈ ts, RowOk ar tm K y b e 1 0 ([o.1], o.2)
  nod : (ts.map tkey).Nodup
  tag : ∀ o ∈ ts, ∃ k0 i, tkey o = k0 ++ [i] ∧ i ∈ ids
section
variable {ar tm : Nat → Nat} {K K' : Hp} {y : List Str} {b e : Nat} {ids : List Nat} {k : Int} {ts : List Tw}
theorem Fo.nil : Fo ar tm K y b e [] 0 [] := ⟨rfl, by simp, List.nodup_nil, by simp⟩
theorem Fo.le (h : Hle K K') (x : Fo ar tm K y b e ids k ts) : Fo ar tm K' y b e ids k ts := ⟨x.num, fun o ho => (x.one o ho).le h, x.nod, x.tag⟩
theorem Fo.add (x : Fo ar tm K y b e ids k ts) {i : Nat} (hi : i ∉ ids) {rows : List Rw} {news : List Tw} (h1 : news.map tkey = rows.map fun r => key r ++ [i]) (h2 : (rows.map key).Nodup) (h3 : ∀ o ∈ news, RowOk ar tm K y b e 1 0 ([o.1], o.2)) :
    Fo ar tm K y b e (ids ++ [i]) (k + rows.length) (ts ++ news) := by
  refine ⟨?_, fun o ho => ?_, ?_, fun o ho => ?_⟩
  · have := congrArg List.length h1
    simp only [List.length_map] at this
    rw [List.length_append, this]
    have := x.num
    lia
  · rcases List.mem_append.mp ho with h | h
    · exact x.one o h
    · exact h3 o h
  · rw [List.map_append]
    refine nodup_app x.nod ?_ ?_
    · rw [h1]
      refine nodup_map_inj h2 fun r zz r' zz e => ?_
      exact List.append_cancel_right e
    · rintro q hq hq'
      obtain ⟨o, ho, rfl⟩ := List.mem_map.mp hq
      obtain ⟨k0, j, e1, hj⟩ := x.tag o ho
      rw [h1] at hq'
      obtain ⟨r, _, e2⟩ := List.mem_map.mp hq'
      rw [e1] at e2
      have := List.append_inj_right' e2 rfl
      simp only [List.cons.injEq, and_true] at this
      subst this
      exact hi hj
  · rcases List.mem_append.mp ho with h | h
    · obtain ⟨k0, j, e1, hj⟩ := x.tag o h
      exact ⟨k0, j, e1, List.mem_append_left _ hj⟩
    · have : tkey o ∈ news.map tkey := List.mem_map_of_mem h
      rw [h1] at this
      obtain ⟨r, _, e2⟩ := List.mem_map.mp this
      exact ⟨key r, i, e2.symm, by simp⟩
theorem lsum_min {M : Int} (hM : 1 ≤ M) : ∀ {l : List Int}, (∀ x ∈ l, 0 ≤ x) → 0 ≤ lsum l ∧ 0 ≤ lsum (l.map fun x => min M x) ∧ min M (lsum (l.map fun x => min M x)) = min M (lsum l)
  | [], _ => by simp [lsum]
  | x :: r, h => by
    obtain ⟨h1, h2, h3⟩ := lsum_min hM (l := r) fun y hy => h y (List.mem_cons_of_mem _ hy)
    have h4 := h x (by simp)
    simp only [List.map_cons, lsum]
    lia
end
noncomputable def arOf (ws : List Bool) (L : List Rt) (i : Nat) : Nat := match (RSof ws L)[i]? with | some p => c6 p.2 | none => 0
noncomputable def tmOf (ws : List Bool) (L : List Rt) (i : Nat) : Nat := match (RSof ws L)[i]? with | some p => ct p.2 | none => 0
theorem arity {ws : List Bool} {L : List Rt} (gl : GL ws L) {i : Nat} {p : Nat × List Int} (h : (RSof ws L)[i]? = some p) : arOf ws L i = c6 p.2 ∧ tmOf ws L i = ct p.2 ∧ 2 ≤ c6 p.2 + 2 * ct p.2 := by
  refine ⟨by unfold arOf; rw [h], by unfold tmOf; rw [h], ?_⟩
  have h1 := c6_ct p.2
  obtain ⟨_, h2, _⟩ := RS_ok gl h
  by_cases h3 : p.2.length = 1
  · have hm := List.mem_of_getElem? h
    simp only [RSof, List.mem_cons, List.mem_map] at hm
    rcases hm with rfl | ⟨r, hr, rfl⟩
    · simp at h3
    · obtain ⟨b, rfl⟩ := gl.solo r hr (by simpa using h3)
      have : symI ws (some b) ≠ 6 := by simp only [symI]; split <;> decide
      simp [ct, this]
  · lia
theorem TF.le {H H' : Hp} {tes : List (List Int × V)} {tf : Nat → Nat → List Tw} (h : Hle H H') (x : TF H tes tf) : TF H' tes tf := fun s i j => by
  rcases x s i j with ⟨a, d, b, e⟩ | r
  · exact .inl ⟨a, d, b, h _ _ e⟩
  · exact .inr r
theorem ids_nodup (L : List Rt) (s : Nat) : (idsOf L s).Nodup := by
  unfold idsOf
  split
  · simp
  · exact nodup_map_inj (g := id) (by rw [List.map_id]; exact List.nodup_range) fun a zz b zz e => by simpa using e
section
variable {c : Cx} {n : Nat} {m : Lo} {H H' P G : Hp} {Q : V → Hp → Prop} {SQ : Fl → Lo → Hp → Prop} {ss : Ss} {ws : List Bool} {L : List Rt} {g : Addr} {y : List Str} {nums : List Int} {tes : List (List Int × V)} {tf : Nat → Nat → List Tw} {cf : Int → Nat → Nat → Int} {M : Nat}
theorem l_found (W : Wd c) (X : Wc c) (F : Fs c) (hg : GramAt G g ws L) (gl : GL ws L) {dw dt : Addr} (hw : G dw = some (.list (nums.map V.int))) (ht : G dt = some (.dictT tes)) (hT : TF G tes tf)
    (hy : ∀ (i : Nat) (x : Int), nums[i]? = some x → ∃ nm, (namesL ws)[x.toNat]? = some nm ∧ y[i]? = some nm) (n6 : ∀ x ∈ nums, 0 ≤ x ∧ x < 6) (hM : 1 ≤ M) (hM2 : M ≤ 20) (c0 : ∀ s, s ≠ 6 → ∀ i j, cf s i j = 0) {b l : Nat} (hel : b + l ≤ nums.length) (hnl : nums.length ≤ 20)
    (hcell : ∀ i j, i ≤ j → j ≤ nums.length → Cell (arOf ws L) (tmOf ws L) G y i j M (cf 6 i j) (tf i j)) {s : Nat} (hs : s = 5 ∨ s = 6)
    (e5 : m 5 = some (.ref g)) (e32 : m 32 = some (.ref dw)) (e33 : m 33 = some (.int b)) (e40 : m 40 = some (.int l)) (e41 : m 41 = some (.ref dt)) (e42 : m 42 = some (.int M)) (e13 : m 13 = some (.int s))
    (k : ∀ (m' : Lo) (G' : Hp) (df : Addr) (ts : List Tw), (∀ j, j ≠ 7 → j ≠ 11 → j ≠ 31 → j ≠ 45 → m' j = m j) → m' 7 = some (.ref df) → Hle G G' → G df = none → G' df = some (.list (ts.map fun o => V.ref o.1)) →
      Fo (arOf ws L) (tmOf ws L) (wo G' df) y b (b + l) (idsOf L s) (lsum ((rightsOf ws L s).map fun r => min (M : Int) (waysW cf nums b (b + l) r (b + l)))) ts → swps c (n + 5) ss SQ m' G') :
    swps c (n + 5) (.cons (.asg 7 (.lst .nil)) (.cons ir_rules ss)) SQ m G := by
  walk_at "eb"
  refine q_newList (by simp) fun df hdf => ?_
  have hsN : ∃ nm, (namesL ws)[(s : Int).toNat]? = some nm := by
    have hNl : (namesL ws).length = 7 := by rcases gl.two with rfl | rfl <;> rfl
    have : (s : Int).toNat < (namesL ws).length := by lia
    exact ⟨_, List.getElem?_eq_getElem this⟩
  obtain ⟨nm, hnm⟩ := hsN
  obtain ⟨dx, nl, rl, lv, bl, ol, ow, ic, rfs, bs0, a1, a2, a3, a4, a5, a6, a7, a8⟩ := id hg
  refine w_forE (fun H₁ lst j m' G' => lst = rulesOf L s ∧ Hle G (wo H₁ df) ∧ Hle (wo H₁ df) (wo G' df) ∧ (∀ j, j ≠ 7 → j ≠ 11 → j ≠ 31 → j ≠ 45 → m' j = m j) ∧ m' 7 = some (.ref df) ∧
    ∃ ts : List Tw, G' df = some (.list (ts.map fun o => V.ref o.1)) ∧ Fo (arOf ws L) (tmOf ws L) (wo G' df) y b (b + l) ((idsOf L s).take j) (lsum (((rightsOf ws L s).take j).map fun r => min (M : Int) (waysW cf nums b (b + l) r (b + l)))) ts) (fun K hK => ?_) ?_ ?_
  · have lG0 : Hle G (G.put df (.list [])) := (Hle.refl G).put hdf _
    walk_at "eb"
    refine q_meth (gf := 319) (lG0 _ _ a1) (by kernel_rfl) (X.mth _ _ _ (by decide +kernel)) ?_
    walk_at "eb"
    refine CallOK.up (n := n + 2) (c_rules_of W X F (hg.le lG0) gl.few hs fun d hd => ?_) (nle rfl)
    have ndd : df ≠ d := ne_of hp_self hd
    refine hK _ _ ⟨_, _, it_list hp_self, ⟨rfl, fun a o ea => ?_, Hle.refl _, fun j h1 zz zz zz => ?_, by walk_at "lo", [], put_get hp_self hd, Fo.nil⟩, ?_⟩
    · refine wo_get (put_get (lG0 _ _ ea) hd) ?_
      rintro rfl; rw [hdf] at ea; cases ea
    · unfold Lo.put; rw [if_neg h1]
    · rintro j m' G' ⟨_, _, h, _⟩ a ha
      cases ha
      rw [wo_le _ _ _ _ (h _ _ (wo_get hp_self ndd.symm)), hp_self]
  · rintro K H₁ lst j v m1 G1 hK hKr hv ⟨rfl, hG1, hw1, hm1, e7, ts, gdf, hFo⟩
    rw [rulesOf_ids, List.getElem?_map] at hv
    obtain ⟨i, hi, rfl⟩ := Option.map_eq_some_iff.mp hv
    obtain ⟨rt, hrt, hRS, hiL⟩ := ids_at (ws := ws) hs hi
    obtain ⟨har, htm, h2⟩ := arity gl hRS
    simp only at har htm h2
    have hrl : rt.length ≤ 4 := (RS_ok gl hRS).2.2.1
    have lG1w : Hle G (wo G1 df) := hG1.trans hw1
    have lG1 : Hle G G1 := lG1w.trans (wo_le _ _)
    have hfew := gl.few
    have f5 : m1 5 = _ := (hm1 5 (by decide) (by decide) (by decide) (by decide)).trans e5
    have f32 : m1 32 = _ := (hm1 32 (by decide) (by decide) (by decide) (by decide)).trans e32
    have f33 : m1 33 = _ := (hm1 33 (by decide) (by decide) (by decide) (by decide)).trans e33
    have f40 : m1 40 = _ := (hm1 40 (by decide) (by decide) (by decide) (by decide)).trans e40
    have f41 : m1 41 = _ := (hm1 41 (by decide) (by decide) (by decide) (by decide)).trans e41
    have f42 : m1 42 = _ := (hm1 42 (by decide) (by decide) (by decide) (by decide)).trans e42
    have f13 : m1 13 = _ := (hm1 13 (by decide) (by decide) (by decide) (by decide)).trans e13
    refine ⟨_, asg_one, ?_⟩
    walk_at "eb"
    refine q_right X (hg.le lG1) hRS (by lia) (by walk_at "lo") ?_
    have hi12 : i ∉ (idsOf L s).take j := by
      have hn := ids_nodup L s
      intro hmem
      obtain ⟨hlt, ep⟩ := List.getElem?_eq_some_iff.mp hi
      have hd : idsOf L s = (idsOf L s).take j ++ (idsOf L s).drop j := (List.take_append_drop j _).symm
      rw [hd, List.nodup_append] at hn
      refine hn.2.2 i hmem i ?_ rfl
      rw [List.drop_eq_getElem_cons hlt, ep]; simp
    refine w_forE (fun H₂ lst p m' G2 => ∃ rows : List Rw, lst = rows.map rowV ∧ Hle (wo G1 df) (wo H₂ df) ∧ Hle (wo H₂ df) (wo G2 df) ∧ (∀ r ∈ rows, RowOk (arOf ws L) (tmOf ws L) (wo H₂ df) y b (b + l) (c6 rt) (ct rt) r) ∧ (rows.map key).Nodup ∧ ((rows.length : Int) = min (M : Int) (waysW cf nums b (b + l) rt (b + l))) ∧
      (∀ j, j ≠ 7 → j ≠ 11 → j ≠ 31 → j ≠ 45 → m' j = m j) ∧ m' 7 = some (.ref df) ∧ m' 11 = some (.int i) ∧ ∃ news : List Tw, G2 df = some (.list ((ts ++ news).map fun o => V.ref o.1)) ∧ news.map tkey = (rows.take p).map (fun r => key r ++ [i]) ∧ ∀ o ∈ news, RowOk (arOf ws L) (tmOf ws L) (wo G2 df) y b (b + l) 1 0 ([o.1], o.2)) (fun K hK => ?_) ?_ ?_
    · walk_at "eb"
      have e1 : (b : Int) + (l : Int) = ((b + l : Nat) : Int) := by lia
      rw [e1]
      refine CallOK.up (n := n + 4) (c_rows (ar := arOf ws L) (tm := tmOf ws L) (xs := rt) W X F (hg.le lG1) (lG1 _ _ hw) (lG1 _ _ ht) (hT.le lG1) hy n6 hM hM2 c0 (by lia) hel hnl (B := wo G1 df) (wo_le _ _) (fun i j h1 h2 => (hcell i j h1 h2).le lG1w) (by lia) fun d G2 rows l2 hd gd hnum hrows hnod => ?_) (nle rfl)
      have ndd : df ≠ d := ne_of gdf hd
      refine hK _ _ ⟨_, _, it_list gd, ⟨rows, rfl, wo_mono l2 _, Hle.refl _, fun r hr => (hrows r hr).le fun a o ea => ?_, hnod, hnum, fun j h1 h2 h3 h4 => ?_, by walk_at "lo", by walk_at "lo", [], by simpa using l2 _ _ gdf, by simp, by simp⟩, ?_⟩
      · have h3 := mx_le _ _ _ _ _ ea
        refine wo_get h3 ?_
        rintro rfl
        unfold mx at ea
        rw [if_pos ⟨by unfold wo; rw [if_pos rfl], by rw [gdf]; simp⟩] at ea
        cases ea
      · show Lo.put (Lo.put m1 11 _) 31 _ j = _
        unfold Lo.put
        rw [if_neg h3, if_neg h2]; exact hm1 j h1 h2 h3 h4
      · rintro p m' G3 ⟨rows', _, _, h, _⟩ a ha
        cases ha
        rw [wo_le _ _ _ _ (h _ _ (wo_get gd ndd.symm)), gd]
    · rintro K H₂ lst p v m2 G2 hK hKr hv ⟨rows, rfl, h12, hw2, hrows, hnod, hnum, hm2, e7, e11, news, g2, hkeys, hnews⟩
      rw [List.getElem?_map] at hv
      obtain ⟨r, hr, rfl⟩ := Option.map_eq_some_iff.mp hv
      have hrok := hrows r (List.mem_of_getElem? hr)
      have hrlen := hrok.len
      have hcc := c6_ct rt
      have lG2w : Hle G (wo G2 df) := (lG1w.trans h12).trans hw2
      have lG2 : Hle G G2 := lG2w.trans (wo_le _ _)
      have f5 : m2 5 = _ := (hm2 5 (by decide) (by decide) (by decide) (by decide)).trans e5
      have f13 : m2 13 = _ := (hm2 13 (by decide) (by decide) (by decide) (by decide)).trans e13
      refine ⟨_, asg_one, ?_⟩
      walk_at "eb"
      refine ⟨⟨df, _, rfl, g2⟩, ?_⟩
      walk_at "eb"
      refine q_attr (lG2 _ _ a1) (X.fld _ _ (by decide +kernel)) (v := .ref nl) (by kernel_rfl) ?_
      walk_at "eb"
      refine q_subL (v := .str nm) (lG2 _ _ a2) (by lia) (by lia) (by rw [List.getElem?_map, hnm]; rfl) ?_
      walk_at "eb"
      refine .k0 ⟨by rw [List.length_map]; lia, fun d0 hd0 => ?_⟩
      walk_at "eb"
      have nd0 : df ≠ d0 := ne_of g2 hd0
      refine CallOK.up (n := n + 3) (c_Tree W X F hp_self (by lia) fun x G3 l3 hx hnode => ?_) (nle rfl)
      have l23 : Hle G2 G3 := ((Hle.refl G2).put hd0 _).trans l3
      have g3 := l23 _ _ g2
      have hlen : (ts ++ news).length ≤ 1000 := by
        have h1 := congrArg List.length hkeys
        simp only [List.length_map, List.length_take] at h1
        have h3 := hFo.num
        have h4 : lsum (((rightsOf ws L s).take j).map fun r => min (M : Int) (waysW cf nums b (b + l) r (b + l))) ≤ 20 * 13 := by
          have hb : ∀ ll : List (List Int), lsum (ll.map fun r => min (M : Int) (waysW cf nums b (b + l) r (b + l))) ≤ 20 * ll.length := by
            intro ll
            induction ll with
            | nil => simp [lsum]
            | cons a r ih => simp only [List.map_cons, lsum, List.length_cons]; lia
          have := hb ((rightsOf ws L s).take j)
          have h6 : ((rightsOf ws L s).take j).length ≤ 13 := by
            rw [List.length_take, rights_len]
            unfold idsOf
            split
            · simp only [List.length_singleton]; lia
            · rw [List.length_map, List.length_range]; lia
          lia
        rw [List.length_append]
        lia
      refine q_append g3 (by rw [List.length_map]; lia) ?_
      refine ⟨rfl, ?_⟩
      walk_at "eb"
      have hnodeK : NodeAt (wo G3 df) x (.nd i) r.1 := hnode (wo G3 df) fun a o h1 h2 => wo_get h2 (by rintro rfl; rw [put_get g2 hd0] at h1; cases h1)
      have hrK : RowOk (arOf ws L) (tmOf ws L) (wo G3 df) y b (b + l) (arOf ws L i) (tmOf ws L i) r := by
        rw [har, htm]; exact hrok.le (hw2.trans (wo_mono l23 df))
      have hone := hrK.node hnodeK (by rw [har, htm]; exact h2)
      refine ⟨rows, rfl, h12, ?_, hrows, hnod, hnum, fun j h1 h2 h3 h4 => ?_, by walk_at "lo", by walk_at "lo", news ++ [(x, r.2 ++ [(x, .nd i)])], ?_, ?_, ?_⟩
      · rw [wo_put]; exact hw2.trans (wo_mono l23 df)
      · show Lo.put m2 45 _ j = _
        unfold Lo.put
        rw [if_neg h4]; exact hm2 j h1 h2 h3 h4
      · rw [hp_self]; simp
      · rw [List.map_append, hkeys, List.take_add_one, hr]
        simp only [Option.toList_some, List.map_append, List.map_cons, List.map_nil]
        congr 2
        show reds _ = _
        rw [reds_append]; rfl
      · rw [wo_put]
        intro o ho
        rcases List.mem_append.mp ho with ho | ho
        · exact (hnews o ho).le (wo_mono l23 df)
        · simp only [List.mem_singleton] at ho
          subst ho
          exact hone
    · rintro H₂ lst m2 G2 ⟨rows, rfl, h12, hw2, hrows, hnod, hnum, hm2, e7, e11, news, g2, hkeys, hnews⟩
      walk_at "eb"
      rw [List.length_map, List.take_length] at hkeys
      refine ⟨rfl, hG1, (hw1.trans h12).trans hw2, hm2, e7, ts ++ news, g2, ?_⟩
      have := (hFo.le (h12.trans hw2)).add hi12 hkeys hnod hnews
      rw [List.take_add_one, hi, List.take_add_one, hrt]
      simp only [Option.toList_some, List.map_append, List.map_cons, List.map_nil, lsum_append, lsum]
      rw [← hnum, Int.add_zero]
      exact this
  · rintro H₁ lst m1 G1 ⟨rfl, hG1, hw1, hm1, e7, ts, gdf, hFo⟩
    have e1 : (rulesOf L s).length = (idsOf L s).length := by rw [rulesOf_ids, List.length_map]
    rw [e1, List.take_length, ← rights_len (ws := ws), List.take_length] at hFo
    exact k m1 G1 df ts hm1 e7 ((hG1.trans hw1).trans (wo_le _ _)) hdf gdf hFo
end
end Mine
set_option tactic.hygienic false
open PySem PySem.W PySem.Calls PyProof PyProof.Rows PySem.SeqAt
set_option maxRecDepth 100000
set_option maxHeartbeats 4000000
namespace Mine
theorem edge_nonneg {cf : Int → Nat → Nat → Int} (h : ∀ s i j, 0 ≤ cf s i j) (nums : List Int) (e : Nat) (sy : Int) (a b : Nat) : 0 ≤ edge cf nums e sy a b := by
  unfold edge
  have := h sy a b
  split <;> split <;> lia
theorem sumTo_nonneg {f : Nat → Int} (h : ∀ k, 0 ≤ f k) : ∀ n, 0 ≤ sumTo f n
  | 0 => by simp [sumTo]
  | n + 1 => by
    have h1 := sumTo_nonneg h n
    have h2 := h n
    simp only [sumTo]; lia
theorem ways_nonneg {cf : Int → Nat → Nat → Int} (h : ∀ s i j, 0 ≤ cf s i j) (nums : List Int) (b e : Nat) (xs : List Int) : ∀ g, 0 ≤ waysW cf nums b e xs g := by
  unfold waysW
  have : ∀ (xs : List Int) (w : Nat → Int), (∀ g, 0 ≤ w g) → ∀ g, 0 ≤ xs.foldl (stepW cf nums e) w g := by
    intro xs
    induction xs with
    | nil => exact fun w hw g => hw g
    | cons x r ih => exact fun w hw g => ih _ (fun g => sumTo_nonneg (fun k => Int.mul_nonneg (hw k) (edge_nonneg h _ _ _ _ _)) _) g
  refine this xs _ fun g => ?_
  split <;> lia
section
variable {G : Hp} {dt : Addr} {es : List (List Int × V)} {o' : O}
theorem NodeAt.dict (hd : G dt = some (.dictT es)) {x : Addr} {k : Kd} {ch : List Addr} (t : NodeAt G x k ch) : NodeAt (G.put dt o') x k ch := by
  obtain ⟨dx, dc, e, r⟩ := t
  have nn : ∀ {a : Addr} {o : O}, G a = some o → (∀ es, o ≠ .dictT es) → (G.put dt o') a = some o := fun h1 h2 => put_get' h1 (ne_val h1 hd (h2 es))
  refine ⟨dx, dc, nn e (by intro es h; cases h), ?_⟩
  cases k with
  | lf s => obtain ⟨a, tk, dt', b, d⟩ := r; exact ⟨a, tk, dt', nn b (by intro es h; cases h), nn d (by intro es h; cases h)⟩
  | nd i => obtain ⟨nm, b⟩ := r; exact ⟨nm, nn b (by intro es h; cases h)⟩
theorem TAts.dict (hd : G dt = some (.dictT es)) {xs : List Addr} {l : Cod} (t : TAts G xs l) : TAts (G.put dt o') xs l := by
  induction t with
  | nil => exact .nil
  | snoc a _ _ ih1 ih2 => exact .snoc (a.dict hd) ih1 ih2
theorem RowOk.dict {ar tm : Nat → Nat} (hd : G dt = some (.dictT es)) {y : List Str} {b e j t : Nat} {r : Rw} (x : RowOk ar tm G y b e j t r) : RowOk ar tm (G.put dt o') y b e j t r := ⟨x.tree.dict hd, x.cmp, x.wid, x.yl, x.small, x.len⟩
theorem Cell.dict {ar tm : Nat → Nat} (hd : G dt = some (.dictT es)) {y : List Str} {i j M : Nat} {k : Int} {ts : List Tw} (x : Cell ar tm G y i j M k ts) : Cell ar tm (G.put dt o') y i j M k ts := ⟨x.num, fun o ho => (x.one o ho).dict hd, x.nod⟩
end
section
variable {c : Cx} {n : Nat} {m : Lo} {H H' P G : Hp} {Q : V → Hp → Prop} {SQ : Fl → Lo → Hp → Prop} {ss : Ss} {ws : List Bool} {L : List Rt} {g : Addr} {nums : List Int} {c2 c3 c4 sa sb : Int} {M : Nat}
noncomputable def yOf (ws : List Bool) (nums : List Int) : List Str := nums.map fun x => ((namesL ws)[x.toNat]?).getD ⟨#[]⟩
structure TC (G : Hp) (dt : Addr) (c2 c3 c4 sa sb : Int) (ws : List Bool) (L : List Rt) (nums : List Int) (M l b k : Nat) (tes : List (List Int × V)) (tf : Nat → Nat → List Tw) : Prop where
  dict : G dt = some (.dictT tes)
  tfs : TF G tes tf
  cell : ∀ i j, i ≤ j → j ≤ nums.length → Cell (arOf ws L) (tmOf ws L) G (yOf ws nums) i j M (cfS c2 c3 c4 sa sb ws nums l b 6 i j) (tf i j)
  len : tes.length ≤ k
theorem TC.le {H H' : Hp} {dt : Addr} {l b k : Nat} {tes : List (List Int × V)} {tf : Nat → Nat → List Tw} (x : TC H dt c2 c3 c4 sa sb ws L nums M l b k tes tf) (h : Hle H H') : TC H' dt c2 c3 c4 sa sb ws L nums M l b k tes tf := ⟨h _ _ x.dict, x.tfs.le h, fun i j h1 h2 => (x.cell i j h1 h2).le h, x.len⟩
theorem TC.store {dt dn : Addr} {l b k : Nat} {tes : List (List Int × V)} {tf : Nat → Nat → List Tw} (x : TC G dt c2 c3 c4 sa sb ws L nums M l b k tes tf) (hb : b + l ≤ nums.length) {ts : List Tw} (hn : G dn = some (.list (ts.map fun o => V.ref o.1))) (hc : Cell (arOf ws L) (tmOf ws L) G (yOf ws nums) b (b + l) M (cel c2 c3 c4 sa sb ws nums b l) ts) :
    TC (G.put dt (.dictT (putI tes [6, (b : Int), ((b + l : Nat) : Int)] (.ref dn)))) dt c2 c3 c4 sa sb ws L nums M l (b + 1) (k + 1) (putI tes [6, (b : Int), ((b + l : Nat) : Int)] (.ref dn)) (fun i j => if i = b ∧ j = b + l then ts else tf i j) := by
  refine ⟨hp_self, fun s i j => ?_, fun i j h1 h2 => ?_, ?_⟩
  · rw [lk_put]
    have hk : ([s, (i : Int), (j : Int)] = [6, (b : Int), ((b + l : Nat) : Int)]) ↔ (s = 6 ∧ i = b ∧ j = b + l) := by
      simp only [List.cons.injEq, and_true]
      lia
    by_cases q : s = 6 ∧ i = b ∧ j = b + l
    · rw [if_pos (hk.mpr q)]
      refine .inl ⟨q.1, dn, rfl, ?_⟩
      rw [if_pos q.2]
      exact put_get' hn (ne_val hn x.dict (by intro h; cases h))
    · rw [if_neg (fun z => q (hk.mp z))]
      rcases x.tfs s i j with ⟨a, d, h1, h2⟩ | ⟨h1, h2⟩
      · refine .inl ⟨a, d, h1, ?_⟩
        rw [if_neg (fun z => q ⟨a, z⟩)]
        exact put_get' h2 (ne_val h2 x.dict (by intro h; cases h))
      · refine .inr ⟨h1, fun h => ?_⟩
        rw [if_neg (fun z => q ⟨h, z⟩)]
        exact h2 h
  · rw [cfS_next l b hb]
    by_cases q : i = b ∧ j = b + l
    · rw [if_pos ⟨rfl, q⟩, if_pos q, q.1, q.2]
      exact hc.dict x.dict
    · rw [if_neg (fun z => q z.2), if_neg q]
      exact (x.cell i j h1 h2).dict x.dict
  · have := putI_len tes [6, (b : Int), ((b + l : Nat) : Int)] (V.ref dn)
    have := x.len
    lia
set_option tactic.hygienic true in
theorem cfS_same (l b : Nat) (hb : b + l ≤ nums.length) (h : cel c2 c3 c4 sa sb ws nums b l = 0) : cfS c2 c3 c4 sa sb ws nums l (b + 1) = cfS c2 c3 c4 sa sb ws nums l b := by
  funext s' i' j'
  rw [cfS_next l b hb]
  split
  · rename_i q
    obtain ⟨rfl, rfl, rfl⟩ := q
    rw [h]
    unfold cfS
    rw [if_neg (by lia)]
  · rfl
theorem c_trees (W : Wd c) (X : Wc c) (F : Fs c) (hg : GramAt H g ws L) (N : Nu c2 c3 c4 sa sb ws L) {dw : Addr} (hw : H dw = some (.list (nums.map V.int))) (wo' : Wo nums) (hM : 1 ≤ M) (hM2 : M ≤ 20)
    (q : ∀ d H' (ts : List Tw), Hle H H' → H' d = some (.list (ts.map fun o => V.ref o.1)) → Cell (arOf ws L) (tmOf ws L) H' (yOf ws nums) 0 nums.length M (cel c2 c3 c4 sa sb ws nums 0 nums.length) ts → Q (.ref d) H') :
    CallOK c (n + 8) (.fn (.ref 249)) [.ref g, .ref dw, .int M] Q H := by
  refine call_at W F.trees (fun env hs E => ok_trees_of W hs E) rfl ?_
  show swps c (n + 7) ir_trees_of _ (((noLo.put 5 (.ref g)).put 32 (.ref dw)).put 42 (.int M)) H
  unfold ir_trees_of
  have gl := N.gl
  have hN6 := wo'.1
  have n6 : ∀ x ∈ nums, 0 ≤ x ∧ x < 6 := fun x hx => by have := wo'.2 x hx; lia
  have hNl : (namesL ws).length = 7 := by rcases gl.two with rfl | rfl <;> rfl
  have hy : ∀ (i : Nat) (x : Int), nums[i]? = some x → ∃ nm, (namesL ws)[x.toNat]? = some nm ∧ (yOf ws nums)[i]? = some nm := fun i x h => by
    have hx := n6 x (List.mem_of_getElem? h)
    have hlt : x.toNat < (namesL ws).length := by lia
    refine ⟨(namesL ws)[x.toNat], List.getElem?_eq_getElem hlt, ?_⟩
    unfold yOf
    rw [List.getElem?_map, h]
    simp [List.getElem?_eq_getElem hlt]
  have c0 : ∀ l b s, s ≠ 6 → ∀ i j, cfS c2 c3 c4 sa sb ws nums l b s i j = 0 := fun l b s hs i j => by unfold cfS; rw [if_neg (fun h => hs h.1)]
  walk_at "eb"
  refine CallOK.up (n := n + 6) (c_order W X F hg gl fun od G lG hod go => ?_) (nle rfl)
  walk_at "eb"
  refine ⟨rfl, fun dt hdt => ?_⟩
  have hdtH := lG.non hdt
  have noc : od ≠ dt := ne_of go hdt
  refine w_forR 0 ((nums.length : Int) + 1) (fun l m' G => Hle H G ∧ m' 5 = some (.ref g) ∧ m' 32 = some (.ref dw) ∧ m' 25 = some (.ref od) ∧ m' 41 = some (.ref dt) ∧ m' 42 = some (.int M) ∧ G od = some (.list [.int 5, .int 6]) ∧ ∃ tes tf, TC G dt c2 c3 c4 sa sb ws L nums M l 0 (10 * l) tes tf) (fun K hK => ?_) ?_ ?_
  · walk_at "eb"
    refine q_lenL (put_get (lG _ _ hw) hdt) (by rw [List.length_map]; lia) ?_
    rw [List.length_map]
    walk_at "eb"
    refine ⟨_, rfl, by lia, by lia, hK _ _ ⟨ rfl, lG.put hdtH _, by walk_at "lo", by walk_at "lo", by walk_at "lo", by walk_at "lo", by walk_at "lo", put_get go hdt, [], fun zz zz => [], hp_self, fun s i j => .inr ⟨rfl, fun zz => rfl⟩, fun i j zz zz => ?_, by simp⟩⟩
    rw [cfS_zero]
    exact ⟨(by show ((0 : Nat) : Int) = min (M : Int) 0; lia), by simp, List.nodup_nil⟩
  · rintro K l m' G hK hKr hl ⟨lG, e5, e32, e25, e41, e42, go, tes, tf, hT⟩
    have hlN : l ≤ nums.length := by lia
    refine ⟨_, asg_is (y := (l : Int)) (by lia), ?_⟩
    refine w_forR 0 ((nums.length : Int) + 1 - l) (fun b m' G => Hle H G ∧ m' 5 = some (.ref g) ∧ m' 32 = some (.ref dw) ∧ m' 25 = some (.ref od) ∧ m' 41 = some (.ref dt) ∧ m' 42 = some (.int M) ∧ m' 40 = some (.int l) ∧ G od = some (.list [.int 5, .int 6]) ∧ ∃ tes tf, TC G dt c2 c3 c4 sa sb ws L nums M l b (10 * l + b) tes tf) (fun K hK => ?_) ?_ ?_
    · walk_at "eb"
      refine q_lenL (lG _ _ hw) (by rw [List.length_map]; lia) ?_
      rw [List.length_map]
      walk_at "eb"
      exact ⟨_, rfl, by lia, by lia, hK _ _ ⟨ rfl, lG, by walk_at "lo", by walk_at "lo", by walk_at "lo", by walk_at "lo", by walk_at "lo", by walk_at "lo", go, tes, tf, hT⟩⟩
    · rintro K b m' G hK hKr hb ⟨lG, e5, e32, e25, e41, e42, e40, go, tes, tf, hT⟩
      have hbl : b + l ≤ nums.length := by lia
      refine ⟨_, asg_is (y := (b : Int)) (by lia), ?_⟩
      refine w_forL od [V.int 5, V.int 6] (fun j m' G => Hle H G ∧ m' 5 = some (.ref g) ∧ m' 32 = some (.ref dw) ∧ m' 25 = some (.ref od) ∧ m' 41 = some (.ref dt) ∧ m' 42 = some (.int M) ∧ m' 40 = some (.int l) ∧ m' 33 = some (.int b) ∧ G od = some (.list [.int 5, .int 6]) ∧ ∃ tes tf, TC G dt c2 c3 c4 sa sb ws L nums M l (if j < 2 then b else b + 1) (10 * l + b + (if j < 2 then 0 else 1)) tes tf) (fun K hK => ?_) (fun j m' G hI => hI.2.2.2.2.2.2.2.2.1) ?_ ?_
      · walk_at "eb"
        exact ⟨rfl, go, lG, by walk_at "lo", by walk_at "lo", by walk_at "lo", by walk_at "lo", by walk_at "lo", by walk_at "lo", by walk_at "lo", go, tes, tf, by simpa using hT⟩
      · rintro K j v m' G hK hKr hv ⟨lG, e5, e32, e25, e41, e42, e40, e33, go, tes, tf, hT⟩
        obtain ⟨s, hs, rfl, hsj⟩ : ∃ s : Nat, (s = 5 ∨ s = 6) ∧ v = V.int s ∧ (j = if s = 5 then 0 else 1) := by
          match j, hv with
          | 0, hv => cases hv; exact ⟨5, .inl rfl, rfl, rfl⟩
          | 1, hv => cases hv; exact ⟨6, .inr rfl, rfl, rfl⟩
          | j + 2, hv => simp at hv
        have hj2 : j < 2 := by rw [hsj]; split <;> decide
        rw [if_pos hj2, if_pos hj2] at hT
        have hms := many_of N wo' hbl hs
        refine ⟨_, asg_one, ?_⟩
        refine l_found (n := n + 2) (M := M) (y := yOf ws nums) W X F (hg.le lG) gl (lG _ _ hw) hT.dict hT.tfs hy n6 hM hM2 (c0 l b) (b := b) (l := l) hbl (by lia) hT.cell hs (by walk_at "lo") (by walk_at "lo") (by walk_at "lo") (by walk_at "lo") (by walk_at "lo") (by walk_at "lo") (by walk_at "lo") fun m2 G2 df ts hm2 e7 l2 hdf gdf hFo => ?_
        have f5 : m2 5 = some (.ref g) := (hm2 5 (by decide) (by decide) (by decide) (by decide)).trans (by walk_at "lo")
        have f32 : m2 32 = some (.ref dw) := (hm2 32 (by decide) (by decide) (by decide) (by decide)).trans (by walk_at "lo")
        have f25 : m2 25 = some (.ref od) := (hm2 25 (by decide) (by decide) (by decide) (by decide)).trans (by walk_at "lo")
        have f41 : m2 41 = some (.ref dt) := (hm2 41 (by decide) (by decide) (by decide) (by decide)).trans (by walk_at "lo")
        have f42 : m2 42 = some (.int M) := (hm2 42 (by decide) (by decide) (by decide) (by decide)).trans (by walk_at "lo")
        have f40 : m2 40 = some (.int l) := (hm2 40 (by decide) (by decide) (by decide) (by decide)).trans (by walk_at "lo")
        have f33 : m2 33 = some (.int b) := (hm2 33 (by decide) (by decide) (by decide) (by decide)).trans (by walk_at "lo")
        have f13 : m2 13 = some (.int s) := (hm2 13 (by decide) (by decide) (by decide) (by decide)).trans (by walk_at "lo")
        have hmin := (lsum_min (M := (M : Int)) (by lia) (l := (rightsOf ws L s).map fun r => waysW (cfS c2 c3 c4 sa sb ws nums l b) nums b (b + l) r (b + l)) (fun x hx => by
          obtain ⟨r, _, rfl⟩ := List.mem_map.mp hx
          exact ways_nonneg (fun s i j => (cfS_bound N hN6 l b s i j).1) _ _ _ _ _)).2.2
        rw [List.map_map, hms] at hmin
        have hnum := hFo.num
        have hnum' : (ts.length : Int) = lsum ((rightsOf ws L s).map ((fun x => min (M : Int) x) ∘ fun r => waysW (cfS c2 c3 c4 sa sb ws nums l b) nums b (b + l) r (b + l))) := hnum
        rw [← hnum'] at hmin
        clear hnum hnum' hms
        have cb := cel_bound (nums := nums) N (show l ≤ 6 by lia) b
        have lG2 := lG.trans l2
        have hT2 := hT.le l2
        have go2 := l2 _ _ go
        walk_at "eb"
        refine q_newList (by simp) fun d0 hd0 => ?_
        have lG3 := lG2.put (lG2.non hd0) (.list [])
        have l3 : Hle G2 (G2.put d0 (.list [])) := (Hle.refl G2).put hd0 _
        have gdf3 := put_get (x := .list []) gdf hd0
        have gd0 : (G2.put d0 (.list [])) d0 = some (.list []) := hp_self
        generalize G2.put d0 (.list []) = G3 at lG3 l3 gdf3 gd0 ⊢
        have hT3 := hT2.le l3
        have go3 := l3 _ _ go2
        have hFo3 := hFo.le ((wo_le _ _).trans l3)
        refine q_neEmpty gdf3 gd0 (fun hne => ?_) fun he => ?_
        · have hs6 : s = 6 := by
            rcases hs with rfl | rfl
            · rw [if_pos rfl] at hmin
              have : ts.length = 0 := by lia
              have := List.eq_nil_of_length_eq_zero this
              subst this
              exact absurd rfl hne
            · rfl
          subst hs6
          rw [if_neg (by decide)] at hmin
          have hj1 : j = 1 := hsj
          subst hj1
          walk_at "eb"
          refine q_both1 ?_
          walk_at "eb"
          have htl : ts.length ≤ 1000 := by
            have h3 := hFo.num
            have hb : ∀ ll : List (List Int), lsum (ll.map fun r => min (M : Int) (waysW (cfS c2 c3 c4 sa sb ws nums l b) nums b (b + l) r (b + l))) ≤ 20 * ll.length := by
              intro ll
              induction ll with
              | nil => simp [lsum]
              | cons a r ih => simp only [List.map_cons, lsum, List.length_cons]; lia
            have := hb (rightsOf ws L 6)
            have h6 : (rightsOf ws L 6).length ≤ 13 := by
              rw [rights_len]
              unfold idsOf
              rw [if_neg (by decide), List.length_map, List.length_range]
              have := gl.few; lia
            lia
          refine q_cutTo gdf3 (by rw [List.length_map]; lia) (by lia) fun dn hdn => ?_
          walk_at "eb"
          refine ⟨by simp, ?_⟩
          have l4 : Hle G3 (G3.put dn (.list ((ts.map fun o => V.ref o.1).take (M : Int).toNat))) := (Hle.refl G3).put hdn _
          have hT4 := hT3.le l4
          have go4 := l4 _ _ go3
          have gdn : (G3.put dn (.list ((ts.map fun o => V.ref o.1).take (M : Int).toNat))) dn = some (.list ((ts.take M).map fun o => V.ref o.1)) := by
            rw [hp_self, List.map_take]; rfl
          have lG4 := lG3.trans l4
          have hFo4 := hFo3.le l4
          generalize G3.put dn (.list ((ts.map fun o => V.ref o.1).take (M : Int).toNat)) = G4 at hT4 go4 gdn lG4 hFo4 ⊢
          have e1 : (b : Int) + (l : Int) = ((b + l : Nat) : Int) := by lia
          rw [e1]
          refine q_storeT (ks := [6, (b : Int), ((b + l : Nat) : Int)]) (by simp) hT4.dict (by have := hT4.len; lia) ?_
          walk_at "eb"
          refine ⟨lG4.put hdtH _, by walk_at "lo", by walk_at "lo", by walk_at "lo", by walk_at "lo", by walk_at "lo", by walk_at "lo", by walk_at "lo", put_get' go4 noc, _, _, hT4.store hbl gdn ⟨?_, fun o ho => hFo4.one o (List.mem_of_mem_take ho), List.Nodup.sublist (List.Sublist.map tkey (List.take_sublist _ _)) hFo4.nod⟩⟩
          rw [List.length_take]; lia
        · walk_at "eb"
          refine q_both0 ?_
          walk_at "eb"
          have hts : ts.length = 0 := by
            have := congrArg List.length he
            simpa using this
          refine ⟨lG3, by walk_at "lo", by walk_at "lo", by walk_at "lo", by walk_at "lo", by walk_at "lo", by walk_at "lo", by walk_at "lo", go3, tes, tf, ?_⟩
          rcases hs with rfl | rfl
          · have hj0 : j = 0 := hsj
            subst hj0
            exact hT3
          · have hj1 : j = 1 := hsj
            subst hj1
            rw [if_neg (by decide)] at hmin
            have hc0 : cel c2 c3 c4 sa sb ws nums b l = 0 := by lia
            rw [if_neg (by decide), if_neg (by decide)]
            refine ⟨hT3.dict, hT3.tfs, ?_, by have := hT3.len; lia⟩
            rw [cfS_same l b hbl hc0]
            exact hT3.cell
      · rintro m' G ⟨lG, e5, e32, e25, e41, e42, e40, e33, go, tes, tf, hT⟩
        walk_at "eb"
        exact ⟨lG, e5, e32, e25, e41, e42, e40, go, tes, tf, hT⟩
    · rintro m' G ⟨lG, e5, e32, e25, e41, e42, e40, go, tes, tf, hT⟩
      walk_at "eb"
      have : ((nums.length : Int) + 1 - l - 0).toNat = nums.length + 1 - l := by lia
      rw [this] at hT
      refine ⟨lG, e5, e32, e25, e41, e42, go, tes, tf, hT.dict, hT.tfs, ?_, by have := hT.len; lia⟩
      rw [← cfS_row l hlN]
      exact hT.cell
  · rintro m' G ⟨lG, e5, e32, e25, e41, e42, go, tes, tf, hT⟩
    walk_at "eb"
    refine ⟨⟨dt, rfl, .inr ⟨_, hT.dict⟩⟩, ?_⟩
    walk_at "eb"
    refine q_right0 X (hg.le lG) ?_
    walk_at "eb"
    refine q_lenL (lG _ _ hw) (by rw [List.length_map]; lia) ?_
    rw [List.length_map]
    walk_at "eb"
    refine ⟨by simp, ?_⟩
    walk_at "eb"
    refine q_newList (by simp) fun dn hdn => ?_
    have l1 : Hle G (G.put dn (.list [])) := (Hle.refl G).put hdn _
    constructor; refine ⟨tes, [6, 0, (nums.length : Int)], l1 _ _ hT.dict, rfl, ?_⟩
    have hl : (((nums.length : Int) + 1 - 0).toNat) = nums.length + 1 := by lia
    rw [hl] at hT
    have hcell := hT.cell 0 nums.length (Nat.zero_le _) (Nat.le_refl _)
    have e : cfS c2 c3 c4 sa sb ws nums (nums.length + 1) 0 6 0 nums.length = cel c2 c3 c4 sa sb ws nums 0 nums.length := by
      unfold cfS
      rw [if_pos (by lia)]; rfl
    rw [e] at hcell
    have hlk := hT.tfs 6 0 nums.length
    show Q ((lk tes [6, ((0 : Nat) : Int), (nums.length : Int)]).getD (.ref dn)) _
    rcases hlk with ⟨_, d, h1, h2⟩ | ⟨h1, h2⟩
    · rw [h1]
      exact q d _ _ (lG.trans l1) (l1 _ _ h2) (hcell.le l1)
    · rw [h1]
      rw [h2 rfl] at hcell
      exact q dn _ [] (lG.trans l1) hp_self (hcell.le l1)
end
end Mine
set_option tactic.hygienic false
open PySem PySem.W PySem.Calls PyProof PyProof.Rows PySem.SeqAt
set_option maxRecDepth 100000
set_option maxHeartbeats 4000000
namespace Mine
section
variable {c : Cx} {n : Nat} {H : Hp} {Q : V → Hp → Prop}
theorem CallOK.frame {f : V} {args : List V} {a : Addr} {l : List V} (ha : H a = some (.list l)) (h : CallOK c n f args (fun v H' => H' a = none → Q v (H'.put a (.list l))) (wo H a)) : CallOK c n f args Q H := by
  intro A s f' args' room rh rf ra
  have rh' : RH c.prog c.w c.base (wo H a) s.heap := by
    refine ⟨fun b o e => rh.obj b o (wo_le _ _ _ _ e), fun x C dx fs e => ?_, fun b o e => ?_⟩
    · have := rh.apart x C dx fs (wo_le _ _ _ _ e)
      refine wo_get this ?_
      rintro rfl
      rw [ha] at this; cases this
    · obtain ⟨h1, h2⟩ := rh.base b o e
      refine ⟨h1, ?_⟩
      unfold wo; split
      · rfl
      · exact h2
  have hwoa : wo H a a = none := by unfold wo; rw [if_pos rfl]
  have hx := rh.obj a _ ha
  obtain ⟨ob, eob, _⟩ := hx.not_still
  refine codeAny_mono (h A s f' args' room rh' rf ra) ?_
  rintro r s' ⟨v', rfl, v, H', hv, hrh, hst, hq⟩
  have hn : H' a = none := by
    cases q : H' a with
    | none => rfl
    | some o =>
      rcases hst.new a (by rw [q]; simp) with z | z
      · exact absurd hwoa z
      · rw [eob] at z; cases z
  refine ⟨v', rfl, v, H'.put a (.list l), hv, ⟨fun b o e => ?_, fun x C dx fs e => ?_, fun b o e => ?_⟩, ⟨fun b o e1 e2 n => ?_, fun b hb => ?_, hst.sta, hst.live, hst.rest, fun b l2 o e1 e2 => ?_⟩, hq hn⟩
  · by_cases q : b = a
    · subst q
      rw [Hp.put_self] at e; cases e
      exact hx.at hst.sta (fun ob e => hst.keep b ob e hwoa (fun h => h)) (fun zz zz zz h => by cases h)
    · rw [Hp.put_ne q] at e; exact hrh.obj b o e
  · by_cases q : x = a
    · subst q; rw [Hp.put_self] at e; cases e
    · rw [Hp.put_ne q] at e
      have := hrh.apart x C dx fs e
      rw [Hp.put_ne]
      · exact this
      · rintro rfl; rw [hn] at this; cases this
  · obtain ⟨h1, h2⟩ := hrh.base b o e
    refine ⟨h1, ?_⟩
    rw [Hp.put_ne]
    · exact h2
    · rintro rfl
      have := (rh.base b o e).2
      rw [ha] at this; cases this
  · refine hst.keep b o e1 ?_ n
    unfold wo; split
    · rfl
    · exact e2
  · by_cases q : b = a
    · subst q; exact .inl (by rw [ha]; simp)
    · rw [Hp.put_ne q] at hb
      rcases hst.new b hb with z | z
      · refine .inl fun z' => z ?_
        unfold wo; rw [if_neg q]; exact z'
      · exact .inr z
  · have q : b ≠ a := by rintro rfl; rw [ha] at e1; cases e1
    obtain ⟨p1, p2⟩ := hst.ro b l2 o (wo_get e1 q) e2
    exact ⟨by rw [Hp.put_ne q]; exact p1, p2⟩
end
end Mine
set_option tactic.hygienic false
open PySem PySem.W PySem.Calls PyProof PyProof.Rows PySem.SeqAt
set_option maxRecDepth 100000
set_option maxHeartbeats 4000000
namespace Mine
theorem base_ok {c2 c3 c4 sa sb : Int} {L : List Rt} (few : Few c2 c3 c4) (hs : (1 ≤ sa ∧ sa ≤ 2) ∧ 1 ≤ sb ∧ sb ≤ 2) (perm : L.Perm (baseR c2 c3 c4 sa sb)) :
    L.length ≤ 12 ∧ (∀ r ∈ L, 1 ≤ r.length ∧ r.length ≤ 4) ∧ (∀ r ∈ L, r.length = 1 → ∃ b, r = [some b]) ∧ [some false] ∈ L ∧ [some true] ∈ L := by
  obtain ⟨⟨h2, h2'⟩, ⟨h3, h3'⟩, h4, h4'⟩ := few
  have hm : ∀ r ∈ L, (r = [none, none] ∨ r = [none, none, none] ∨ r = [none, none, none, none] ∨ r = [some false] ∨ r = [some true]) := fun r hr => by
    have := perm.mem_iff.mp hr
    simp only [baseR, List.mem_append, List.mem_replicate] at this
    rcases this with ((⟨_, h⟩ | ⟨_, h⟩) | ⟨_, h⟩) | ⟨_, h⟩ | ⟨_, h⟩
    · exact .inl h
    · exact .inr (.inl h)
    · exact .inr (.inr (.inl h))
    · exact .inr (.inr (.inr (.inl h)))
    · exact .inr (.inr (.inr (.inr h)))
  refine ⟨?_, fun r hr => ?_, fun r hr hl => ?_, ?_, ?_⟩
  · rw [perm.length_eq]
    simp only [baseR, List.length_append, List.length_replicate]
    exact Nat.le_trans (Nat.add_le_add (Nat.add_le_add (Nat.add_le_add (Int.toNat_le.mpr h2' : c2.toNat ≤ 2) (Int.toNat_le.mpr h3' : c3.toNat ≤ 2)) (Int.toNat_le.mpr h4' : c4.toNat ≤ 1)) (Nat.add_le_add (Int.toNat_le.mpr hs.1.2 : sa.toNat ≤ 2) (Int.toNat_le.mpr hs.2.2 : sb.toNat ≤ 2))) (by decide)
  · rcases hm r hr with rfl | rfl | rfl | rfl | rfl <;> decide
  · rcases hm r hr with rfl | rfl | rfl | rfl | rfl
    · simp at hl
    · simp at hl
    · simp at hl
    · exact ⟨_, rfl⟩
    · exact ⟨_, rfl⟩
  · rw [perm.mem_iff]
    simp only [baseR, List.mem_append, List.mem_replicate]
    exact .inr (.inl ⟨by lia, trivial⟩)
  · rw [perm.mem_iff]
    simp only [baseR, List.mem_append, List.mem_replicate]
    exact .inr (.inr ⟨by lia, trivial⟩)
noncomputable def numsOf (ws w : List Bool) : List Int := w.map fun b => symI ws (some b)
theorem prodS_snoc (sa sb : Int) (b : Bool) : ∀ w : List Bool, prodS sa sb (w ++ [b]) = prodS sa sb w * (if b then sb else sa)
  | [] => by simp [prodS]
  | x :: r => by simp only [List.cons_append, prodS, prodS_snoc sa sb b r, Int.mul_assoc]
theorem sgv_sym {ws : List Bool} (h : Two ws) (sa sb : Int) (b : Bool) : sgv ws sa sb (symI ws (some b)) = if b then sb else sa := by
  have hn := symI_ne h
  unfold sgv
  cases b
  · rw [if_pos rfl, if_neg hn]; simp
  · rw [if_neg (Ne.symm hn), if_pos rfl]; simp
theorem pwr_word {ws : List Bool} (h : Two ws) (sa sb : Int) (w : List Bool) : ∀ l, l ≤ w.length → pwr ws sa sb (numsOf ws w) 0 l = prodS sa sb (w.take l)
  | 0, _ => by simp [pwr, prodS]
  | l + 1, hl => by
    have hlt : l < w.length := by lia
    rw [pwr, pwr_word h sa sb w l (by lia), List.take_add_one, List.getElem?_eq_getElem hlt]
    have e : (numsOf ws w).getD (0 + l) 0 = symI ws (some w[l]) := by
      rw [Nat.zero_add, List.getD_eq_getElem?_getD]
      unfold numsOf
      rw [List.getElem?_map, List.getElem?_eq_getElem hlt]; rfl
    rw [e, sgv_sym h]
    exact (prodS_snoc sa sb w[l] (w.take l)).symm
theorem cel_word {ws : List Bool} {L : List Rt} {c2 c3 c4 sa sb : Int} (N : Nu c2 c3 c4 sa sb ws L) {w : List Bool} (hw : 1 ≤ w.length ∧ w.length ≤ 5) : cel c2 c3 c4 sa sb ws (numsOf ws w) 0 (numsOf ws w).length = dSum w.length c2 c3 c4 * prodS sa sb w := by
  have hl : (numsOf ws w).length = w.length := by simp [numsOf]
  obtain ⟨m1, m2, m3⟩ := few_mem N.few
  unfold cel
  rw [hl, pwr_word N.gl.two sa sb w _ (Nat.le_refl _), List.take_length, lagrange w.length (by simp; lia) c2 m1 c3 m2 c4 m3]
theorem cel_nil {ws : List Bool} {c2 c3 c4 sa sb : Int} : cel c2 c3 c4 sa sb ws [] 0 0 = 0 := by
  unfold cel; rw [TN_zero, Int.zero_mul]
theorem pwr_zero {ws : List Bool} {sa sb : Int} {nums : List Int} {i : Nat} (h : sgv ws sa sb (nums.getD i 0) = 0) : ∀ l, i < l → pwr ws sa sb nums 0 l = 0
  | 0, hl => by lia
  | l + 1, hl => by
    rw [pwr]
    by_cases q : i = l
    · subst q; rw [Nat.zero_add, h, Int.mul_zero]
    · rw [pwr_zero h l (by lia), Int.zero_mul]
theorem sym_two {ws : List Bool} (h : Two ws) (b : Bool) : symI ws (some b) = 3 ∨ symI ws (some b) = 4 := by
  rcases h with rfl | rfl <;> cases b <;> decide
theorem sgv_2 {ws : List Bool} (h : Two ws) (sa sb : Int) : sgv ws sa sb 2 = 0 := by
  unfold sgv
  rw [if_neg (by rcases sym_two h false with q | q <;> rw [q] <;> decide), if_neg (by rcases sym_two h true with q | q <;> rw [q] <;> decide)]; rfl
theorem cel_bad {ws : List Bool} (h : Two ws) {c2 c3 c4 sa sb : Int} (w : List Bool) {k : Nat} (hk : k ≤ w.length) : cel c2 c3 c4 sa sb ws ((numsOf ws w).take k ++ [2] ++ (numsOf ws w).drop k) 0 ((numsOf ws w).take k ++ [2] ++ (numsOf ws w).drop k).length = 0 := by
  have hl : (numsOf ws w).length = w.length := by simp [numsOf]
  unfold cel
  rw [pwr_zero (i := k), Int.mul_zero]
  · have e : ((numsOf ws w).take k ++ [2] ++ (numsOf ws w).drop k).getD k 0 = 2 := by
      rw [List.getD_eq_getElem?_getD, List.append_assoc, List.getElem?_append_right (by rw [List.length_take]; lia), List.length_take]
      have : k - min k (numsOf ws w).length = 0 := by lia
      rw [this]; rfl
    rw [e]; exact sgv_2 h sa sb
  · simp only [List.length_append, List.length_take, List.length_drop, List.length_singleton]; lia
theorem due_nonneg {c2 c3 c4 sa sb : Int} {ws : List Bool} {L : List Rt} (N : Nu c2 c3 c4 sa sb ws L) {w : List Bool} (hw : 1 ≤ w.length ∧ w.length ≤ 5) : 0 ≤ dSum w.length c2 c3 c4 * prodS sa sb w := by
  rw [← cel_word N hw]
  exact (cel_bound N (by simp [numsOf]; lia) 0).1
theorem wo_word {ws : List Bool} (h : Two ws) {w : List Bool} (hw : w.length ≤ 5) : Wo (numsOf ws w) := by
  refine ⟨by simp [numsOf]; lia, fun x hx => ?_⟩
  obtain ⟨b, _, rfl⟩ := List.mem_map.mp hx
  rcases sym_two h b with q | q <;> rw [q] <;> simp
theorem wo_bad {ws : List Bool} (h : Two ws) {w : List Bool} (hw : w.length ≤ 5) (k : Nat) : Wo ((numsOf ws w).take k ++ [2] ++ (numsOf ws w).drop k) := by
  refine ⟨?_, fun x hx => ?_⟩
  · have hl : (numsOf ws w).length = w.length := by simp [numsOf]
    simp only [List.length_append, List.length_take, List.length_drop, List.length_singleton]; lia
  · rcases List.mem_append.mp hx with hx | hx
    · rcases List.mem_append.mp hx with hx | hx
      · exact (wo_word h hw).2 x (List.mem_of_mem_take hx)
      · simp only [List.mem_singleton] at hx; exact .inl hx
    · exact (wo_word h hw).2 x (List.mem_of_mem_drop hx)
theorem sg_sym (b : Bool) : symS (some b) = sg b := by
  cases b
  · exact strA
  · exact strB
theorem y_word {ws : List Bool} (h : Two ws) (w : List Bool) : yOf ws (numsOf ws w) = w.map sg := by
  unfold yOf numsOf
  rw [List.map_map]
  refine List.map_congr_left fun b zz => ?_
  rw [← sg_sym]
  obtain ⟨i, h1, h2, _⟩ := findB h (some b)
  obtain ⟨hlt, h3, _⟩ := List.findIdx?_eq_some_iff_getElem.mp h1
  have e : (symI ws (some b)).toNat = i := by lia
  simp only [Function.comp, e, List.getElem?_eq_getElem hlt, Option.getD_some]
  simpa using h3
theorem join_word (w : List Bool) : (⟨((w.map sg).flatMap fun x => x.cps.toList).toArray⟩ : Str) = wordS w := by
  unfold wordS
  congr 2
  induction w with
  | nil => rfl
  | cons b r ih =>
    rw [List.map_cons, List.flatMap_cons, ih, List.map_cons]
    cases b <;> rfl
theorem join_size (w : List Bool) : ((w.map sg).map (fun x => x.cps.size)).sum = w.length := by
  induction w with
  | nil => rfl
  | cons b r ih =>
    rw [List.map_cons, List.map_cons, List.sum_cons, ih, List.length_cons]
    cases b <;> simp [sg] <;> lia
theorem iter_word (w : List Bool) : (wordS w).cps.toList.map (fun ch => V.str ⟨#[ch]⟩) = w.map fun b => V.str (sg b) := by
  unfold wordS
  simp only [List.toList_toArray, List.map_map]
  refine List.map_congr_left fun b zz => ?_
  cases b <;> rfl
theorem dict_len {kvs es : List (List Int × V)} (h1 : (kvs.map (fun zz => zz.1)).Nodup) (h2 : ∀ k ∈ kvs.map (fun zz => zz.1), k ∉ es.map (fun zz => zz.1)) : (kvs.foldl (fun es e => putI es e.1 e.2) es).length = es.length + kvs.length := by
  induction kvs generalizing es with
  | nil => rfl
  | cons p r ih =>
    rw [List.map_cons, List.nodup_cons] at h1
    have hp := h2 p.1 (by simp)
    have hput : putI es p.1 p.2 = es ++ [(p.1, p.2)] := by
      unfold putI
      rw [if_neg]
      rw [List.any_eq_true]
      rintro ⟨q, hq, e⟩
      exact hp (List.mem_map.mpr ⟨q, hq, of_decide_eq_true e⟩)
    rw [List.foldl_cons, hput, ih h1.2]
    · rw [List.length_append, List.length_cons, List.length_cons, List.length_nil]; lia
    · intro k hk hm
      rw [List.map_append, List.mem_append] at hm
      rcases hm with hm | hm
      · exact h2 k (by simp [hk]) hm
      · simp only [List.map_cons, List.map_nil, List.mem_singleton] at hm
        subst hm
        exact h1.1 hk
theorem tree_node {ar tm : Nat → Nat} {K : Hp} {y : List Str} {b e : Nat} {x : Addr} {l : Cod} (h : RowOk ar tm K y b e 1 0 ([x], l)) : ∃ i ch, NodeAt K x (.nd i) ch := by
  obtain ⟨zs, x', lz, lc, k, ch, e1, e2, hn, tc, tz⟩ := h.tree.last (by simp)
  simp only at e1 e2
  have e3 := List.append_inj_right' (s₁ := []) (t₁ := [x]) (s₂ := zs) (t₂ := [x']) e1 rfl
  have e4 := List.append_inj_left' (s₁ := []) (t₁ := [x]) (s₂ := zs) (t₂ := [x']) e1 rfl
  cases e3
  subst e4
  cases k with
  | nd i => exact ⟨i, ch, hn⟩
  | lf s =>
    exfalso
    obtain ⟨_, _, _, rfl, _⟩ := hn
    have t0 : ∀ {l : Cod}, TAts K [] l → l = [] := by
      intro l t
      generalize hz : ([] : List Addr) = z at t
      cases t with
      | nil => rfl
      | snoc _ _ _ => exact absurd (congrArg List.length hz) (by simp)
    have hl1 := t0 tc
    have hl2 := t0 tz
    subst hl1; subst hl2
    have hc := h.cmp
    have hk : key ([x], l) = [] := by
      show reds l = []
      rw [e2]; rfl
    rw [hk] at hc
    have := hc [] 0
    simp [eat] at this
end Mine
set_option tactic.hygienic false
open PySem PySem.W PySem.Calls PyProof PyProof.Rows PySem.SeqAt
set_option maxRecDepth 100000
set_option maxHeartbeats 4000000
namespace Mine
section
variable {c : Cx} {n : Nat} {m : Lo} {H H' G : Hp} {Q : V → Hp → Prop}
theorem PenAt.le {a : Addr} {k : Int} (h : PenAt G a k) {G' : Hp} (l : Hle G G') : PenAt G' a k := let ⟨p0, p1, e, r⟩ := h; ⟨p0, p1, l _ _ e, r⟩
theorem l_draw (W : Wd c) (F : Fs c) {a : Addr} {k m : Int} (hp : PenAt G a k) (hk : k < 1000) (hm : 1 ≤ m ∧ m < 1000000) (q : ∀ d G', 0 ≤ d → d < m → PenAt G' a (k + 1) → wo G' a = wo G a → Q (.int d) G') : CallOK c (n + 2) (.fn (.ref 381)) [.ref a, .int m] Q G :=
  c_draw W F.draw hp hk hm fun d p0 p1 h0 h1 h2 h3 => q d _ h0 h1 ⟨p0, p1, hp_self, h2, h3⟩ (wo_put _ _ _)
theorem w_compX {x y : X} {i : Nat} (I : Hp → List V → Nat → List V → Hp → Prop)
    (h : ∀ K : V → Hp → Prop, (∀ v H₁, (∃ l src, iterQ H₁ v = some (l, src) ∧ l.length ≤ 100000 ∧ I H₁ l 0 [] H₁ ∧ ∀ j acc H, I H₁ l j acc H → StillAt src H₁ H) → K v H₁) → awp c n y m K H)
    (h1 : ∀ (K : V → Hp → Prop) H₁ l j v acc H, (∀ u H', I H₁ l (j + 1) (acc ++ [u]) H' → K u H') → l[j]? = some v → I H₁ l j acc H → awp c n x (m.put i v) K H) (h0 : ∀ H₁ l acc H, I H₁ l l.length acc H → newList Q acc H) : awp c n (.comp x i y) m Q H := by
  refine h _ fun v H₁ p => ?_
  obtain ⟨l, src, e, hz, hI, hs⟩ := p
  refine ⟨l, src, e, hz, compGo_ind (fun r acc H => ∃ j, r = l.drop j ∧ j ≤ l.length ∧ I H₁ l j acc H) ?_ ?_ ?_ l [] H₁ ⟨0, by simp, Nat.zero_le _, hI⟩⟩
  · rintro r acc H ⟨j, _, _, hI⟩; exact hs _ _ _ hI
  · rintro acc H ⟨j, e, hj, hI⟩
    have : l.length ≤ j := by simpa using e.symm
    obtain rfl : j = l.length := by lia
    exact h0 H₁ l acc H hI
  · rintro v r acc H ⟨j, e, hj, hI⟩ K hK
    obtain ⟨hx, hr⟩ := drop_cons e
    exact h1 K H₁ l j v acc H (fun u H' h => hK u H' ⟨j + 1, hr, (List.getElem?_eq_some_iff.mp hx).1, h⟩) hx hI
set_option tactic.hygienic true in
theorem c_law (W : Wd c) (X : Wc c) (F : Fs c) {A : Addr} (FL : FnAt c A bd_law sc_law [60] 1 []) {a0 : Addr} {ns : List Int} (h0 : H a0 = some (.rolist (ns.map V.int))) (hz : ns.length < 100000) (q : ∀ H', Q (.bool true) H') : CallOK c (n + 12) (.fn (.ref A)) [.ref a0] Q H := by
  refine call_at W FL (fun env hs E => ok_law W hs E) rfl ?_
  show swps c (n + 11) ir_law _ (noLo.put 60 (.ref a0)) H
  unfold ir_law
  walk_at "eb"
  refine CallOK.up (n := n + 2) (c_pen W F.pen h0 hz fun a N G0 l0 ha g0 => ?_) (nle rfl)
  have hp : PenAt G0 a 0 := ⟨N, 0, g0, by decide, by decide⟩
  clear l0 ha g0 h0
  walk_at "eb"
  refine CallOK.up (n := n + 2) (l_draw W F hp (by decide) ⟨by decide, by decide⟩ fun c2 G1 h2 h2' hp1 k1 => ?_) (nle rfl)
  walk_at "eb"
  refine CallOK.up (n := n + 2) (l_draw W F hp1 (by decide) ⟨by decide, by decide⟩ fun c3 G2 h3 h3' hp2 k2 => ?_) (nle rfl)
  walk_at "eb"
  refine CallOK.up (n := n + 2) (l_draw W F hp2 (by decide) ⟨by decide, by decide⟩ fun c4 G3 h4 h4' hp3 k3 => ?_) (nle rfl)
  walk_at "eb"
  refine ⟨dCop c2 c3 c4, rfl, (by show [(2 : Int), 3, 4].Nodup; decide), (by show 3 ≤ 10; decide), fun dc hdc => ?_⟩
  have few : Few c2 c3 c4 := ⟨⟨h2, by lia⟩, ⟨h3, by lia⟩, h4, by lia⟩
  have hp4 : PenAt (G3.put dc (.dictI (dCop c2 c3 c4))) a 3 := hp3.le ((Hle.refl G3).put hdc _)
  have nca : dc ≠ a := (let ⟨_, _, e, _⟩ := hp3; ne_of e hdc).symm
  have kc : wo (G3.put dc (.dictI (dCop c2 c3 c4))) a dc = some (.dictI (dCop c2 c3 c4)) := wo_get hp_self nca
  generalize G3.put dc (.dictI (dCop c2 c3 c4)) = G4 at hp4 kc ⊢
  clear hp hp1 hp2 hp3 k1 k2 k3 hdc
  walk_at "eb"
  refine CallOK.up (n := n + 2) (l_draw W F hp4 (by decide) ⟨by decide, by decide⟩ fun da G5 h5 h5' hp5 k5 => ?_) (nle rfl)
  walk_at "eb"
  refine CallOK.up (n := n + 2) (l_draw W F hp5 (by decide) ⟨by decide, by decide⟩ fun db G6 h6 h6' hp6 k6 => ?_) (nle rfl)
  walk_at "eb"
  refine ⟨dSig (1 + da) (1 + db), rfl, (by decide +kernel : ([("a" : Str), ("b" : Str)]).Nodup), (by show 2 ≤ 10; decide), fun ds hds => ?_⟩
  have nsa : ds ≠ a := (let ⟨_, _, e, _⟩ := hp6; ne_of e hds).symm
  have l6 : Hle G6 (G6.put ds (.dictS (dSig (1 + da) (1 + db)))) := (Hle.refl G6).put hds _
  have hp7 : PenAt (G6.put ds (.dictS (dSig (1 + da) (1 + db)))) a 5 := hp6.le l6
  have kc7 : wo (G6.put ds (.dictS (dSig (1 + da) (1 + db)))) a dc = some (.dictI (dCop c2 c3 c4)) := wo_mono l6 a _ _ (by rw [k6, k5]; exact kc)
  have ks7 : wo (G6.put ds (.dictS (dSig (1 + da) (1 + db)))) a ds = some (.dictS (dSig (1 + da) (1 + db))) := wo_get hp_self nsa
  generalize G6.put ds (.dictS (dSig (1 + da) (1 + db))) = G7 at hp7 kc7 ks7 ⊢
  have sig : (1 ≤ 1 + da ∧ 1 + da ≤ 2) ∧ 1 ≤ 1 + db ∧ 1 + db ≤ 2 := ⟨⟨by lia, by lia⟩, by lia, by lia⟩
  generalize 1 + da = sa at kc7 ks7 sig
  generalize 1 + db = sb at kc7 ks7 sig
  clear hp4 hp5 hp6 k5 k6 kc hds l6
  refine w_frz (P := fun m => m 62 = some (.ref a) ∧ m 64 = some (.ref dc) ∧ m 65 = some (.ref ds)) ⟨by walk_at "lo", by walk_at "lo", by walk_at "lo"⟩ ?_
  rintro m1 ⟨f62, f64, f65⟩
  walk_at "eb"
  refine ⟨⟨_, rfl⟩, ?_⟩
  refine w_compX (fun H₁ l j acc G => (1 ≤ l.length ∧ l.length ≤ 5) ∧ ∃ w : List Bool, w.length = j ∧ acc = w.map (fun b => V.str (sg b)) ∧ PenAt G a (6 + j) ∧ wo G a = wo G7 a) (fun K hK => ?_) ?_ ?_
  · walk_at "eb"
    refine CallOK.up (n := n + 2) (l_draw W F hp7 (by decide) ⟨by decide, by decide⟩ fun d G8 hd hd' hp8 k8 => ?_) (nle rfl)
    walk_at "eb"
    refine ⟨_, rfl, by lia, by lia, hK _ _ ⟨ _, none, rfl, by simp; lia, ⟨by simp; lia, [], rfl, rfl, by simpa using hp8, k8⟩, fun j acc H zz a ha => by cases ha⟩⟩
  · rintro K H₁ l j v acc G8 hK hv ⟨hl, w, hwj, rfl, hp8, k8⟩
    have hj : j < l.length := (List.getElem?_eq_some_iff.mp hv).1
    walk_at "eb"
    refine CallOK.up (n := n + 2) (l_draw W F hp8 (by lia) ⟨by decide, by decide⟩ fun d G9 hd hd' hp9 k9 => ?_) (nle rfl)
    have hd2 : d = 0 ∨ d = 1 := by lia
    rcases hd2 with rfl | rfl
    · constructor; refine ⟨97, by decide, by decide, by decide +kernel, hK _ _ ⟨hl, w ++ [false], by simp [hwj], by simp [sg], ?_, k9.trans k8⟩⟩
      have e : (6 : Int) + ((j + 1 : Nat) : Int) = 6 + (j : Int) + 1 := by lia
      rw [e]; exact hp9
    · constructor; refine ⟨98, by decide, by decide, by decide +kernel, hK _ _ ⟨hl, w ++ [true], by simp [hwj], by simp [sg], ?_, k9.trans k8⟩⟩
      have e : (6 : Int) + ((j + 1 : Nat) : Int) = 6 + (j : Int) + 1 := by lia
      rw [e]; exact hp9
  rintro H₁ l acc G8 ⟨hl, w, hwj, rfl, hp8, k8⟩
  rw [← hwj] at hl hp8
  clear hwj l
  have kc8 := kc7
  have ks8 := ks7
  rw [← k8] at kc8 ks8
  clear k8 kc7 ks7 hp7
  refine q_newList (by rw [List.length_map]; lia) fun dl hdl => ?_
  have hmm : w.map (fun b => V.str (sg b)) = (w.map sg).map V.str := by rw [List.map_map]; rfl
  refine ⟨dl, (w.map sg).map V.str, w.map sg, rfl, rfl, by rw [← hmm]; exact hp_self, strsOf_map _, by rw [join_size]; lia, ?_⟩
  rw [join_word]
  have l8 : Hle G8 (G8.put dl (.list (w.map fun b => V.str (sg b)))) := (Hle.refl G8).put hdl _
  have hp9 := hp8.le l8
  have kc9 := wo_mono l8 a _ _ kc8
  have ks9 := wo_mono l8 a _ _ ks8
  generalize G8.put dl (.list (w.map fun b => V.str (sg b))) = G9 at hp9 kc9 ks9 ⊢
  clear hdl hmm l8 hp8 kc8 ks8
  walk_at "eb"
  refine CallOK.up (n := n + 4) (c_pairs W F.pairs F.draw hp9 (by lia) (wo_le _ _ _ _ kc9) (wo_le _ _ _ _ ks9) few sig fun dp G10 L perm hdp gp hbut hp10 => ?_) (nle rfl)
  have hb : ∀ x o, wo G9 a x = some o → wo G10 a x = some o := fun x o e => by
    have hxa : x ≠ a := by
      rintro rfl
      unfold wo at e; rw [if_pos rfl] at e; cases e
    exact wo_get (hbut x o hxa (wo_le _ _ _ _ e)) hxa
  have kc10 := hb _ _ kc9
  have ks10 := hb _ _ ks9
  have npa : dp ≠ a := (let ⟨_, _, e, _⟩ := hp9; ne_of e hdp).symm
  have kp10 := wo_get gp npa
  obtain ⟨b1, b2, b3, b4, b5⟩ := base_ok few sig perm
  obtain ⟨p0, p1, ga, hpn⟩ := hp10
  walk_at "eb"
  refine CallOK.up (n := n + 6) (CallOK.frame ga (c_plain W X F kp10 b1 (fun r hr => (b2 r hr).2) b4 b5 fun g G11 ws two l11 hg0 hg hga => ?_)) (nle rfl)
  have kk : wo (G11.put a (.list [.int p0, .int p1])) a = G11 := by
    rw [wo_put]
    funext x
    unfold wo
    split
    · rename_i q; subst q; exact hga.symm
    · rfl
  have hp11 : PenAt (G11.put a (.list [.int p0, .int p1])) a (6 + (w.length : Int) + 20) := ⟨p0, p1, hp_self, hpn⟩
  have kg11 := hg
  have kc11 := l11 _ _ kc10
  have ks11 := l11 _ _ ks10
  rw [← kk] at kg11 kc11 ks11
  generalize G11.put a (.list [.int p0, .int p1]) = G12 at hp11 kg11 kc11 ks11 kk ⊢
  clear kk hg hga l11 hg0 ga hpn kc10 ks10 kp10 gp hbut hb hp9 kc9 ks9 hdp
  have N : Nu c2 c3 c4 sa sb ws L := ⟨few, sig, ⟨two, b2, b1, b3⟩, perm⟩
  walk_at "eb"
  refine w_compG (l := w.map fun b => V.str (sg b)) (src := none) (fun j acc G => G = G12 ∧ acc = (numsOf ws (w.take j)).map V.int) (fun K hK => ?_) ?_ ?_
  · walk_at "eb"
    refine ⟨?_, by rw [List.length_map]; lia, ⟨rfl, rfl⟩, fun j acc H zz a ha => by cases ha⟩
    show some _ = some _
    rw [iter_word]
  · rintro K j v acc G hK hv ⟨rfl, rfl⟩
    rw [List.getElem?_map] at hv
    obtain ⟨b, hb, rfl⟩ := Option.map_eq_some_iff.mp hv
    have hgG := kg11.le (wo_le _ _)
    obtain ⟨dx, nl, rl, lv, bl, ol, ow, ic, rfs, bs0, a1, _⟩ := id hgG
    walk_at "eb"
    refine q_meth (gf := 312) a1 (by kernel_rfl) (X.mth _ _ _ (by decide +kernel)) ?_
    walk_at "eb"
    rw [← sg_sym]
    refine CallOK.up (n := n + 2) (c_number W X F hgG two (hK _ _ ⟨rfl, ?_⟩)) (nle rfl)
    rw [List.take_add_one, hb]
    simp [numsOf]
  rintro acc G ⟨rfl, rfl⟩
  rw [List.length_map, List.take_length]
  have hnl : (numsOf ws w).length = w.length := by simp [numsOf]
  refine q_newList (by rw [List.length_map]; lia) fun dw hdw => ?_
  have nwa : dw ≠ a := (let ⟨_, _, e, _⟩ := hp11; ne_of e hdw).symm
  have l12 : Hle G (G.put dw (.list ((numsOf ws w).map V.int))) := (Hle.refl G).put hdw _
  have hp13 := hp11.le l12
  have kg13 := kg11.le (wo_mono l12 a)
  have kc13 := wo_mono l12 a _ _ kc11
  have ks13 := wo_mono l12 a _ _ ks11
  have kw13 : wo (G.put dw (.list ((numsOf ws w).map V.int))) a dw = some (.list ((numsOf ws w).map V.int)) := wo_get hp_self nwa
  generalize G.put dw (.list ((numsOf ws w).map V.int)) = G13 at hp13 kg13 kc13 ks13 kw13 ⊢
  clear hdw l12 hp11 kg11 kc11 ks11
  have w5 := wo_word two hl.2
  have hcw := cel_word N hl
  have hdn := due_nonneg N hl
  walk_at "eb"
  refine CallOK.up (n := n + 4) (c_due W F.due F.factorial (wo_le _ _ _ _ kc13) (wo_le _ _ _ _ ks13) few sig hl ?_) (nle rfl)
  rw [← hcw]
  rw [← hcw] at hdn
  obtain ⟨due, hdue⟩ : ∃ due : Nat, cel c2 c3 c4 sa sb ws (numsOf ws w) 0 (numsOf ws w).length = (due : Int) := ⟨_, (Int.toNat_of_nonneg hdn).symm⟩
  rw [hdue]
  clear hcw hdn kc13 ks13
  refine w_frz (P := fun m => m 5 = some (.ref g) ∧ m 32 = some (.str (wordS w)) ∧ m 62 = some (.ref a) ∧ m 74 = some (.ref dw) ∧ m 75 = some (.int due)) ⟨by walk_at "lo", by walk_at "lo", by walk_at "lo", by walk_at "lo", by walk_at "lo"⟩ ?_
  clear f62 f64 f65
  rintro m2 ⟨f5, f32, f62, f74, f75⟩
  walk_at "eb"
  refine CallOK.up (n := n + 8) (c_count W X F (kg13.le (wo_le _ _)) N (wo_le _ _ _ _ kw13) w5 fun G14 l14 => ?_) (nle rfl)
  rw [hdue]
  have hp14 := hp13.le l14
  have kg14 := kg13.le (wo_mono l14 a)
  have kw14 := wo_mono l14 a _ _ kw13
  clear hp13 kg13 kw13 l14
  walk_at "eb"
  refine q_bothn (fun h => absurd rfl h) fun zz => ?_
  walk_at "eb"
  refine q_newList (by simp) fun de hde => ?_
  have l15 : Hle G14 (G14.put de (.list [])) := (Hle.refl G14).put hde _
  have hp15 := hp14.le l15
  have kg15 := kg14.le (wo_mono l15 a)
  have kw15 := wo_mono l15 a _ _ kw14
  have ke15 : (G14.put de (.list [])) de = some (.list (([] : List Int).map V.int)) := hp_self
  generalize G14.put de (.list []) = G15 at hp15 kg15 kw15 ke15 ⊢
  clear hp14 kg14 kw14 l15 hde
  walk_at "eb"
  refine CallOK.up (n := n + 8) (c_count W X F (kg15.le (wo_le _ _)) N ke15 ⟨by simp, by simp⟩ fun G16 l16 => ?_) (nle rfl)
  have hp16 := hp15.le l16
  have kg16 := kg15.le (wo_mono l16 a)
  have kw16 := wo_mono l16 a _ _ kw15
  clear hp15 kg15 kw15 l16 ke15
  rw [List.length_nil, cel_nil]
  walk_at "eb"
  refine q_bothn (fun h => absurd rfl h) fun zz => ?_
  walk_at "eb"
  have hws : (wordS w).cps.size = w.length := by simp [wordS]
  constructor; refine ⟨by rw [hws]; lia, ?_⟩
  rw [hws]
  walk_at "eb"
  refine CallOK.up (n := n + 2) (l_draw W F hp16 (by lia) ⟨by lia, by lia⟩ fun sp G17 hs0 hs1 hp17 k17 => ?_) (nle rfl)
  obtain ⟨spn, rfl⟩ : ∃ spn : Nat, sp = (spn : Int) := ⟨_, (Int.toNat_of_nonneg hs0).symm⟩
  have hspn : spn ≤ w.length := by lia
  rw [← k17] at kg16 kw16
  have ngw : G17 dw = _ := wo_le _ _ _ _ kw16
  walk_at "eb"
  refine q_cutTo ngw (by rw [List.length_map]; lia) (by lia) fun d1 hd1 => ?_
  walk_at "eb"
  refine q_newList (by simp) fun d2 hd2 => ?_
  have e1 : ((G17.put d1 (.list (((numsOf ws w).map V.int).take (spn : Int).toNat))).put d2 (.list [.int 2])) d1 = some (.list (((numsOf ws w).map V.int).take (spn : Int).toNat)) := put_get hp_self hd2
  refine q_addL e1 hp_self (by simp; lia) fun d3 hd3 => ?_
  have l18 := ((Hle.refl G17).put hd1 (.list (((numsOf ws w).map V.int).take (spn : Int).toNat))).put (put_non hd2) (.list [.int 2]) |>.put (put_non (put_non hd3)) (.list (((numsOf ws w).map V.int).take (spn : Int).toNat ++ [.int 2]))
  have e3 : ((((G17.put d1 (.list (((numsOf ws w).map V.int).take (spn : Int).toNat))).put d2 (.list [.int 2])).put d3 (.list (((numsOf ws w).map V.int).take (spn : Int).toNat ++ [.int 2])))) d3 = some (.list (((numsOf ws w).map V.int).take (spn : Int).toNat ++ [.int 2])) := hp_self
  generalize (((G17.put d1 (.list (((numsOf ws w).map V.int).take (spn : Int).toNat))).put d2 (.list [.int 2])).put d3 (.list (((numsOf ws w).map V.int).take (spn : Int).toNat ++ [.int 2]))) = G18 at l18 e3 ⊢
  clear e1 hd1 hd2 hd3
  walk_at "eb"
  refine q_cutFrom (l18 _ _ ngw) (by rw [List.length_map]; lia) (by lia) fun d4 hd4 => ?_
  refine q_addL (put_get e3 hd4) hp_self (by simp; lia) fun d5 hd5 => ?_
  have l19 := (l18.put (l18.non hd4) (.list (((numsOf ws w).map V.int).drop (spn : Int).toNat))).put (l18.non (put_non hd5)) (.list (((numsOf ws w).map V.int).take (spn : Int).toNat ++ [.int 2] ++ ((numsOf ws w).map V.int).drop (spn : Int).toNat))
  have e5 : ((G18.put d4 (.list (((numsOf ws w).map V.int).drop (spn : Int).toNat))).put d5 (.list (((numsOf ws w).map V.int).take (spn : Int).toNat ++ [.int 2] ++ ((numsOf ws w).map V.int).drop (spn : Int).toNat))) d5 = some (.list (((numsOf ws w).take spn ++ [2] ++ (numsOf ws w).drop spn).map V.int)) := by
    rw [hp_self]; simp
  generalize ((G18.put d4 (.list (((numsOf ws w).map V.int).drop (spn : Int).toNat))).put d5 (.list (((numsOf ws w).map V.int).take (spn : Int).toNat ++ [.int 2] ++ ((numsOf ws w).map V.int).drop (spn : Int).toNat))) = G19 at l19 e5 ⊢
  clear hd4 hd5 l18 e3
  have kg19 := kg16.le (wo_mono l19 a)
  have kw19 := wo_mono l19 a _ _ kw16
  clear kg16 kw16 l19 ngw k17 hp16 hp17
  walk_at "eb"
  refine CallOK.up (n := n + 8) (c_count W X F (kg19.le (wo_le _ _)) N e5 (wo_bad two hl.2 spn) fun G20 l20 => ?_) (nle rfl)
  rw [cel_bad two w hspn]
  have kg20 := (kg19.le (wo_mono l20 a)).le (wo_le _ _)
  have kw20 := wo_le _ _ _ _ (wo_mono l20 a _ _ kw19)
  clear kg19 kw19 l20 e5
  walk_at "eb"
  refine q_bothn (fun h => absurd rfl h) fun zz => ?_
  walk_at "eb"
  refine q_both (fun zz => ?_) fun h9 => ?_
  · walk_at "eb"
    exact q _
  walk_at "eb"
  have e9 : (due : Int) + 1 = ((due + 1 : Nat) : Int) := by lia
  rw [e9]
  refine CallOK.up (n := n + 8) (c_trees W X F kg20 N kw20 w5 (by lia) (by lia) fun d G21 ts l21 gd hc => ?_) (nle rfl)
  rw [hdue] at hc
  have hlen : ts.length = due := by have := hc.num; lia
  rw [y_word two] at hc
  clear kg20 kw20 l21 hdue
  have htree : ∀ o ∈ ts, RowOk (arOf ws L) (tmOf ws L) G21 (w.map sg) 0 w.length 1 0 ([o.1], o.2) := by
    rw [← hnl]; exact hc.one
  have hsm : ∀ o ∈ ts, o.2.length ≤ 1000 := fun o ho => by
    have := (htree o ho).small
    simp only at this
    lia
  walk_at "eb"
  refine w_compG (l := ts.map fun o => V.ref o.1) (src := some d) (fun j acc G => Hle G21 G ∧ acc = List.replicate j (V.str (wordS w))) (fun K hK => ?_) ?_ ?_
  · walk_at "eb"
    refine ⟨it_list gd, by rw [List.length_map]; lia, ⟨Hle.refl _, rfl⟩, ?_⟩
    rintro j acc G ⟨l, _⟩ x hx
    cases hx
    rw [l _ _ gd, gd]
  · rintro K j v acc G hK hv ⟨l, rfl⟩
    rw [List.getElem?_map] at hv
    obtain ⟨o, ho, rfl⟩ := Option.map_eq_some_iff.mp hv
    have hom := List.mem_of_getElem? ho
    have hrow := (htree o hom).le l
    obtain ⟨i, ch, dx, dc', _, nm, hx⟩ := tree_node hrow
    have hyl : ylds o.2 = w.map sg := by
      have := hrow.yl
      simp only [List.drop_zero, Nat.sub_zero] at this
      rw [this]; exact List.take_of_length_le (by simp)
    walk_at "eb"
    refine ⟨⟨_, rfl⟩, ?_⟩
    refine w_compX (fun H₁ l j acc G' => ∃ tks : List Addr, l = tks.map V.ref ∧ tks.length = w.length ∧ Hle G H₁ ∧ (∀ (i : Nat) t s, tks[i]? = some t → (w.map sg)[i]? = some s → TokAt H₁ t s) ∧ G' = H₁ ∧ acc = ((w.map sg).take j).map V.str) (fun K hK => ?_) ?_ ?_
    · walk_at "eb"
      refine q_meth (gf := 149) hx (by kernel_rfl) (X.mth _ _ _ (by decide +kernel)) ?_
      walk_at "eb"
      refine CallOK.up (n := n + 4) (c_leaves W X F hrow.tree (hsm o hom) fun dk G' tks l2 hdk gdk hlk hat => ?_) (nle rfl)
      rw [hyl] at hlk hat
      refine hK _ _ ⟨_, _, it_list gdk, by rw [List.length_map, hlk, List.length_map]; lia, ⟨tks, rfl, by rw [hlk, List.length_map], l2, hat, rfl, rfl⟩, ?_⟩
      rintro j acc H ⟨_, _, _, _, _, rfl, _⟩ x _
      rfl
    · rintro K H₁ l2 j2 v acc G' hK hv ⟨tks, rfl, hlk, l2, hat, rfl, rfl⟩
      rw [List.getElem?_map] at hv
      obtain ⟨t, ht, rfl⟩ := Option.map_eq_some_iff.mp hv
      have hjl : j2 < tks.length := (List.getElem?_eq_some_iff.mp ht).1
      obtain ⟨s, hs⟩ : ∃ s, (w.map sg)[j2]? = some s := ⟨_, List.getElem?_eq_getElem (by simp; lia)⟩
      obtain ⟨dtk, hdtk⟩ := hat j2 t s ht hs
      walk_at "eb"
      refine q_attr hdtk (X.fld _ _ (by decide +kernel)) (v := .str s) (by kernel_rfl) ?_
      refine hK _ _ ⟨tks, rfl, hlk, l2, hat, rfl, ?_⟩
      rw [List.take_add_one, hs]; simp
    · rintro H₁ l2 acc G' ⟨tks, rfl, hlk, l2, hat, rfl, rfl⟩
      refine q_newList (by simp; lia) fun dn hdn => ?_
      have e : (w.map sg).take (tks.map V.ref).length = w.map sg := List.take_of_length_le (by simp; lia)
      rw [e]
      refine ⟨dn, (w.map sg).map V.str, w.map sg, rfl, rfl, hp_self, strsOf_map _, by rw [join_size]; lia, ?_⟩
      rw [join_word]
      exact hK _ _ ⟨(l.trans l2).put ((l.trans l2).non hdn) _, by rw [List.replicate_succ']⟩
  rintro acc G22 ⟨l22, rfl⟩
  rw [List.length_map, hlen]
  refine q_newList (by simp; lia) fun d1 hd1 => ?_
  walk_at "eb"
  refine q_newList (by simp) fun d2 hd2 => ?_
  walk_at "eb"
  constructor; refine ⟨_, hp_self, ⟨by lia, rfl, by lia⟩, fun d3 hd3 => ?_⟩
  have m1 := put_get (x := .list (List.replicate (due : Int).toNat [V.str (wordS w)]).flatten) (put_get (x := .list [V.str (wordS w)]) (hp_self (H := G22) (d := d1) (ob := .list (List.replicate due (V.str (wordS w))))) hd2) hd3
  have l23 := ((l22.put (l22.non hd1) (.list (List.replicate due (V.str (wordS w))))).put (l22.non (put_non hd2)) (.list [V.str (wordS w)])).put (l22.non (put_non (put_non hd3))) (.list (List.replicate (due : Int).toNat [V.str (wordS w)]).flatten)
  have m3 : ((((G22.put d1 (.list (List.replicate due (V.str (wordS w))))).put d2 (.list [V.str (wordS w)])).put d3 (.list (List.replicate (due : Int).toNat [V.str (wordS w)]).flatten))) d3 = some (.list ((List.replicate due (wordS w)).map V.str)) := by
    rw [hp_self, List.flatten_replicate_singleton, List.map_replicate]; rfl
  have m1' : ((((G22.put d1 (.list (List.replicate due (V.str (wordS w))))).put d2 (.list [V.str (wordS w)])).put d3 (.list (List.replicate (due : Int).toNat [V.str (wordS w)]).flatten))) d1 = some (.list ((List.replicate due (wordS w)).map V.str)) := by
    rw [m1, List.map_replicate]
  generalize (((G22.put d1 (.list (List.replicate due (V.str (wordS w))))).put d2 (.list [V.str (wordS w)])).put d3 (.list (List.replicate (due : Int).toNat [V.str (wordS w)]).flatten)) = G23 at l23 m3 m1' ⊢
  clear m1 hd1 hd2 hd3
  constructor; constructor; refine ⟨_, _, m1', m3, .inr (.inr ⟨_, _, strsOf_map _, strsOf_map _, ?_⟩)⟩
  walk_at "eb"
  refine q_bothn (fun h => absurd rfl h) fun zz => ?_
  walk_at "eb"
  refine w_compG (l := ts.map fun o => V.ref o.1) (src := some d) (fun j acc G => Hle G21 G ∧ acc = (ts.take j).map fun o => V.tup [.tup (((tkey o).map fun (i : Nat) => (i : Int)).map V.int), .bool true]) (fun K hK => ?_) ?_ ?_
  · walk_at "eb"
    refine ⟨it_list (l23 _ _ gd), by rw [List.length_map]; lia, ⟨l23, rfl⟩, ?_⟩
    rintro j acc G ⟨l, _⟩ x hx
    cases hx
    rw [l _ _ gd, l23 _ _ gd]
  · rintro K j v acc G hK hv ⟨l, rfl⟩
    rw [List.getElem?_map] at hv
    obtain ⟨o, ho, rfl⟩ := Option.map_eq_some_iff.mp hv
    have hom := List.mem_of_getElem? ho
    have hrow := (htree o hom).le l
    obtain ⟨i, ch, dx, dc', _, nm, hx⟩ := tree_node hrow
    walk_at "eb"
    refine q_meth (gf := 154) hx (by kernel_rfl) (X.mth _ _ _ (by decide +kernel)) ?_
    walk_at "eb"
    refine CallOK.up (n := n + 4) (c_reds W X F hrow.tree (hsm o hom) fun dk G' l2 hdk gdk => ?_) (nle rfl)
    have hrl : (reds o.2).length ≤ o.2.length := List.length_filterMap_le _ _
    have hso := hsm o hom
    have hlr : ((reds o.2).map fun (i : Nat) => V.int i).length ≤ 100000 := by rw [List.length_map]; lia
    refine ⟨dk, _, rfl, gdk, hlr, ?_⟩
    walk_at "eb"
    refine ⟨by simp, hK _ _ ⟨l.trans l2, ?_⟩⟩
    rw [List.take_add_one, ho]
    simp [tkey, Function.comp_def]
  rintro acc G24 ⟨l24, rfl⟩
  rw [List.length_map, List.take_length]
  refine q_newList (by rw [List.length_map]; lia) fun d4 hd4 => ?_
  refine ⟨d4, ts.map fun o => ((tkey o).map (fun (i : Nat) => (i : Int)), V.bool true), rfl, ?_, by rw [List.length_map]; lia, fun d5 hd5 => ?_⟩
  · rw [hp_self, List.map_map]; rfl
  have hdl : ((ts.map fun o => ((tkey o).map (fun (i : Nat) => (i : Int)), V.bool true)).foldl (fun es e => putI es e.1 e.2) []).length = due := by
    rw [dict_len]
    · rw [List.length_map, List.length_nil]; lia
    · rw [List.map_map]
      refine nodup_map_inj hc.nod fun o zz o' zz e => ?_
      simp only [Function.comp] at e
      exact (List.map_inj_right (fun a b h => Int.ofNat.inj h)).mp e
    · simp
  constructor; refine .inr (.inr ⟨_, hp_self, by rw [hdl]; lia, ?_⟩)
  rw [hdl]
  walk_at "eb"
  simpa using q _
end
end Mine
set_option tactic.hygienic false
open PySem PySem.W PySem.Calls PyProof PyProof.Rows PySem.SeqAt
set_option maxRecDepth 100000
set_option maxHeartbeats 4000000
namespace Mine
noncomputable def hide (h : Heap) (a : Addr) : Heap := h.update a fun o => { o with data := .freed }
theorem hide_get (h : Heap) (a b : Addr) : (hide h a).get? b = if b = a then none else h.get? b := by
  obtain ⟨objs, l⟩ := h
  show Heap.get? ⟨objs.modify a _, l⟩ b = _
  unfold Heap.get?
  simp only [Array.getElem?_modify]
  by_cases q : a = b
  · subst q
    rw [if_pos rfl, if_pos rfl]
    cases objs[a]? <;> rfl
  · rw [if_neg q, if_neg (Ne.symm q)]
noncomputable def fdAt (K : Frag) (g : Addr) : FuncData := match K.lookup g with
  | some ⟨_, _, .func fd, _⟩ => fd
  | _ => default
noncomputable def gEs (K : Frag) : Array DictEntry := match K.lookup mainGlobals with
  | some ⟨_, _, .dict es _, _⟩ => es
  | _ => #[]
noncomputable def gl (K : Frag) (x : Str) : Option Value := match nsFind (gEs K) x with
  | some v => some v
  | none => if x = "__name__" then none else bootBuiltins x
noncomputable def fldK (K : Frag) (C : Addr) (f : Str) : Bool := plainGet K C f && hasDictIn K C && (match findIn K (.ref C) f with | some attr => noGet K attr | none => false) &&
  (findIn K (.ref C) "__setattr__" == some (some (.builtin "object.__setattr__"))) && plainOver K C && (takerIn K C f == some none)
noncomputable def mthK (K : Frag) (C : Addr) (f : Str) : Option Addr := match findIn K (.ref C) f with
  | some (some (.ref g)) => if plainGet K C f && isFn K (.ref g) && keepIn K (.ref g) then some g else none
  | _ => none
noncomputable def cxOf (prog : Program) (w : World) (base : Heap) (K : Frag) : Cx := ⟨prog, w, base, nmT, gl K, mthK K, K, fldK K⟩
theorem nmT_inj : ∀ i j, nmT i = nmT j → i = j := by
  have hn : nameL.Nodup := by decide +kernel
  have h0 : ∀ x ∈ nameL, x.cps.size ≠ 0 ∧ x.cps[0]? ≠ some 0 := by decide +kernel
  intro i j h
  unfold nmT at h
  cases hi : nameL[i]? with
  | some x =>
    cases hj : nameL[j]? with
    | some y =>
      rw [hi, hj] at h
      simp only at h
      subst h
      obtain ⟨h1, e1⟩ := List.getElem?_eq_some_iff.mp hi
      obtain ⟨h2, e2⟩ := List.getElem?_eq_some_iff.mp hj
      exact (List.getElem_inj hn).mp (e1.trans e2.symm)
    | none =>
      rw [hi, hj] at h
      simp only at h
      subst h
      exact absurd rfl (h0 _ (List.mem_of_getElem? hi)).2
  | none =>
    cases hj : nameL[j]? with
    | some y =>
      rw [hi, hj] at h
      simp only at h
      subst h
      exact absurd rfl (h0 _ (List.mem_of_getElem? hj)).2
    | none =>
      rw [hi, hj] at h
      simp only [Str.mk.injEq] at h
      have := congrArg (fun a => a[1]?) h
      simpa using this
noncomputable def fnChk (K : Frag) (g : Addr) (ps : List Nat) : Bool :=
  fnIn K g && codeIn K (fdAt K g).code (fdAt K g).qualname && (fdAt K g).closure.isEmpty && Nat.beq (fdAt K g).globals mainGlobals && Nat.beq (fdAt K g).builtins builtinsNs &&
  !(fdAt K g).scope.isCoroutine && !(fdAt K g).scope.isGenerator && (match (fdAt K g).scope.kind with | .function => true | _ => false) && (fdAt K g).scope.more.all (fun x => x.1 != ("interactive" : Str)) &&
  decide (((cellsFrom 0 (fdAt K g).scope.names []).map (fun zz => zz.1)).Nodup) && (fdAt K g).scope.names.all (fun p => match p.2 with | .free => false | _ => true) &&
  ps.all fun i => match (fdAt K g).scope.names.lookup (nmT i) with | some .local => true | some .cell => true | _ => false
set_option tactic.hygienic true in
theorem lookup_mem {α β : Type} [BEq α] [LawfulBEq α] {l : List (α × β)} {x : α} {y : β} (h : l.lookup x = some y) : (x, y) ∈ l := by
  induction l with
  | nil => simp at h
  | cons p r ih =>
    obtain ⟨a, b⟩ := p
    rw [List.lookup_cons] at h
    split at h
    · rename_i q
      have := eq_of_beq q
      subst this
      cases h; simp
    · exact List.mem_cons_of_mem _ (ih h)
theorem len0 {P : List Value → Prop} (h : P []) : ∀ vs : List Value, vs.length = 0 → P vs := fun vs e => by rw [List.length_eq_zero_iff.mp e]; exact h
theorem lenS {k : Nat} {P : List Value → Prop} (h : ∀ a, ∀ vs : List Value, vs.length = k → P (a :: vs)) : ∀ vs : List Value, vs.length = k + 1 → P vs := by
  intro vs e
  cases vs with
  | nil => simp at e
  | cons a r => exact h a r (by simpa using e)
theorem dv0 : ∀ h : Heap, ∀ d ∈ ([] : List (V × Value)), VR h d.1 d.2 := fun zz zz h => by simp at h
set_option tactic.hygienic true in
theorem fnAt_of {c : Cx} (hn : ∀ i, c.nm i = nmT i) {g : Addr} {body : List Stmt} {sc : Scope} {ps : List Nat} {k : Nat} {dv : List (V × Value)} (h : fnChk c.K g ps = true) (hb : (fdAt c.K g).body = .stmts body) (hs : (fdAt c.K g).scope = sc)
    (hbind : ∀ vs', vs'.length = k → ∀ S, peek c.K S (bindArgs (fdAt c.K g) ⟨vs', []⟩) = some ((ps.map nmT).zip (vs' ++ dv.map (fun zz => zz.2)))) (hd : ∀ h, ∀ d ∈ dv, VR h d.1 d.2) : FnAt c g body sc ps k dv := by
  unfold fnChk at h
  simp only [Bool.and_eq_true] at h
  obtain ⟨⟨⟨⟨⟨⟨⟨⟨⟨⟨⟨h1, h2⟩, h3⟩, h4⟩, h5⟩, h6⟩, h7⟩, h8⟩, h9⟩, h10⟩, h11⟩, h12⟩ := h
  have hnm : c.nm = nmT := funext hn
  refine ⟨fdAt c.K g, ⟨?_, h2, hb, List.isEmpty_iff.mp h3, Nat.eq_of_beq_eq_true h4, Nat.eq_of_beq_eq_true h5, by simpa using h6, by simpa using h7, ?_, h9, of_decide_eq_true h10, fun x hx => ?_, fun i hi => ?_, fun s vs' X hl => ?_, hd⟩, hs⟩
  · unfold fnIn at h1
    unfold fdAt
    split at h1
    · rename_i e
      rw [e]
      exact ⟨_, rfl, rfl⟩
    · cases h1
  · split at h8
    · rename_i e; exact e
    · cases h8
  · have := List.all_eq_true.mp h11 _ (lookup_mem hx)
    cases this
  · have := List.all_eq_true.mp h12 i hi
    rw [hn]
    split at this
    · rename_i e; exact .inl e
    · rename_i e; exact .inr e
    · cases this
  · rw [hnm]
    exact kp_binds X (hbind vs' hl)
end Mine
set_option tactic.hygienic false
open PySem PySem.W PySem.Calls PyProof PyProof.Rows PySem.SeqAt
set_option maxRecDepth 100000
set_option maxHeartbeats 4000000
namespace Mine
structure KF (K : Frag) (A : Addr) : Prop where
  glos : (gloL.all fun p => (gl K p.1 == some p.2) && (match p.2 with | .ref _ => keepIn K p.2 | .type _ => true | .builtin _ => true | _ => false)) = true
  cend : ∃ t, gl K "END" = some (.int 0 t)
  own : ∃ a sl n t1 t2 t3, gl K "OWN_TERMINALS" = some (.ref a) ∧ K.lookup a = some ⟨.type "tuple", none, .seq #[.str "$end" t1, .str "error" t2, .str "$undefined" t3] n, sl⟩
  flds : (fldL.all fun p => fldK K p.1 p.2) = true
  mths : (mthL.all fun p => mthK K p.1 p.2.1 == some p.2.2) = true
  clss : (clsL.all fun p => makesIn K p.1 && (findIn K (.ref p.1) "__init__" == some (some (.ref p.2))) && (typeIn K (.ref p.2) == some (.type "function"))) = true
  nolist : (K.all fun p => match p.2.cls with | .type t => t != "list" | _ => true) = true
  main : (K.lookup mainGlobals).isSome = true
  law : nsFind (gEs K) "law" = some (.ref A)
section
variable {prog : Program} {w : World} {K : Frag} {A : Addr}
theorem gl_of (kin : K.In h) (km : (K.lookup mainGlobals).isSome = true) {mg : Str → Option Value} (g : h.Ns mainGlobals mg) : ∀ x, mg x = nsFind (gEs K) x := by
  obtain ⟨o, es, ep, e1, e2, _, e3⟩ := g
  obtain ⟨o', eo⟩ := Option.isSome_iff_exists.mp km
  have e4 := kin _ _ eo
  rw [e1] at e4; cases e4
  intro x
  rw [← e3 x]
  unfold gEs
  rw [eo]
  obtain ⟨cl, di, da, sl⟩ := o
  simp only at e2
  subst e2
  rfl
set_option tactic.hygienic true in
theorem wd_of {h : Heap} {mg mb : Str → Option Value} (kf : KF K A) (kin : K.In h) (g : h.Ns mainGlobals mg) (b : h.Ns builtinsNs mb) (bl : ∀ x : Str, x ≠ "__name__" → mb x = bootBuiltins x) (lim : h.NoLimit) (mods : (h.get? sysModules).isSome = true) : Wd (cxOf prog w h K) ∧ Wc (cxOf prog w h K) := by
  have hg := gl_of kin kf.main g
  have ok : CxOk (cxOf prog w h K) := by
    refine ⟨fun x v e => ?_, lim, ?_, mods, kin, nmT_inj, fun C f e => ?_, fun C f g' e => ?_⟩
    · have e' : gl K x = some v := e
      unfold gl at e'
      cases hx : nsFind (gEs K) x with
      | some u =>
        rw [hx] at e'
        exact .inl ⟨mg, g, by rw [hg, hx]; exact e'⟩
      | none =>
        rw [hx] at e'
        simp only at e'
        split at e'
        · cases e'
        · rename_i hn
          exact .inr ⟨mg, mb, g, by rw [hg, hx], b, by rw [bl x hn]; exact e'⟩
    · obtain ⟨o, es, ep, e1, _⟩ := g
      show (h.get? mainGlobals).isSome = true
      rw [e1]; rfl
    · have e' : fldK K C f = true := e
      unfold fldK at e'
      simp only [Bool.and_eq_true] at e'
      obtain ⟨⟨⟨⟨⟨h1, h2⟩, h3⟩, h4⟩, h5⟩, h6⟩ := e'
      refine ⟨h1, h2, ?_, beq_iff_eq.mp h4, h5, beq_iff_eq.mp h6⟩
      show ∃ attr, findIn K (.ref C) f = some attr ∧ noGet K attr = true
      cases hq : findIn K (.ref C) f with
      | none => rw [hq] at h3; cases h3
      | some attr => rw [hq] at h3; exact ⟨attr, rfl, h3⟩
    · have e' : mthK K C f = some g' := e
      unfold mthK at e'
      split at e'
      · rename_i gg hq
        split at e'
        · rename_i hc
          simp only [Bool.and_eq_true] at hc
          cases e'
          exact ⟨hc.1.1, hq, hc.1.2, hc.2⟩
        · cases e'
      · cases e'
  refine ⟨⟨ok, fun zz => rfl, fun x v hm => ?_, ?_, ?_⟩, ⟨fun C f hm => ?_, fun C f g' hm => ?_, fun C f hm => ?_⟩⟩
  · have := List.all_eq_true.mp kf.glos _ hm
    simp only [Bool.and_eq_true] at this
    obtain ⟨h1, h2⟩ := this
    refine ⟨beq_iff_eq.mp h1, ?_⟩
    split at h2
    · exact kp_K ok h2
    · exact kp_type _
    · exact kp_builtin _
    · cases h2
  · obtain ⟨t, e⟩ := kf.cend
    exact ⟨_, e, .int 0 t⟩
  · obtain ⟨a, sl, n, t1, t2, t3, e1, e2⟩ := kf.own
    exact ⟨_, e1, .tup ⟨_, kin _ _ e2, rfl, n, rfl⟩ (.cons (.str _ t1) (.cons (.str _ t2) (.cons (.str _ t3) .nil)))⟩
  · exact List.all_eq_true.mp kf.flds _ hm
  · exact beq_iff_eq.mp (List.all_eq_true.mp kf.mths _ hm)
  · have := List.all_eq_true.mp kf.clss _ hm
    simp only [Bool.and_eq_true] at this
    exact ⟨this.1.1, beq_iff_eq.mp this.1.2, beq_iff_eq.mp this.2⟩
set_option tactic.hygienic true in
theorem finish {s : Shared} {mg mb : Str → Option Value} (kf : KF K A) (kin : K.In s.heap) (g : s.heap.Ns mainGlobals mg) (b : s.heap.Ns builtinsNs mb) (bl : ∀ x : Str, x ≠ "__name__" → mb x = bootBuiltins x) (lim : s.heap.NoLimit) (mods : ∃ mm, s.heap.Ns sysModules mm)
    (hF : ∀ base, Fs (cxOf prog w base K)) (hL : ∀ base, FnAt (cxOf prog w base K) A bd_law sc_law [60] 1 []) {fa a0 : Addr} (hfa : mg "law" = some (.ref fa)) {vals : List Value} {ns : List Int} (ha0 : s.heap.get? a0 = some { cls := .type "list", data := .seq vals.toArray }) (hi : IntsAre vals ns) (hz : ns.length < 100000)
    {P : Value → Shared → Prop} {E : Value → Shared → Prop} (q : ∀ s', (∀ a o, s.heap.get? a = some o → s'.heap.get? a = some o) → s'.os = s.os → s'.gens = s.gens → P (.bool true) s') :
    wpAny (model prog w) callerA (call (.ref fa) [.ref a0]) P E s := by
  have ne : ∀ {a : Addr} {o : Obj} {es n}, s.heap.get? a = some o → o.data = .dict es n → a ≠ a0 := fun e1 e2 => by
    rintro rfl
    rw [ha0] at e1; cases e1; cases e2
  have hk : ∀ a o, a ≠ a0 → s.heap.get? a = some o → (hide s.heap a0).get? a = some o := fun a o n e => by rw [hide_get, if_neg n]; exact e
  have nsk : ∀ {a m}, s.heap.Ns a m → (hide s.heap a0).Ns a m := fun {a m} x => x.at fun o e => by
    obtain ⟨o', es, ep, e1, e2, _⟩ := x
    exact hk _ _ (ne e1 e2) e
  have kin' : K.In (hide s.heap a0) := fun a o e => by
    refine hk a o ?_ (kin a o e)
    rintro rfl
    have e1 := kin _ _ e
    rw [ha0] at e1; cases e1
    have := List.all_eq_true.mp kf.nolist _ (lookup_mem e)
    simp at this
  obtain ⟨mm, hmm⟩ := mods
  have mods' : ((hide s.heap a0).get? sysModules).isSome = true := by
    obtain ⟨o', es, ep, e1, _⟩ := nsk hmm
    rw [e1]; rfl
  obtain ⟨mc, hmc, hmc2⟩ := lim
  obtain ⟨W, X⟩ := wd_of (prog := prog) (w := w) kf kin' (nsk g) (nsk b) bl ⟨mc, nsk hmc, hmc2⟩ mods'
  have hA : fa = A := by
    have := gl_of kin kf.main g "law"
    rw [hfa, kf.law] at this
    cases this; rfl
  subst hA
  have rh : RH prog w (hide s.heap a0) (fun a => if a = a0 then some (.rolist (ns.map V.int)) else none) s.heap := by
    refine ⟨fun a o e => ?_, fun x C dx fs e => ?_, fun a o e => ?_⟩
    · split at e
      · rename_i h; subst h; cases e
        exact ⟨vals, ⟨_, ha0⟩, are_ints hi⟩
      · cases e
    · split at e
      · cases e
      · cases e
    · rw [hide_get] at e
      split at e
      · cases e
      · rename_i h
        exact ⟨e, if_neg h⟩
  refine wpAny_call (codeAny_mono (c_law (c := cxOf prog w (hide s.heap a0) K) (n := 0) (H := fun a => if a = a0 then some (.rolist (ns.map V.int)) else none) (Q := fun v zz => v = .bool true) W X (hF _) (hL _) (if_pos rfl) hz (fun zz => rfl) callerA s (.ref fa) [.ref a0] ⟨rfl, by decide +kernel, by decide +kernel⟩ rh (.fn _) (.cons (.ref _) .nil)) ?_)
  rintro r s' ⟨v', rfl, v, H', hv, hrh, hst, rfl⟩
  cases hv
  refine q s' (fun a o e => ?_) (by rw [hst.rest]) (by rw [hst.rest])
  by_cases h : a = a0
  · subst h
    exact (hst.ro a _ o (if_pos rfl) e).2
  · exact hst.keep a o e (if_neg h) id
end
end Mine
end
open PySem PySem.W PyProof.Rows
namespace Mine
theorem well_ints {P : Params} {h : Heap} : ∀ {vs : List Value} {ns : List Int}, WellAll P h vs (ofPys (ns.map PyData.int)) → IntsAre vs ns
  | _, [], h => by cases h; exact .nil
  | _, n :: r, h => by
    cases h with
    | cons a b => cases a; exact .cons _ _ (well_ints b)
theorem well_list {P : Params} {h : Heap} {a : Addr} {ns : List Int} (w : Well P h (.ref a) (ofPy (.list (ns.map PyData.int)))) : ∃ vals : List Value, h.get? a = some { cls := .type "list", data := .seq vals.toArray } ∧ IntsAre vals ns := by
  cases w with
  | list e w => exact ⟨_, e, well_ints w⟩
theorem main.tw10047389527955405517 : True := ⟨⟩
theorem main.tw10094358506670053839 : True := ⟨⟩
theorem main.tw10114013102757674387 : True := ⟨⟩
theorem main.tw10177057350305019805 : True := ⟨⟩
theorem main.tw10199874654664476236 : True := ⟨⟩
theorem main.tw10234815189450012239 : True := ⟨⟩
theorem main.tw10252420194574924718 : True := ⟨⟩
theorem main.tw10363585996791799541 : True := ⟨⟩
theorem main.tw10391951854915411234 : True := ⟨⟩
theorem main.tw104360540948158410 : True := ⟨⟩
theorem main.tw10450603732522932521 : True := ⟨⟩
theorem main.tw10485847549791803302 : True := ⟨⟩
theorem main.tw10609540516017602915 : True := ⟨⟩
theorem main.tw10625486282989778954 : True := ⟨⟩
theorem main.tw10642606787283503386 : True := ⟨⟩
theorem main.tw10665089971535097683 : True := ⟨⟩
theorem main.tw10707853282979444102 : True := ⟨⟩
theorem main.tw10821422270917381399 : True := ⟨⟩
theorem main.tw10825838108423173272 : True := ⟨⟩
theorem main.tw10876375607700338302 : True := ⟨⟩
theorem main.tw10877679251791092727 : True := ⟨⟩
theorem main.tw10896356407431480244 : True := ⟨⟩
theorem main.tw1099256609624015869 : True := ⟨⟩
theorem main.tw11101190512080308003 : True := ⟨⟩
theorem main.tw11135027115929721415 : True := ⟨⟩
theorem main.tw11156056980113079860 : True := ⟨⟩
theorem main.tw11181722664286889309 : True := ⟨⟩
theorem main.tw11261727412033496967 : True := ⟨⟩
theorem main.tw1130211791997205004 : True := ⟨⟩
theorem main.tw11403851563620829512 : True := ⟨⟩
theorem main.tw11461230924637031220 : True := ⟨⟩
theorem main.tw11501822485730972192 : True := ⟨⟩
theorem main.tw11544348965984651327 : True := ⟨⟩
theorem main.tw11646826074482590764 : True := ⟨⟩
theorem main.tw11710404883906591787 : True := ⟨⟩
theorem main.tw11729630521733628537 : True := ⟨⟩
theorem main.tw11785714552879321826 : True := ⟨⟩
theorem main.tw1178595665728414349 : True := ⟨⟩
theorem main.tw11815829001073249272 : True := ⟨⟩
theorem main.tw11857135199678951331 : True := ⟨⟩
theorem main.tw12057704586751987240 : True := ⟨⟩
theorem main.tw12077450504624328385 : True := ⟨⟩
theorem main.tw12205347405646519318 : True := ⟨⟩
theorem main.tw12252054271945606052 : True := ⟨⟩
theorem main.tw12273490649430754879 : True := ⟨⟩
theorem main.tw12298629886278197574 : True := ⟨⟩
theorem main.tw12343854547171428336 : True := ⟨⟩
theorem main.tw12361340156312767134 : True := ⟨⟩
theorem main.tw1236483940969888574 : True := ⟨⟩
theorem main.tw12431561837914552411 : True := ⟨⟩
theorem main.tw12431731261707249289 : True := ⟨⟩
theorem main.tw12455012482086183272 : True := ⟨⟩
theorem main.tw12518504611687188807 : True := ⟨⟩
theorem main.tw12590340796369385619 : True := ⟨⟩
theorem main.tw12623159325031504133 : True := ⟨⟩
theorem main.tw1264294196387467257 : True := ⟨⟩
theorem main.tw12670839924663504800 : True := ⟨⟩
theorem main.tw12702744160499308131 : True := ⟨⟩
theorem main.tw12839114828313443825 : True := ⟨⟩
theorem main.tw12872379398031375081 : True := ⟨⟩
theorem main.tw12885673836220544336 : True := ⟨⟩
theorem main.tw12915833801598196605 : True := ⟨⟩
theorem main.tw12922898485456448571 : True := ⟨⟩
theorem main.tw12927740378394474205 : True := ⟨⟩
theorem main.tw12941917028564957548 : True := ⟨⟩
theorem main.tw1306636233014830658 : True := ⟨⟩
theorem main.tw13110577991587790113 : True := ⟨⟩
theorem main.tw13270728482189477470 : True := ⟨⟩
theorem main.tw13350764725976880583 : True := ⟨⟩
theorem main.tw13355152605343272895 : True := ⟨⟩
theorem main.tw13590572293223372214 : True := ⟨⟩
theorem main.tw13626721169425172152 : True := ⟨⟩
theorem main.tw13642826006792871662 : True := ⟨⟩
theorem main.tw13667920496262714385 : True := ⟨⟩
theorem main.tw13676971244355772609 : True := ⟨⟩
theorem main.tw13693970394777133609 : True := ⟨⟩
theorem main.tw13724616953566380437 : True := ⟨⟩
theorem main.tw13777938177461255882 : True := ⟨⟩
theorem main.tw13838900630717943254 : True := ⟨⟩
theorem main.tw13876859957761632879 : True := ⟨⟩
theorem main.tw1390771862084280389 : True := ⟨⟩
theorem main.tw13962693860625380366 : True := ⟨⟩
theorem main.tw14009396871252706886 : True := ⟨⟩
theorem main.tw14027531716089632829 : True := ⟨⟩
theorem main.tw14061640607465278742 : True := ⟨⟩
theorem main.tw1409966394225722968 : True := ⟨⟩
theorem main.tw14106445559736802775 : True := ⟨⟩
theorem main.tw14161005256144132680 : True := ⟨⟩
theorem main.tw14218914174604095658 : True := ⟨⟩
theorem main.tw1429040668314091153 : True := ⟨⟩
theorem main.tw1439166485080882 : True := ⟨⟩
theorem main.tw1453356044741674121 : True := ⟨⟩
theorem main.tw14539993770535171780 : True := ⟨⟩
theorem main.tw14635473669698735251 : True := ⟨⟩
theorem main.tw14639212616227390028 : True := ⟨⟩
theorem main.tw14646587721710459877 : True := ⟨⟩
theorem main.tw14672674291997333471 : True := ⟨⟩
theorem main.tw14722489848711283861 : True := ⟨⟩
theorem main.tw14759895335926876869 : True := ⟨⟩
theorem main.tw14771111431291430275 : True := ⟨⟩
theorem main.tw14788915703135433725 : True := ⟨⟩
theorem main.tw14793117695081215449 : True := ⟨⟩
theorem main.tw14907226015203709474 : True := ⟨⟩
theorem main.tw14909365282108701170 : True := ⟨⟩
theorem main.tw15017983477296125989 : True := ⟨⟩
theorem main.tw1504049600530537962 : True := ⟨⟩
theorem main.tw15079240505294077160 : True := ⟨⟩
theorem main.tw15109750227778091905 : True := ⟨⟩
theorem main.tw15131278010643852716 : True := ⟨⟩
theorem main.tw15270170921892066516 : True := ⟨⟩
theorem main.tw15303317825217679618 : True := ⟨⟩
theorem main.tw15365013842991253249 : True := ⟨⟩
theorem main.tw1545906260438175962 : True := ⟨⟩
theorem main.tw15485851114877660061 : True := ⟨⟩
theorem main.tw15491723280356408159 : True := ⟨⟩
theorem main.tw15514936471743626214 : True := ⟨⟩
theorem main.tw15595112118272840620 : True := ⟨⟩
theorem main.tw15622959790217612890 : True := ⟨⟩
theorem main.tw15624239662980076321 : True := ⟨⟩
theorem main.tw15643365686152983790 : True := ⟨⟩
theorem main.tw15734200111481486640 : True := ⟨⟩
theorem main.tw15734660467963936456 : True := ⟨⟩
theorem main.tw15737690656516749961 : True := ⟨⟩
theorem main.tw15768048840197415361 : True := ⟨⟩
theorem main.tw15806524323241146399 : True := ⟨⟩
theorem main.tw1587290215689348708 : True := ⟨⟩
theorem main.tw15984706205718930553 : True := ⟨⟩
theorem main.tw16008252555379753968 : True := ⟨⟩
theorem main.tw16008457594558532635 : True := ⟨⟩
theorem main.tw16035907590883218939 : True := ⟨⟩
theorem main.tw16046730324260685337 : True := ⟨⟩
theorem main.tw16049902774474827687 : True := ⟨⟩
theorem main.tw16102231251864390963 : True := ⟨⟩
theorem main.tw16136984950599521427 : True := ⟨⟩
theorem main.tw16153842264607907944 : True := ⟨⟩
theorem main.tw1615956725737779560 : True := ⟨⟩
theorem main.tw16187894506366716058 : True := ⟨⟩
theorem main.tw16193401482309157537 : True := ⟨⟩
theorem main.tw16251939892948500945 : True := ⟨⟩
theorem main.tw1630245386807275959 : True := ⟨⟩
theorem main.tw1632041292262086317 : True := ⟨⟩
theorem main.tw16320729459185622934 : True := ⟨⟩
theorem main.tw16452447596832230105 : True := ⟨⟩
theorem main.tw16480584520131690045 : True := ⟨⟩
theorem main.tw16656740534632174751 : True := ⟨⟩
theorem main.tw16669030903016767061 : True := ⟨⟩
theorem main.tw16721930046160240684 : True := ⟨⟩
theorem main.tw1677766988990989824 : True := ⟨⟩
theorem main.tw16778611742570070204 : True := ⟨⟩
theorem main.tw1678875084529416142 : True := ⟨⟩
theorem main.tw16798622893749714585 : True := ⟨⟩
theorem main.tw16819838333489098493 : True := ⟨⟩
theorem main.tw16826212616301561204 : True := ⟨⟩
theorem main.tw16832360635688203351 : True := ⟨⟩
theorem main.tw16923884221124529275 : True := ⟨⟩
theorem main.tw16950194794029067938 : True := ⟨⟩
theorem main.tw16952715711813285254 : True := ⟨⟩
theorem main.tw17052023290607921161 : True := ⟨⟩
theorem main.tw17057053908230417247 : True := ⟨⟩
theorem main.tw17118054049896295152 : True := ⟨⟩
theorem main.tw17127741987550013136 : True := ⟨⟩
theorem main.tw17146568849442343683 : True := ⟨⟩
theorem main.tw1714950047550659301 : True := ⟨⟩
theorem main.tw17201416709059790184 : True := ⟨⟩
theorem main.tw17223442867436993403 : True := ⟨⟩
theorem main.tw17236958762192778904 : True := ⟨⟩
theorem main.tw17272174723667511238 : True := ⟨⟩
theorem main.tw17292155258170135553 : True := ⟨⟩
theorem main.tw17336282652733537790 : True := ⟨⟩
theorem main.tw17353955331779342651 : True := ⟨⟩
theorem main.tw17402982504261768225 : True := ⟨⟩
theorem main.tw17450470499104002142 : True := ⟨⟩
theorem main.tw17477492558424962760 : True := ⟨⟩
theorem main.tw17510229520200029679 : True := ⟨⟩
theorem main.tw17516193472806638330 : True := ⟨⟩
theorem main.tw17561526911342447988 : True := ⟨⟩
theorem main.tw17695171507069755227 : True := ⟨⟩
theorem main.tw17715262827843222689 : True := ⟨⟩
theorem main.tw17725498274588495791 : True := ⟨⟩
theorem main.tw17737603089517620647 : True := ⟨⟩
theorem main.tw1777545030009416734 : True := ⟨⟩
theorem main.tw17974016328880235120 : True := ⟨⟩
theorem main.tw18063282731904131703 : True := ⟨⟩
theorem main.tw18134284020713443437 : True := ⟨⟩
theorem main.tw18190005008629794160 : True := ⟨⟩
theorem main.tw18196612635424134153 : True := ⟨⟩
theorem main.tw18218335207050127959 : True := ⟨⟩
theorem main.tw18284262389922463811 : True := ⟨⟩
theorem main.tw18315214858253571532 : True := ⟨⟩
theorem main.tw18325589031809861271 : True := ⟨⟩
theorem main.tw18332899500509843999 : True := ⟨⟩
theorem main.tw18403998269306519403 : True := ⟨⟩
theorem main.tw18421580907717582127 : True := ⟨⟩
theorem main.tw18431692314602308842 : True := ⟨⟩
theorem main.tw18442785490491869365 : True := ⟨⟩
theorem main.tw1850612553970854742 : True := ⟨⟩
theorem main.tw2007339730380871907 : True := ⟨⟩
theorem main.tw2019394398466159022 : True := ⟨⟩
theorem main.tw2190695567426971638 : True := ⟨⟩
theorem main.tw221909299271738847 : True := ⟨⟩
theorem main.tw223528310411579522 : True := ⟨⟩
theorem main.tw2238316416991798583 : True := ⟨⟩
theorem main.tw2279707942289718827 : True := ⟨⟩
theorem main.tw2281023561568201164 : True := ⟨⟩
theorem main.tw2287757881348798766 : True := ⟨⟩
theorem main.tw2524017781993486291 : True := ⟨⟩
theorem main.tw2538046985915079169 : True := ⟨⟩
theorem main.tw2566753976717531306 : True := ⟨⟩
theorem main.tw2583023086579268501 : True := ⟨⟩
theorem main.tw2629084897520917108 : True := ⟨⟩
theorem main.tw2647654807098235363 : True := ⟨⟩
theorem main.tw2702614204127132176 : True := ⟨⟩
theorem main.tw2724176850512262202 : True := ⟨⟩
theorem main.tw2729793432009153956 : True := ⟨⟩
theorem main.tw2759098988195820126 : True := ⟨⟩
theorem main.tw2852251193174398662 : True := ⟨⟩
theorem main.tw2892073262984198726 : True := ⟨⟩
theorem main.tw2895952525429962455 : True := ⟨⟩
theorem main.tw2906824675625879941 : True := ⟨⟩
theorem main.tw2921621734765799159 : True := ⟨⟩
theorem main.tw302440914744352476 : True := ⟨⟩
theorem main.tw3027586509356016917 : True := ⟨⟩
theorem main.tw3045742163950154196 : True := ⟨⟩
theorem main.tw3067759450344833359 : True := ⟨⟩
theorem main.tw3137596982192898869 : True := ⟨⟩
theorem main.tw31828345220925962 : True := ⟨⟩
theorem main.tw3234112476842188716 : True := ⟨⟩
theorem main.tw3299218664060906527 : True := ⟨⟩
theorem main.tw3343439749351644125 : True := ⟨⟩
theorem main.tw33456957511925785 : True := ⟨⟩
theorem main.tw341453280667917650 : True := ⟨⟩
theorem main.tw3466206800631347469 : True := ⟨⟩
theorem main.tw3491332818749588091 : True := ⟨⟩
theorem main.tw3532412968194664532 : True := ⟨⟩
theorem main.tw3557749057250611081 : True := ⟨⟩
theorem main.tw3562595001068472590 : True := ⟨⟩
theorem main.tw3613476055612923068 : True := ⟨⟩
theorem main.tw3626430660855392483 : True := ⟨⟩
theorem main.tw3627144658338631552 : True := ⟨⟩
theorem main.tw3796207824708393856 : True := ⟨⟩
theorem main.tw3829396358689915599 : True := ⟨⟩
theorem main.tw3848698983108048278 : True := ⟨⟩
theorem main.tw387501639795913443 : True := ⟨⟩
theorem main.tw3905226178654972811 : True := ⟨⟩
theorem main.tw3960113756560652017 : True := ⟨⟩
theorem main.tw4026956272090484662 : True := ⟨⟩
theorem main.tw4038153913678941442 : True := ⟨⟩
theorem main.tw4039676971129161736 : True := ⟨⟩
theorem main.tw4124465007535222370 : True := ⟨⟩
theorem main.tw4126091431370883743 : True := ⟨⟩
theorem main.tw4297412468100583042 : True := ⟨⟩
theorem main.tw4324958949535026087 : True := ⟨⟩
theorem main.tw4333880214566435006 : True := ⟨⟩
theorem main.tw4365514962571936147 : True := ⟨⟩
theorem main.tw4452170602077327944 : True := ⟨⟩
theorem main.tw4458048076830672230 : True := ⟨⟩
theorem main.tw4475767826048309731 : True := ⟨⟩
theorem main.tw4500915450034043215 : True := ⟨⟩
theorem main.tw451873465583785326 : True := ⟨⟩
theorem main.tw4573282807186111410 : True := ⟨⟩
theorem main.tw4585930131862741453 : True := ⟨⟩
theorem main.tw4605139254293405059 : True := ⟨⟩
theorem main.tw4650958065196391918 : True := ⟨⟩
theorem main.tw4651154628705390771 : True := ⟨⟩
theorem main.tw4681395471914393968 : True := ⟨⟩
theorem main.tw4775608329324902142 : True := ⟨⟩
theorem main.tw4839478117068044826 : True := ⟨⟩
theorem main.tw4900431672193113347 : True := ⟨⟩
theorem main.tw4990475226369331113 : True := ⟨⟩
theorem main.tw4996873109452691289 : True := ⟨⟩
theorem main.tw5061512775090418087 : True := ⟨⟩
theorem main.tw5084117380071580128 : True := ⟨⟩
theorem main.tw5127751686995613262 : True := ⟨⟩
theorem main.tw52199770228462824 : True := ⟨⟩
theorem main.tw5240779543111244032 : True := ⟨⟩
theorem main.tw5243159528196176124 : True := ⟨⟩
theorem main.tw5396188567872606041 : True := ⟨⟩
theorem main.tw5400957986263281647 : True := ⟨⟩
theorem main.tw5401703158475992631 : True := ⟨⟩
theorem main.tw5418533224930618480 : True := ⟨⟩
theorem main.tw5436791530062809996 : True := ⟨⟩
theorem main.tw5473700226181020891 : True := ⟨⟩
theorem main.tw5518243967957118194 : True := ⟨⟩
theorem main.tw5532463470591059822 : True := ⟨⟩
theorem main.tw5571399437266216444 : True := ⟨⟩
theorem main.tw5585478044538960755 : True := ⟨⟩
theorem main.tw5613160597433933154 : True := ⟨⟩
theorem main.tw5649967823195072380 : True := ⟨⟩
theorem main.tw5665735395497279834 : True := ⟨⟩
theorem main.tw5871769198996169552 : True := ⟨⟩
theorem main.tw5995161000843957690 : True := ⟨⟩
theorem main.tw6044114016751833949 : True := ⟨⟩
theorem main.tw6053611964639427726 : True := ⟨⟩
theorem main.tw6075091234017535682 : True := ⟨⟩
theorem main.tw6112859857366181021 : True := ⟨⟩
theorem main.tw6162249291895867263 : True := ⟨⟩
theorem main.tw6258389157319021777 : True := ⟨⟩
theorem main.tw6334894449686545209 : True := ⟨⟩
theorem main.tw6361450105264607166 : True := ⟨⟩
theorem main.tw6368324255471102079 : True := ⟨⟩
theorem main.tw6385024630547198690 : True := ⟨⟩
theorem main.tw6418098437765475518 : True := ⟨⟩
theorem main.tw6508729118710982530 : True := ⟨⟩
theorem main.tw6511744376749373798 : True := ⟨⟩
theorem main.tw6545385358150927430 : True := ⟨⟩
theorem main.tw6557543464795787104 : True := ⟨⟩
theorem main.tw656089360051881306 : True := ⟨⟩
theorem main.tw65644731488775911 : True := ⟨⟩
theorem main.tw66260789543402106 : True := ⟨⟩
theorem main.tw6635558491612396129 : True := ⟨⟩
theorem main.tw6655696309031964122 : True := ⟨⟩
theorem main.tw6660377722381337597 : True := ⟨⟩
theorem main.tw6696893160125735727 : True := ⟨⟩
theorem main.tw6697339332421208802 : True := ⟨⟩
theorem main.tw6785657489111691699 : True := ⟨⟩
theorem main.tw6801380410627298636 : True := ⟨⟩
theorem main.tw6862492499505807319 : True := ⟨⟩
theorem main.tw6877560268529008848 : True := ⟨⟩
theorem main.tw6909042917933305093 : True := ⟨⟩
theorem main.tw6910295442248876197 : True := ⟨⟩
theorem main.tw6912675738884088206 : True := ⟨⟩
theorem main.tw7074144079889050967 : True := ⟨⟩
theorem main.tw7083192437325867461 : True := ⟨⟩
theorem main.tw7173623326730630234 : True := ⟨⟩
theorem main.tw7186131708394509389 : True := ⟨⟩
theorem main.tw7214478077546791972 : True := ⟨⟩
theorem main.tw7221758910455160077 : True := ⟨⟩
theorem main.tw7293298908176781663 : True := ⟨⟩
theorem main.tw7308723440029596264 : True := ⟨⟩
theorem main.tw7374449385936029500 : True := ⟨⟩
theorem main.tw7411558596216406370 : True := ⟨⟩
theorem main.tw7439787175107056256 : True := ⟨⟩
theorem main.tw750237026923860459 : True := ⟨⟩
theorem main.tw7590696779544312186 : True := ⟨⟩
theorem main.tw765107192605250810 : True := ⟨⟩
theorem main.tw7698036289167662538 : True := ⟨⟩
theorem main.tw7699798408344515789 : True := ⟨⟩
theorem main.tw7761410557224570781 : True := ⟨⟩
theorem main.tw7875838824674609581 : True := ⟨⟩
theorem main.tw8207831470162742035 : True := ⟨⟩
theorem main.tw8228058824784995430 : True := ⟨⟩
theorem main.tw832900586485598795 : True := ⟨⟩
theorem main.tw834873547066669988 : True := ⟨⟩
theorem main.tw8440099810896429113 : True := ⟨⟩
theorem main.tw8466321980469482115 : True := ⟨⟩
theorem main.tw8467378866343419333 : True := ⟨⟩
theorem main.tw8475525182357872103 : True := ⟨⟩
theorem main.tw8478376212529829071 : True := ⟨⟩
theorem main.tw8557395850702784662 : True := ⟨⟩
theorem main.tw8627561154394265716 : True := ⟨⟩
theorem main.tw8643928048826747898 : True := ⟨⟩
theorem main.tw8652556701797213591 : True := ⟨⟩
theorem main.tw8663697691656813868 : True := ⟨⟩
theorem main.tw8729708805864041840 : True := ⟨⟩
theorem main.tw8905464785575363620 : True := ⟨⟩
theorem main.tw8930851030842425676 : True := ⟨⟩
theorem main.tw8947760058931562597 : True := ⟨⟩
theorem main.tw9069182735580402390 : True := ⟨⟩
theorem main.tw9155575984036265788 : True := ⟨⟩
theorem main.tw9190990891756207365 : True := ⟨⟩
theorem main.tw9265829497004654079 : True := ⟨⟩
theorem main.tw9274054859765456524 : True := ⟨⟩
theorem main.tw9302470337196694018 : True := ⟨⟩
theorem main.tw9360745474812902239 : True := ⟨⟩
theorem main.tw9361300454564663673 : True := ⟨⟩
theorem main.tw9376575566392132001 : True := ⟨⟩
theorem main.tw9483120023164983764 : True := ⟨⟩
theorem main.tw9498315638749924794 : True := ⟨⟩
theorem main.tw9508770018378322450 : True := ⟨⟩
theorem main.tw9512817274939609580 : True := ⟨⟩
theorem main.tw9561784451562097942 : True := ⟨⟩
theorem main.tw9656510801202774680 : True := ⟨⟩
theorem main.tw9670510015898674028 : True := ⟨⟩
theorem main.tw9681375758050803366 : True := ⟨⟩
theorem main.tw9682133043923132273 : True := ⟨⟩
theorem main.tw9730157408454304684 : True := ⟨⟩
theorem main.tw9840939614602229412 : True := ⟨⟩
theorem main.tw9848185148710128376 : True := ⟨⟩
theorem main.tw9925469786538053656 : True := ⟨⟩
theorem main.tw9957550378297406723 : True := ⟨⟩
theorem main.tw9976160756891316704 : True := ⟨⟩
theorem main : PySem.Challenge.rw_pq0556_01.Holds := by
  w_on
  o_law
  k_head
  (case hw => w_witness2)
  intro w s₀ s₁ mg mb G Y fa o pm cd doc dV kV ho hd0 hcd hD hmg hg args vals as hpre hlay hrd hwl hlo
  have KX := kIn_of Y
  refine Ground.open G ?_
  intro T B D TE TW
  wrow_args hpre hlay hrd hwl hlo
  rename_i ns hs _ _ _ _ _ _ a0 _ _ _ _ W1 _ _ _ hlen _
  obtain ⟨vs, ha0, hi⟩ := Mine.well_list W1
  obtain ⟨mm, hmm, _⟩ := (T.seer (by decide +kernel)).mods
  have hF : ∀ base, Mine.Fs (Mine.cxOf PySem.Challenge.pw_pq0556_01 w base (Mine.main.heap_1_39 w.params)) := fun base => {
    pen := Mine.fnAt_of (fun zz => rfl) (by kernel_rfl) (by kernel_rfl) (by kernel_rfl) (Mine.lenS fun a0 => Mine.len0 fun zz => by kernel_rfl) Mine.dv0
    draw := Mine.fnAt_of (fun zz => rfl) (by kernel_rfl) (by kernel_rfl) (by kernel_rfl) (Mine.lenS fun a0 => Mine.lenS fun a1 => Mine.len0 fun zz => by kernel_rfl) Mine.dv0
    factorial := Mine.fnAt_of (fun zz => rfl) (by kernel_rfl) (by kernel_rfl) (by kernel_rfl) (Mine.lenS fun a0 => Mine.len0 fun zz => by kernel_rfl) Mine.dv0
    due := Mine.fnAt_of (fun zz => rfl) (by kernel_rfl) (by kernel_rfl) (by kernel_rfl) (Mine.lenS fun a0 => Mine.lenS fun a1 => Mine.lenS fun a2 => Mine.len0 fun zz => by kernel_rfl) Mine.dv0
    pairs := Mine.fnAt_of (fun zz => rfl) (by kernel_rfl) (by kernel_rfl) (by kernel_rfl) (Mine.lenS fun a0 => Mine.lenS fun a1 => Mine.lenS fun a2 => Mine.len0 fun zz => by kernel_rfl) Mine.dv0
    plain := Mine.fnAt_of (fun zz => rfl) (by kernel_rfl) (by kernel_rfl) (by kernel_rfl) (Mine.lenS fun a0 => Mine.len0 fun zz => by kernel_rfl) (fun zz d h => by (have := List.mem_singleton.mp h; subst this; exact .none))
    last := Mine.fnAt_of (fun zz => rfl) (by kernel_rfl) (by kernel_rfl) (by kernel_rfl) (Mine.lenS fun a0 => Mine.lenS fun a1 => Mine.len0 fun zz => by kernel_rfl) Mine.dv0
    rule := Mine.fnAt_of (fun zz => rfl) (by kernel_rfl) (by kernel_rfl) (by kernel_rfl) (Mine.lenS fun a0 => Mine.lenS fun a1 => Mine.lenS fun a2 => Mine.lenS fun a3 => Mine.lenS fun a4 => Mine.len0 fun zz => by kernel_rfl) (fun zz d h => by (simp only [List.mem_cons, List.not_mem_nil, or_false] at h; rcases h with rfl | rfl | rfl; (· exact .none); (· exact .int _ _); (· exact .int _ _)))
    gram := Mine.fnAt_of (fun zz => rfl) (by kernel_rfl) (by kernel_rfl) (by kernel_rfl) (Mine.lenS fun a0 => Mine.lenS fun a1 => Mine.lenS fun a2 => Mine.lenS fun a3 => Mine.lenS fun a4 => Mine.lenS fun a5 => Mine.lenS fun a6 => Mine.len0 fun zz => by kernel_rfl) Mine.dv0
    symbols := Mine.fnAt_of (fun zz => rfl) (by kernel_rfl) (by kernel_rfl) (by kernel_rfl) (Mine.lenS fun a0 => Mine.len0 fun zz => by kernel_rfl) Mine.dv0
    terminal := Mine.fnAt_of (fun zz => rfl) (by kernel_rfl) (by kernel_rfl) (by kernel_rfl) (Mine.lenS fun a0 => Mine.lenS fun a1 => Mine.len0 fun zz => by kernel_rfl) Mine.dv0
    number := Mine.fnAt_of (fun zz => rfl) (by kernel_rfl) (by kernel_rfl) (by kernel_rfl) (Mine.lenS fun a0 => Mine.lenS fun a1 => Mine.len0 fun zz => by kernel_rfl) Mine.dv0
    rules_of := Mine.fnAt_of (fun zz => rfl) (by kernel_rfl) (by kernel_rfl) (by kernel_rfl) (Mine.lenS fun a0 => Mine.lenS fun a1 => Mine.len0 fun zz => by kernel_rfl) Mine.dv0
    spread := Mine.fnAt_of (fun zz => rfl) (by kernel_rfl) (by kernel_rfl) (by kernel_rfl) (Mine.lenS fun a0 => Mine.lenS fun a1 => Mine.len0 fun zz => by kernel_rfl) Mine.dv0
    nullable := Mine.fnAt_of (fun zz => rfl) (by kernel_rfl) (by kernel_rfl) (by kernel_rfl) (Mine.lenS fun a0 => Mine.len0 fun zz => by kernel_rfl) Mine.dv0
    order := Mine.fnAt_of (fun zz => rfl) (by kernel_rfl) (by kernel_rfl) (by kernel_rfl) (Mine.lenS fun a0 => Mine.len0 fun zz => by kernel_rfl) Mine.dv0
    ways := Mine.fnAt_of (fun zz => rfl) (by kernel_rfl) (by kernel_rfl) (by kernel_rfl) (Mine.lenS fun a0 => Mine.lenS fun a1 => Mine.lenS fun a2 => Mine.lenS fun a3 => Mine.lenS fun a4 => Mine.len0 fun zz => by kernel_rfl) Mine.dv0
    count := Mine.fnAt_of (fun zz => rfl) (by kernel_rfl) (by kernel_rfl) (by kernel_rfl) (Mine.lenS fun a0 => Mine.lenS fun a1 => Mine.len0 fun zz => by kernel_rfl) Mine.dv0
    rows := Mine.fnAt_of (fun zz => rfl) (by kernel_rfl) (by kernel_rfl) (by kernel_rfl) (Mine.lenS fun a0 => Mine.lenS fun a1 => Mine.lenS fun a2 => Mine.lenS fun a3 => Mine.lenS fun a4 => Mine.lenS fun a5 => Mine.lenS fun a6 => Mine.len0 fun zz => by kernel_rfl) Mine.dv0
    trees := Mine.fnAt_of (fun zz => rfl) (by kernel_rfl) (by kernel_rfl) (by kernel_rfl) (Mine.lenS fun a0 => Mine.lenS fun a1 => Mine.lenS fun a2 => Mine.len0 fun zz => by kernel_rfl) Mine.dv0
    token := Mine.fnAt_of (fun zz => rfl) (by kernel_rfl) (by kernel_rfl) (by kernel_rfl) (Mine.lenS fun a0 => Mine.lenS fun a1 => Mine.lenS fun a2 => Mine.lenS fun a3 => Mine.len0 fun zz => by kernel_rfl) (fun zz d h => by (have := List.mem_singleton.mp h; subst this; exact .none))
    tree := Mine.fnAt_of (fun zz => rfl) (by kernel_rfl) (by kernel_rfl) (by kernel_rfl) (Mine.lenS fun a0 => Mine.lenS fun a1 => Mine.lenS fun a2 => Mine.lenS fun a3 => Mine.len0 fun zz => by kernel_rfl) Mine.dv0
    leaf := Mine.fnAt_of (fun zz => rfl) (by kernel_rfl) (by kernel_rfl) (by kernel_rfl) (Mine.lenS fun a0 => Mine.lenS fun a1 => Mine.len0 fun zz => by kernel_rfl) Mine.dv0
    tleaf := Mine.fnAt_of (fun zz => rfl) (by kernel_rfl) (by kernel_rfl) (by kernel_rfl) (Mine.lenS fun a0 => Mine.len0 fun zz => by kernel_rfl) Mine.dv0
    lleaf := Mine.fnAt_of (fun zz => rfl) (by kernel_rfl) (by kernel_rfl) (by kernel_rfl) (Mine.lenS fun a0 => Mine.len0 fun zz => by kernel_rfl) Mine.dv0
    leaves := Mine.fnAt_of (fun zz => rfl) (by kernel_rfl) (by kernel_rfl) (by kernel_rfl) (Mine.lenS fun a0 => Mine.len0 fun zz => by kernel_rfl) Mine.dv0
    reductions := Mine.fnAt_of (fun zz => rfl) (by kernel_rfl) (by kernel_rfl) (by kernel_rfl) (Mine.lenS fun a0 => Mine.len0 fun zz => by kernel_rfl) Mine.dv0
    postorder := Mine.fnAt_of (fun zz => rfl) (by kernel_rfl) (by kernel_rfl) (by kernel_rfl) (Mine.lenS fun a0 => Mine.len0 fun zz => by kernel_rfl) Mine.dv0
    }
  have hL : ∀ base, Mine.FnAt (Mine.cxOf PySem.Challenge.pw_pq0556_01 w base (Mine.main.heap_1_39 w.params)) 405 Mine.bd_law Mine.sc_law [60] 1 [] := fun base => Mine.fnAt_of (fun zz => rfl) (by kernel_rfl) (by kernel_rfl) (by kernel_rfl) (Mine.lenS fun a0 => Mine.len0 fun zz => by kernel_rfl) Mine.dv0
  have kf : Mine.KF (Mine.main.heap_1_39 w.params) 405 := ⟨by kernel_rfl, ⟨537, by kernel_rfl⟩, ⟨250, #[], 0, 539, 540, 541, by kernel_rfl, by kernel_rfl⟩, by kernel_rfl, by kernel_rfl, by kernel_rfl, by kernel_rfl, by kernel_rfl, by kernel_rfl⟩
  refine Mine.finish kf KX T.g T.b T.builtins T.nolimit ⟨mm, hmm⟩ hF hL hmg ha0 hi (by lia) fun s' h1 h2 h3 => ?_
  exact ⟨.inl ⟨.bool true, .bool true, [], rfl, fun zz => rfl, .bool true, (by wrow_post), fun zz => ⟨List.nodup_nil, by simp⟩⟩, OldK.of_keep h1, h2, AllBare.of_eq (h3.trans hg)⟩
end Mine
theorem PySem.Challenge.cw_pq0556_01_holds : PySem.Challenge.rw_pq0556_01.Holds :=
  Mine.main
