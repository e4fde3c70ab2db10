import PyProof.Rows.All
import Wide.All
import OpenK.AllK
import Wide.FinOn
import KE.KPairComp
import PyProof.ZipIter
import PyProof.Rows.Chain
import PyProof.EqAt
import KE.KItem
import KE.KPop
import PyProof.NeKinds
import PyProof.Rows.RuleN_abs
import PyProof.WalkInts
import PyProof.Conv_int
import PyProof.ExcInit
import PyProof.InstStoreFacts
import PyProof.ExcBaseAll.Exception
import PyProof.Rows.Catch
import KE.KTryDeepN
import PySem.Challenge.RW_no0085_01
set_option genInjectivity false
set_option genSizeOf false
set_option genSizeOfSpec false
local macro_rules | `(tactic| omega) => `(tactic| lia)
section
namespace Mine
theorem El.ex {A0 : Sort _} {p0 : A0 → Prop} {Q : Prop} (h : (∃ x0 : A0, p0 x0)) (k : ∀ x0 : A0, p0 x0 → Q) : Q := (h).elim fun y1 z1 => k y1 z1
theorem El.axx  {p0 : Prop} {p1 : Prop} {Q : Prop} (h : (p0 ∧ p1)) (k : p0 → p1 → Q) : Q := k h.1 h.2
theorem El.eex {A0 : Sort _} {A1 : Sort _} {p0 : A0 → A1 → Prop} {Q : Prop} (h : (∃ x0 : A0, (∃ x1 : A1, p0 x0 x1))) (k : ∀ x0 : A0, ∀ x1 : A1, p0 x0 x1 → Q) : Q := (h).elim fun y1 z1 => (z1).elim fun y2 z2 => k y1 y2 z2
theorem El.axex {A0 : Sort _} {p0 : Prop} {p1 : A0 → Prop} {Q : Prop} (h : (p0 ∧ (∃ x0 : A0, p1 x0))) (k : p0 → ∀ x0 : A0, p1 x0 → Q) : Q := (h.2).elim fun y1 z1 => k h.1 y1 z1
theorem El.eaxx {A0 : Sort _} {p0 : A0 → Prop} {p1 : A0 → Prop} {Q : Prop} (h : (∃ x0 : A0, (p0 x0 ∧ p1 x0))) (k : ∀ x0 : A0, p0 x0 → p1 x0 → Q) : Q := (h).elim fun y1 z1 => k y1 z1.1 z1.2
theorem El.eeex {A0 : Sort _} {A1 : Sort _} {A2 : Sort _} {p0 : A0 → A1 → A2 → Prop} {Q : Prop} (h : (∃ x0 : A0, (∃ x1 : A1, (∃ x2 : A2, p0 x0 x1 x2)))) (k : ∀ x0 : A0, ∀ x1 : A1, ∀ x2 : A2, p0 x0 x1 x2 → Q) : Q := (h).elim fun y1 z1 => (z1).elim fun y2 z2 => (z2).elim fun y3 z3 => k y1 y2 y3 z3
theorem El.aaxxx  {p0 : Prop} {p1 : Prop} {p2 : Prop} {Q : Prop} (h : ((p0 ∧ p1) ∧ p2)) (k : p0 → p1 → p2 → Q) : Q := k h.1.1 h.1.2 h.2
theorem El.axaxx  {p0 : Prop} {p1 : Prop} {p2 : Prop} {Q : Prop} (h : (p0 ∧ (p1 ∧ p2))) (k : p0 → p1 → p2 → Q) : Q := k h.1 h.2.1 h.2.2
theorem El.eeaxx {A0 : Sort _} {A1 : Sort _} {p0 : A0 → A1 → Prop} {p1 : A0 → A1 → Prop} {Q : Prop} (h : (∃ x0 : A0, (∃ x1 : A1, (p0 x0 x1 ∧ p1 x0 x1)))) (k : ∀ x0 : A0, ∀ x1 : A1, p0 x0 x1 → p1 x0 x1 → Q) : Q := (h).elim fun y1 z1 => (z1).elim fun y2 z2 => k y1 y2 z2.1 z2.2
theorem El.eeeex {A0 : Sort _} {A1 : Sort _} {A2 : Sort _} {A3 : Sort _} {p0 : A0 → A1 → A2 → A3 → Prop} {Q : Prop} (h : (∃ x0 : A0, (∃ x1 : A1, (∃ x2 : A2, (∃ x3 : A3, p0 x0 x1 x2 x3))))) (k : ∀ x0 : A0, ∀ x1 : A1, ∀ x2 : A2, ∀ x3 : A3, p0 x0 x1 x2 x3 → Q) : Q := (h).elim fun y1 z1 => (z1).elim fun y2 z2 => (z2).elim fun y3 z3 => (z3).elim fun y4 z4 => k y1 y2 y3 y4 z4
theorem El.axeaxx {A0 : Sort _} {p0 : Prop} {p1 : A0 → Prop} {p2 : A0 → Prop} {Q : Prop} (h : (p0 ∧ (∃ x0 : A0, (p1 x0 ∧ p2 x0)))) (k : p0 → ∀ x0 : A0, p1 x0 → p2 x0 → Q) : Q := (h.2).elim fun y1 z1 => k h.1 y1 z1.1 z1.2
theorem El.eaxaxx {A0 : Sort _} {p0 : A0 → Prop} {p1 : A0 → Prop} {p2 : A0 → Prop} {Q : Prop} (h : (∃ x0 : A0, (p0 x0 ∧ (p1 x0 ∧ p2 x0)))) (k : ∀ x0 : A0, p0 x0 → p1 x0 → p2 x0 → Q) : Q := (h).elim fun y1 z1 => k y1 z1.1 z1.2.1 z1.2.2
theorem El.eeeaxx {A0 : Sort _} {A1 : Sort _} {A2 : Sort _} {p0 : A0 → A1 → A2 → Prop} {p1 : A0 → A1 → A2 → Prop} {Q : Prop} (h : (∃ x0 : A0, (∃ x1 : A1, (∃ x2 : A2, (p0 x0 x1 x2 ∧ p1 x0 x1 x2))))) (k : ∀ x0 : A0, ∀ x1 : A1, ∀ x2 : A2, p0 x0 x1 x2 → p1 x0 x1 x2 → Q) : Q := (h).elim fun y1 z1 => (z1).elim fun y2 z2 => (z2).elim fun y3 z3 => k y1 y2 y3 z3.1 z3.2
theorem El.eeeeex {A0 : Sort _} {A1 : Sort _} {A2 : Sort _} {A3 : Sort _} {A4 : Sort _} {p0 : A0 → A1 → A2 → A3 → A4 → Prop} {Q : Prop} (h : (∃ x0 : A0, (∃ x1 : A1, (∃ x2 : A2, (∃ x3 : A3, (∃ x4 : A4, p0 x0 x1 x2 x3 x4)))))) (k : ∀ x0 : A0, ∀ x1 : A1, ∀ x2 : A2, ∀ x3 : A3, ∀ x4 : A4, p0 x0 x1 x2 x3 x4 → Q) : Q := (h).elim fun y1 z1 => (z1).elim fun y2 z2 => (z2).elim fun y3 z3 => (z3).elim fun y4 z4 => (z4).elim fun y5 z5 => k y1 y2 y3 y4 y5 z5
theorem El.axaxaxx  {p0 : Prop} {p1 : Prop} {p2 : Prop} {p3 : Prop} {Q : Prop} (h : (p0 ∧ (p1 ∧ (p2 ∧ p3)))) (k : p0 → p1 → p2 → p3 → Q) : Q := k h.1 h.2.1 h.2.2.1 h.2.2.2
theorem El.eeaxaxx {A0 : Sort _} {A1 : Sort _} {p0 : A0 → A1 → Prop} {p1 : A0 → A1 → Prop} {p2 : A0 → A1 → Prop} {Q : Prop} (h : (∃ x0 : A0, (∃ x1 : A1, (p0 x0 x1 ∧ (p1 x0 x1 ∧ p2 x0 x1))))) (k : ∀ x0 : A0, ∀ x1 : A1, p0 x0 x1 → p1 x0 x1 → p2 x0 x1 → Q) : Q := (h).elim fun y1 z1 => (z1).elim fun y2 z2 => k y1 y2 z2.1 z2.2.1 z2.2.2
theorem El.eeeeeex {A0 : Sort _} {A1 : Sort _} {A2 : Sort _} {A3 : Sort _} {A4 : Sort _} {A5 : Sort _} {p0 : A0 → A1 → A2 → A3 → A4 → A5 → Prop} {Q : Prop} (h : (∃ x0 : A0, (∃ x1 : A1, (∃ x2 : A2, (∃ x3 : A3, (∃ x4 : A4, (∃ x5 : A5, p0 x0 x1 x2 x3 x4 x5))))))) (k : ∀ x0 : A0, ∀ x1 : A1, ∀ x2 : A2, ∀ x3 : A3, ∀ x4 : A4, ∀ x5 : A5, p0 x0 x1 x2 x3 x4 x5 → Q) : Q := (h).elim fun y1 z1 => (z1).elim fun y2 z2 => (z2).elim fun y3 z3 => (z3).elim fun y4 z4 => (z4).elim fun y5 z5 => (z5).elim fun y6 z6 => k y1 y2 y3 y4 y5 y6 z6
theorem El.eaxaxaxx {A0 : Sort _} {p0 : A0 → Prop} {p1 : A0 → Prop} {p2 : A0 → Prop} {p3 : A0 → Prop} {Q : Prop} (h : (∃ x0 : A0, (p0 x0 ∧ (p1 x0 ∧ (p2 x0 ∧ p3 x0))))) (k : ∀ x0 : A0, p0 x0 → p1 x0 → p2 x0 → p3 x0 → Q) : Q := (h).elim fun y1 z1 => k y1 z1.1 z1.2.1 z1.2.2.1 z1.2.2.2
theorem El.eeeaxaxx {A0 : Sort _} {A1 : Sort _} {A2 : Sort _} {p0 : A0 → A1 → A2 → Prop} {p1 : A0 → A1 → A2 → Prop} {p2 : A0 → A1 → A2 → Prop} {Q : Prop} (h : (∃ x0 : A0, (∃ x1 : A1, (∃ x2 : A2, (p0 x0 x1 x2 ∧ (p1 x0 x1 x2 ∧ p2 x0 x1 x2)))))) (k : ∀ x0 : A0, ∀ x1 : A1, ∀ x2 : A2, p0 x0 x1 x2 → p1 x0 x1 x2 → p2 x0 x1 x2 → Q) : Q := (h).elim fun y1 z1 => (z1).elim fun y2 z2 => (z2).elim fun y3 z3 => k y1 y2 y3 z3.1 z3.2.1 z3.2.2
theorem El.eeeeeeex {A0 : Sort _} {A1 : Sort _} {A2 : Sort _} {A3 : Sort _} {A4 : Sort _} {A5 : Sort _} {A6 : Sort _} {p0 : A0 → A1 → A2 → A3 → A4 → A5 → A6 → Prop} {Q : Prop} (h : (∃ x0 : A0, (∃ x1 : A1, (∃ x2 : A2, (∃ x3 : A3, (∃ x4 : A4, (∃ x5 : A5, (∃ x6 : A6, p0 x0 x1 x2 x3 x4 x5 x6)))))))) (k : ∀ x0 : A0, ∀ x1 : A1, ∀ x2 : A2, ∀ x3 : A3, ∀ x4 : A4, ∀ x5 : A5, ∀ x6 : A6, p0 x0 x1 x2 x3 x4 x5 x6 → Q) : Q := (h).elim fun y1 z1 => (z1).elim fun y2 z2 => (z2).elim fun y3 z3 => (z3).elim fun y4 z4 => (z4).elim fun y5 z5 => (z5).elim fun y6 z6 => (z6).elim fun y7 z7 => k y1 y2 y3 y4 y5 y6 y7 z7
theorem El.axaxaxaxx  {p0 : Prop} {p1 : Prop} {p2 : Prop} {p3 : Prop} {p4 : Prop} {Q : Prop} (h : (p0 ∧ (p1 ∧ (p2 ∧ (p3 ∧ p4))))) (k : p0 → p1 → p2 → p3 → p4 → Q) : Q := k h.1 h.2.1 h.2.2.1 h.2.2.2.1 h.2.2.2.2
theorem El.eeeeeeeex {A0 : Sort _} {A1 : Sort _} {A2 : Sort _} {A3 : Sort _} {A4 : Sort _} {A5 : Sort _} {A6 : Sort _} {A7 : Sort _} {p0 : A0 → A1 → A2 → A3 → A4 → A5 → A6 → A7 → Prop} {Q : Prop} (h : (∃ x0 : A0, (∃ x1 : A1, (∃ x2 : A2, (∃ x3 : A3, (∃ x4 : A4, (∃ x5 : A5, (∃ x6 : A6, (∃ x7 : A7, p0 x0 x1 x2 x3 x4 x5 x6 x7))))))))) (k : ∀ x0 : A0, ∀ x1 : A1, ∀ x2 : A2, ∀ x3 : A3, ∀ x4 : A4, ∀ x5 : A5, ∀ x6 : A6, ∀ x7 : A7, p0 x0 x1 x2 x3 x4 x5 x6 x7 → Q) : Q := (h).elim fun y1 z1 => (z1).elim fun y2 z2 => (z2).elim fun y3 z3 => (z3).elim fun y4 z4 => (z4).elim fun y5 z5 => (z5).elim fun y6 z6 => (z6).elim fun y7 z7 => (z7).elim fun y8 z8 => k y1 y2 y3 y4 y5 y6 y7 y8 z8
theorem El.aeeeeeeexx {A0 : Sort _} {A1 : Sort _} {A2 : Sort _} {A3 : Sort _} {A4 : Sort _} {A5 : Sort _} {A6 : Sort _} {p0 : A0 → A1 → A2 → A3 → A4 → A5 → A6 → Prop} {p1 : Prop} {Q : Prop} (h : ((∃ x0 : A0, (∃ x1 : A1, (∃ x2 : A2, (∃ x3 : A3, (∃ x4 : A4, (∃ x5 : A5, (∃ x6 : A6, p0 x0 x1 x2 x3 x4 x5 x6))))))) ∧ p1)) (k : ∀ x0 : A0, ∀ x1 : A1, ∀ x2 : A2, ∀ x3 : A3, ∀ x4 : A4, ∀ x5 : A5, ∀ x6 : A6, p0 x0 x1 x2 x3 x4 x5 x6 → p1 → Q) : Q := (h.1).elim fun y1 z1 => (z1).elim fun y2 z2 => (z2).elim fun y3 z3 => (z3).elim fun y4 z4 => (z4).elim fun y5 z5 => (z5).elim fun y6 z6 => (z6).elim fun y7 z7 => k y1 y2 y3 y4 y5 y6 y7 z7 h.2
theorem El.eeeaxaxaxx {A0 : Sort _} {A1 : Sort _} {A2 : Sort _} {p0 : A0 → A1 → A2 → Prop} {p1 : A0 → A1 → A2 → Prop} {p2 : A0 → A1 → A2 → Prop} {p3 : A0 → A1 → A2 → Prop} {Q : Prop} (h : (∃ x0 : A0, (∃ x1 : A1, (∃ x2 : A2, (p0 x0 x1 x2 ∧ (p1 x0 x1 x2 ∧ (p2 x0 x1 x2 ∧ p3 x0 x1 x2))))))) (k : ∀ x0 : A0, ∀ x1 : A1, ∀ x2 : A2, p0 x0 x1 x2 → p1 x0 x1 x2 → p2 x0 x1 x2 → p3 x0 x1 x2 → Q) : Q := (h).elim fun y1 z1 => (z1).elim fun y2 z2 => (z2).elim fun y3 z3 => k y1 y2 y3 z3.1 z3.2.1 z3.2.2.1 z3.2.2.2
theorem El.aaaaaxxxxxx  {p0 : Prop} {p1 : Prop} {p2 : Prop} {p3 : Prop} {p4 : Prop} {p5 : Prop} {Q : Prop} (h : (((((p0 ∧ p1) ∧ p2) ∧ p3) ∧ p4) ∧ p5)) (k : p0 → p1 → p2 → p3 → p4 → p5 → Q) : Q := k h.1.1.1.1.1 h.1.1.1.1.2 h.1.1.1.2 h.1.1.2 h.1.2 h.2
theorem El.axaxaxaxaxx  {p0 : Prop} {p1 : Prop} {p2 : Prop} {p3 : Prop} {p4 : Prop} {p5 : Prop} {Q : Prop} (h : (p0 ∧ (p1 ∧ (p2 ∧ (p3 ∧ (p4 ∧ p5)))))) (k : p0 → p1 → p2 → p3 → p4 → p5 → Q) : Q := k h.1 h.2.1 h.2.2.1 h.2.2.2.1 h.2.2.2.2.1 h.2.2.2.2.2
theorem El.axaxaxaxaxaxx  {p0 : Prop} {p1 : Prop} {p2 : Prop} {p3 : Prop} {p4 : Prop} {p5 : Prop} {p6 : Prop} {Q : Prop} (h : (p0 ∧ (p1 ∧ (p2 ∧ (p3 ∧ (p4 ∧ (p5 ∧ p6))))))) (k : p0 → p1 → p2 → p3 → p4 → p5 → p6 → Q) : Q := k h.1 h.2.1 h.2.2.1 h.2.2.2.1 h.2.2.2.2.1 h.2.2.2.2.2.1 h.2.2.2.2.2.2
theorem El.eeeeaxaxaxaxx {A0 : Sort _} {A1 : Sort _} {A2 : Sort _} {A3 : Sort _} {p0 : A0 → A1 → A2 → A3 → Prop} {p1 : A0 → A1 → A2 → A3 → Prop} {p2 : A0 → A1 → A2 → A3 → Prop} {p3 : A0 → A1 → A2 → A3 → Prop} {p4 : A0 → A1 → A2 → A3 → Prop} {Q : Prop} (h : (∃ x0 : A0, (∃ x1 : A1, (∃ x2 : A2, (∃ x3 : A3, (p0 x0 x1 x2 x3 ∧ (p1 x0 x1 x2 x3 ∧ (p2 x0 x1 x2 x3 ∧ (p3 x0 x1 x2 x3 ∧ p4 x0 x1 x2 x3))))))))) (k : ∀ x0 : A0, ∀ x1 : A1, ∀ x2 : A2, ∀ x3 : A3, p0 x0 x1 x2 x3 → p1 x0 x1 x2 x3 → p2 x0 x1 x2 x3 → p3 x0 x1 x2 x3 → p4 x0 x1 x2 x3 → Q) : Q := (h).elim fun y1 z1 => (z1).elim fun y2 z2 => (z2).elim fun y3 z3 => (z3).elim fun y4 z4 => k y1 y2 y3 y4 z4.1 z4.2.1 z4.2.2.1 z4.2.2.2.1 z4.2.2.2.2
theorem El.eeeeeeeeeeeeex {A0 : Sort _} {A1 : Sort _} {A2 : Sort _} {A3 : Sort _} {A4 : Sort _} {A5 : Sort _} {A6 : Sort _} {A7 : Sort _} {A8 : Sort _} {A9 : Sort _} {A10 : Sort _} {A11 : Sort _} {A12 : Sort _} {p0 : A0 → A1 → A2 → A3 → A4 → A5 → A6 → A7 → A8 → A9 → A10 → A11 → A12 → Prop} {Q : Prop} (h : (∃ x0 : A0, (∃ x1 : A1, (∃ x2 : A2, (∃ x3 : A3, (∃ x4 : A4, (∃ x5 : A5, (∃ x6 : A6, (∃ x7 : A7, (∃ x8 : A8, (∃ x9 : A9, (∃ x10 : A10, (∃ x11 : A11, (∃ x12 : A12, p0 x0 x1 x2 x3 x4 x5 x6 x7 x8 x9 x10 x11 x12)))))))))))))) (k : ∀ x0 : A0, ∀ x1 : A1, ∀ x2 : A2, ∀ x3 : A3, ∀ x4 : A4, ∀ x5 : A5, ∀ x6 : A6, ∀ x7 : A7, ∀ x8 : A8, ∀ x9 : A9, ∀ x10 : A10, ∀ x11 : A11, ∀ x12 : A12, p0 x0 x1 x2 x3 x4 x5 x6 x7 x8 x9 x10 x11 x12 → Q) : Q := (h).elim fun y1 z1 => (z1).elim fun y2 z2 => (z2).elim fun y3 z3 => (z3).elim fun y4 z4 => (z4).elim fun y5 z5 => (z5).elim fun y6 z6 => (z6).elim fun y7 z7 => (z7).elim fun y8 z8 => (z8).elim fun y9 z9 => (z9).elim fun y10 z10 => (z10).elim fun y11 z11 => (z11).elim fun y12 z12 => (z12).elim fun y13 z13 => k y1 y2 y3 y4 y5 y6 y7 y8 y9 y10 y11 y12 y13 z13
theorem El.axaxaxaxaxaxaxx  {p0 : Prop} {p1 : Prop} {p2 : Prop} {p3 : Prop} {p4 : Prop} {p5 : Prop} {p6 : Prop} {p7 : Prop} {Q : Prop} (h : (p0 ∧ (p1 ∧ (p2 ∧ (p3 ∧ (p4 ∧ (p5 ∧ (p6 ∧ p7)))))))) (k : p0 → p1 → p2 → p3 → p4 → p5 → p6 → p7 → Q) : Q := k h.1 h.2.1 h.2.2.1 h.2.2.2.1 h.2.2.2.2.1 h.2.2.2.2.2.1 h.2.2.2.2.2.2.1 h.2.2.2.2.2.2.2
theorem El.axaxaxaxaxaxaxaxaxx  {p0 : Prop} {p1 : Prop} {p2 : Prop} {p3 : Prop} {p4 : Prop} {p5 : Prop} {p6 : Prop} {p7 : Prop} {p8 : Prop} {p9 : Prop} {Q : Prop} (h : (p0 ∧ (p1 ∧ (p2 ∧ (p3 ∧ (p4 ∧ (p5 ∧ (p6 ∧ (p7 ∧ (p8 ∧ p9)))))))))) (k : p0 → p1 → p2 → p3 → p4 → p5 → p6 → p7 → p8 → p9 → Q) : Q := k h.1 h.2.1 h.2.2.1 h.2.2.2.1 h.2.2.2.2.1 h.2.2.2.2.2.1 h.2.2.2.2.2.2.1 h.2.2.2.2.2.2.2.1 h.2.2.2.2.2.2.2.2.1 h.2.2.2.2.2.2.2.2.2
theorem El.axaxaxaxaxaxaxaxaxaxx  {p0 : Prop} {p1 : Prop} {p2 : Prop} {p3 : Prop} {p4 : Prop} {p5 : Prop} {p6 : Prop} {p7 : Prop} {p8 : Prop} {p9 : Prop} {p10 : Prop} {Q : Prop} (h : (p0 ∧ (p1 ∧ (p2 ∧ (p3 ∧ (p4 ∧ (p5 ∧ (p6 ∧ (p7 ∧ (p8 ∧ (p9 ∧ p10))))))))))) (k : p0 → p1 → p2 → p3 → p4 → p5 → p6 → p7 → p8 → p9 → p10 → Q) : Q := k h.1 h.2.1 h.2.2.1 h.2.2.2.1 h.2.2.2.2.1 h.2.2.2.2.2.1 h.2.2.2.2.2.2.1 h.2.2.2.2.2.2.2.1 h.2.2.2.2.2.2.2.2.1 h.2.2.2.2.2.2.2.2.2.1 h.2.2.2.2.2.2.2.2.2.2
theorem El.axaxaxaxaxaxaxaxaxaxaxaxaxx  {p0 : Prop} {p1 : Prop} {p2 : Prop} {p3 : Prop} {p4 : Prop} {p5 : Prop} {p6 : Prop} {p7 : Prop} {p8 : Prop} {p9 : Prop} {p10 : Prop} {p11 : Prop} {p12 : Prop} {p13 : Prop} {Q : Prop} (h : (p0 ∧ (p1 ∧ (p2 ∧ (p3 ∧ (p4 ∧ (p5 ∧ (p6 ∧ (p7 ∧ (p8 ∧ (p9 ∧ (p10 ∧ (p11 ∧ (p12 ∧ p13)))))))))))))) (k : p0 → p1 → p2 → p3 → p4 → p5 → p6 → p7 → p8 → p9 → p10 → p11 → p12 → p13 → Q) : Q := k h.1 h.2.1 h.2.2.1 h.2.2.2.1 h.2.2.2.2.1 h.2.2.2.2.2.1 h.2.2.2.2.2.2.1 h.2.2.2.2.2.2.2.1 h.2.2.2.2.2.2.2.2.1 h.2.2.2.2.2.2.2.2.2.1 h.2.2.2.2.2.2.2.2.2.2.1 h.2.2.2.2.2.2.2.2.2.2.2.1 h.2.2.2.2.2.2.2.2.2.2.2.2.1 h.2.2.2.2.2.2.2.2.2.2.2.2.2
end Mine

end
section
open PySem PySem.W PySem.Spec PySem.Calls PyProof.Rows
namespace Mine
set_option maxRecDepth 100000


noncomputable def tame : Code → Bool
  | .builtin id ⟨[], _⟩ => id == "claim.caller"
  | .builtin _ _ => false
  | _ => true
noncomputable def Clean (Γ : PySem.Ctx) : Prop := tame Γ.code = true ∧ ∀ c ∈ Γ.below, tame c.1 = true

noncomputable def G {α : Type} (M : Model) (Γ : PySem.Ctx) (t : Sem α) (Q : α → Shared → Prop) (E : Value → Shared → Prop) (s : Shared) : Prop :=
  ∀ p, Sem.wp M Γ t (fun a _ s' => Q a s') (fun e _ s' => E e s') p s

section
variable {α β : Type} {M : Model} {Γ : PySem.Ctx} {A : Around} {E : Value → Shared → Prop} {s : Shared}

theorem G_any {t : Sem α} {Q : α → Shared → Prop} (hΓ : Γ.In A) (h : wpAny M A t Q E s) : G M Γ t Q E s := fun p => h Γ p hΓ
theorem G_pure {a : α} {Q : α → Shared → Prop} (h : Q a s) : G M Γ (pure a) Q E s := fun _ => h
theorem G_mono {t : Sem α} {Q Q' : α → Shared → Prop} {E' : Value → Shared → Prop} (h : G M Γ t Q E s) (hQ : ∀ a s, Q a s → Q' a s) (hE : ∀ e s, E e s → E' e s) : G M Γ t Q' E' s :=
  fun p => Sem.wp_mono M Γ t (fun a _ s => hQ a s) (fun e _ s => hE e s) p s (h p)
theorem G_bind {m : Sem α} {f : α → Sem β} {Q : β → Shared → Prop} (h : G M Γ m (fun a s' => G M Γ (f a) Q E s') E s) : G M Γ (m >>= f) Q E s := fun p => by
  rw [Sem.wp_bind']
  exact Sem.wp_mono M Γ m (fun a p' s' h' => h' p') (fun _ _ _ h' => h') p s (h p)
theorem G_onRaise {m : Sem α} {k : Value → Sem Unit} {Q : α → Shared → Prop} (h : G M Γ m Q (fun e s' => G M Γ (k e) (fun _ s'' => E e s'') E s') s) : G M Γ (m.onRaise k) Q E s := fun p => by
  rw [Sem.wp_onRaise]
  exact Sem.wp_mono M Γ m (fun _ _ _ h' => h') (fun e p' s' h' => h' p') p s (h p)
theorem G_holding {vs : List Value} {m : Sem α} {Q : α → Shared → Prop} (h : G M Γ m Q E s) : G M Γ (holding vs m) Q E s := fun p => by rw [Sem.wp_holding]; exact h p

variable {env : Env}
theorem G_execs_nil {Q : Flow → Shared → Prop} (h : Q .next s) : G M Γ (execs [] env) Q E s := fun _ => h
noncomputable def Then (M : Model) (Γ : PySem.Ctx) (rest : List Stmt) (env : Env) (Q : Flow → Shared → Prop) (E : Value → Shared → Prop) (f : Flow) (s' : Shared) : Prop :=
  match f with
  | .next => G M Γ (execs rest env) Q E s'
  | f => Q f s'
theorem G_st {st : Stmt} {rest : List Stmt} {Q : Flow → Shared → Prop} (h : G M Γ (exec st env) (Then M Γ rest env Q E) E s) : G M Γ (execs (st :: rest) env) Q E s := fun p => by
  rw [execs_cons, Sem.wp_bind']
  refine Sem.wp_mono M Γ _ (fun f p' s' h' => ?_) (fun _ _ _ h' => h') _ _ (h p)
  cases f <;> first | exact h' p' | exact h'
theorem G_Return {e : Expr} {pos : Pos} {Q : Flow → Shared → Prop} (h : G M Γ (eval e env) (fun v => Q (.ret v)) E s) : G M Γ (exec (.Return (some e) pos) env) Q E s := fun p => by
  simp only [exec_Return_some, Sem.wp_bind', Sem.wp_cmd_standAt, Sem.wp_pure']; exact h _
theorem G_Assign {x : Str} {px pos : Pos} {value : Expr} {Q : Flow → Shared → Prop} (h : G M Γ (eval value env) (fun v s₁ => G M Γ (storeName env x v) (fun _ => Q .next) E s₁) E s)
    (hs : swapsWith value (some (.Name x px)) pos.line env = pure false := by rfl) : G M Γ (exec (.Assign [.Name x px] value pos) env) Q E s := fun p => by
  simp only [exec_Assign_Name env x px value pos hs, Sem.wp_bind', Sem.wp_cmd_standAt, Sem.wp_bindName, Sem.wp_pure']
  exact Sem.wp_mono M Γ _ (fun v _ s₁ h₁ => h₁ _) (fun _ _ _ h' => h') _ _ (h _)
theorem G_If {test : Expr} {body orelse : List Stmt} {pos : Pos} {Q : Flow → Shared → Prop}
    (h : G M Γ (isTrue test env (eval test env)) (fun b s₂ => if b then G M Γ (execs body env) Q E s₂ else G M Γ (execs orelse env) Q E s₂) E s) : G M Γ (exec (.If test body orelse pos) env) Q E s := fun p => by
  simp only [exec_If, Sem.wp_bind', Sem.wp_cmd_standAt]
  refine Sem.wp_mono M Γ _ (fun b p₂ s₂ h₂ => ?_) (fun _ _ _ h' => h') _ _ (h _)
  cases b <;> exact h₂ p₂
theorem G_isTrue_Compare {l r : Expr} {op : CmpOp} {pos : Pos} {whole : Sem Value} {Q : Bool → Shared → Prop}
    (h : G M Γ (eval l env) (fun a s₁ => G M Γ (eval r env) (fun b s₂ => G M Γ (compareOp op a b) (fun c s₃ => G M Γ (truthy c) Q E s₃) E s₂) E s₁) E s)
    (hm : behindInMarks op r = false := by with_unfolding_all rfl) : G M Γ (isTrue (.Compare l [op] [r] pos) env whole) Q E s := fun p => by
  simp only [isTrue_Compare1, markedBehindIn_of_false hm, Sem.wp_bind', Sem.wp_holding, Sem.wp_cmd_standAt, Sem.wp_operate]
  exact Sem.wp_mono M Γ _ (fun a p₁ s₁ h₁ => Sem.wp_mono M Γ _ (fun b p₂ s₂ h₂ => Sem.wp_mono M Γ _ (fun c p₃ s₃ h₃ => h₃ _) (fun _ _ _ h' => h') _ _ (h₂ _)) (fun _ _ _ h' => h') _ _ (h₁ p₁)) (fun _ _ _ h' => h') _ _ (h p)
theorem G_isTrue_or {x : Expr} {rest : List Expr} {pos : Pos} {whole : Sem Value} {Q : Bool → Shared → Prop}
    (h : G M Γ (isTrue x env (eval x env)) (fun c s' => if c then Q true s' else G M Γ (isTrue (.BoolOp .Or rest pos) env whole) Q E s') E s) : G M Γ (isTrue (.BoolOp .Or (x :: rest) pos) env whole) Q E s := by
  show G M Γ (do
    match BoolOp.Or, ← isTrue x env (eval x env) with
    | .And, false => pure false
    | .Or, true => pure true
    | _, _ => allTrue .Or rest env) Q E s
  refine G_bind (G_mono h (fun c s' h' => ?_) fun _ _ x => x)
  cases c with
  | false => exact h'
  | true => exact G_pure h'
theorem G_BinOp {l r : Expr} {op : Operator} {pos : Pos} {Q : Value → Shared → Prop}
    (h : G M Γ (eval l env) (fun a s₁ => G M Γ (eval r env) (fun b s₂ => G M Γ (binaryOp op a b) Q E s₂) E s₁) E s) : G M Γ (eval (.BinOp l op r pos) env) Q E s := fun p => by
  simp only [eval_BinOp, Sem.wp_bind', Sem.wp_holding, Sem.wp_cmd_standAt, Sem.wp_operate]
  exact Sem.wp_mono M Γ _ (fun a p₁ s₁ h₁ => Sem.wp_mono M Γ _ (fun b _ s₂ h₂ => h₂ _) (fun _ _ _ h' => h') _ _ (h₁ p₁)) (fun _ _ _ h' => h') _ _ (h p)
theorem G_Subscript {value slice : Expr} {pos : Pos} {Q : Value → Shared → Prop}
    (h : G M Γ (eval value env) (fun o s₁ => G M Γ (eval slice env) (fun i s₂ => G M Γ (subscriptTail value slice o i) Q E s₂) E s₁) E s) : G M Γ (eval (.Subscript value slice pos) env) Q E s := fun p => by
  rw [eval_Subscript]
  simp only [Sem.wp_bind', Sem.wp_holding, Sem.wp_cmd_standAt]
  refine Sem.wp_mono M Γ _ (fun o p₁ s₁ h₁ => Sem.wp_mono M Γ _ (fun i p₂ s₂ h₂ => ?_) (fun _ _ _ h' => h') _ _ (h₁ p₁)) (fun _ _ _ h' => h') _ _ (h p)
  have := h₂ pos
  unfold subscriptTail at this
  simpa only [Sem.wp_bind'] using this

theorem G_Call {func : Expr} {args : List Expr} {pos : Pos} {Q : Value → Shared → Prop}
    (h : G M Γ (eval func env) (fun f s₁ => G M Γ (callWith pos f [] (backTo pos (starEach args env)) []) Q E s₁) E s)
    (he : eval (.Call func args [] pos) env = (do callWith pos (← eval func env) [] (backTo pos (starEach args env)) (backToKw pos (keywordEach [] env))) := by rfl) :
    G M Γ (eval (.Call func args [] pos) env) Q E s := by
  rw [he]; exact G_bind h
theorem G_keep {vs : List Value} {m : Sem α} {Q : α → Shared → Prop} (h : G M Γ m Q E s) : G M Γ (m.keep vs) Q E s := fun p => by rw [Sem.wp_keep]; exact h p
theorem G_standAt {pos : Pos} {Q : Unit → Shared → Prop} (h : Q () s) : G M Γ (standAt pos) Q E s := fun _ => h
theorem G_point {Q : Unit → Shared → Prop} (h : Q () s) : G M Γ point Q E s := fun _ => h
theorem G_looks {t : Sem α} {a : α} {Q : α → Shared → Prop} (L : Looks M s.heap t a) (h : Q a s) : G M Γ t Q E s :=
  G_any (A := ⟨Γ.handled, frameCount Γ.below + Γ.code.weight, none, none, Γ.units⟩) ⟨rfl, Nat.le_refl _, (fun _ h => by cases h), (fun _ h => by cases h), Nat.le_refl _⟩ (L.here h)
theorem G_spliced_nil {Q : List Value → Shared → Prop} (h : Q [] s) : G M Γ (spliced []) Q E s := G_pure h
theorem G_spliced_cons {x : Sem Value} {rest : List (Bool × Sem Value)} {Q : List Value → Shared → Prop}
    (h : G M Γ x (fun v s₁ => G M Γ (spliced rest) (fun vs s₂ => Q (v :: vs) s₂) E s₁) E s) : G M Γ (spliced ((false, x) :: rest)) Q E s := by
  rw [spliced]
  refine G_bind (G_mono h (fun v s₁ h₁ => ?_) fun _ _ x => x)
  simp only [Bool.false_eq_true, if_false]
  exact G_bind (G_pure (G_bind (G_holding (G_mono h₁ (fun vs s₂ h₂ => G_pure h₂) fun _ _ x => x))))
theorem G_args_nil {pos : Pos} {Q : List Value → Shared → Prop} (h : Q [] s) : G M Γ (spliced (backTo pos (starEach [] env))) Q E s := G_spliced_nil h
theorem G_args_cons {e : Expr} {rest : List Expr} {pos : Pos} {Q : List Value → Shared → Prop}
    (h : G M Γ (eval e env) (fun v s₁ => G M Γ (spliced (backTo pos (starEach rest env))) (fun vs s₂ => Q (v :: vs) s₂) E s₁) E s)
    (he : starEach (e :: rest) env = (false, eval e env) :: starEach rest env := by rfl) : G M Γ (spliced (backTo pos (starEach (e :: rest) env))) Q E s := by
  rw [he]; exact G_spliced_cons h
theorem G_evalArgs {f : Value} {x : Sem Value} {rest : List (Bool × Sem Value)} {Q : Args → Shared → Prop}
    (h : G M Γ (spliced ((false, x) :: rest)) (fun vs s' => Q ⟨vs, []⟩ s') E s) : G M Γ (evalArgs f true ((false, x) :: rest) []) Q E s := by
  unfold evalArgs
  show G M Γ (spliced ((false, x) :: rest) >>= _) Q E s
  refine G_bind (G_mono h (fun vs s' h' => ?_) fun _ _ x => x)
  refine G_holding ?_
  exact G_bind (G_pure (G_bind (G_pure (G_pure h'))))
theorem G_callWith {pos : Pos} {f : Value} {e : Expr} {rest : List Expr} {P : Heap → Prop} {Q : Value → Shared → Prop}
    (hk : ∀ h, P h → ∃ k, (k = Keeper.frame ∨ k = Keeper.machine ∨ k = Keeper.boundFrame) ∧ Looks M h (keeperOf f) k)
    (h : G M Γ (spliced (backTo pos (starEach (e :: rest) env))) (fun vs s₁ => P s₁.heap ∧ G M Γ (call f vs) Q E s₁) E s)
    (he : starEach (e :: rest) env = (false, eval e env) :: starEach rest env := by rfl) (hplain : (backTo pos (starEach rest env)).any (·.1) = false := by rfl) :
    G M Γ (callWith pos f [] (backTo pos (starEach (e :: rest) env)) []) Q E s := by
  rw [he] at h ⊢
  have hp : ((backTo pos ((false, eval e env) :: starEach rest env)).any (·.1) || ([] : List (Option Str × Sem Value)).any (·.1.isNone)) = false := by
    show ((false || (backTo pos (starEach rest env)).any (·.1)) || false) = false; rw [hplain]; rfl
  unfold callWith
  refine G_bind (G_holding (G_mono (G_evalArgs (Q := fun a s₁ => P s₁.heap ∧ G M Γ (call f a.pos a.kw) Q E s₁) h) (fun a s₁ h₁ => G_bind (G_standAt ?_)) fun _ _ x => x))
  (refine El.eaxx (hk _ h₁.1) fun k hk' L => ?_)
  simp only [hp]
  refine G_bind (G_looks L ?_)
  have tail : ∀ {t : Sem Value}, G M Γ t Q E s₁ → G M Γ (t >>= fun r => holding [r] point >>= fun _ => pure r) Q E s₁ :=
    fun ht => G_bind (G_mono ht (fun r s₂ hr => G_bind (G_holding (G_point (G_pure hr)))) fun _ _ x => x)
  have marked (mk : Value) : G M Γ (callMarked mk f ([] ++ a.pos) a.kw) Q E s₁ := by unfold callMarked; exact G_keep h₁.2
  rcases hk' with rfl | rfl | rfl <;> dsimp only <;> first | exact tail h₁.2 | (split <;> first | exact tail h₁.2 | exact tail (marked _))
end

theorem Clean.enter {Γ : PySem.Ctx} (h : Clean Γ) {c : Code} (hc : tame c = true) (hd : Option Value) (p : Pos) : Clean (Γ.enter c hd p) :=
  ⟨hc, fun x hx => by
    rcases List.mem_cons.mp hx with rfl | hx
    · exact h.1
    · exact h.2 x hx⟩
theorem Clean.goto {Γ : PySem.Ctx} (h : Clean Γ) {c : Code} (hc : tame c = true) : Clean (Γ.goto c) := ⟨hc, h.2⟩
section
variable {M : Model} {Γ : PySem.Ctx} {A : Around} {E : Value → Shared → Prop} {s : Shared}
theorem G_runValue {c : Code} {Q : Value → Shared → Prop}
    (h : ∀ p, wpCode M (Γ.enter c none p) (fun r s' => match r with | .ok (.ret v) => Q v s' | .ok _ => False | .error e => E e s') p s) : G M Γ (runValue c) Q E s := fun p => by
  rw [Sem.wp_runValue]; exact h p
theorem wpCode_tree {R : Result → Shared → Prop} {p : Pos}
    (h : G M Γ (M.den Γ.code) (fun fin s' => match fin with | .done f => R (.ok f) s' | .again c' => c'.quiet = true ∧ ∀ p', wpCode M (Γ.goto c') R p' s') (fun e s' => R (.error e) s') s) : wpCode M Γ R p s := by
  rw [wpCode_iff_wp]
  refine Sem.wp_mono M Γ _ (fun fin p' s' h' => ?_) (fun _ _ _ h' => h') p s (h p)
  cases fin with
  | done f => exact h'
  | again c' => exact ⟨h'.1, h'.2 p'⟩
end
section
variable {prog : Program} {w : World} {Γ : PySem.Ctx} {A : Around} {E : Value → Shared → Prop} {s : Shared}
theorem wpAny_callAny_function {a : Addr} {args : Args} {o : Obj} {fd : FuncData} {body : List Stmt} {Q : Fin → Shared → Prop} (hroom : A.depth < recursionLimit)
    (ho : s.heap.get? a = some o) (hd' : o.data = .func fd) (hco : fd.scope.isCoroutine = false) (hgen : fd.scope.isGenerator = false) (hbody : fd.body = .stmts body) (hcd : s.heap.CodeRec fd.code fd.qualname)
    (h : wpAny (model prog w) A.in1 (bindArgs fd args) (fun binds s₁ =>
      wpAny (model prog w) A.in1 (newFunctionEnv fd.scope fd.globals fd.closure binds (fd.qualname ++ ".<locals>.") (some a) fd.code none fd.builtins)
        (fun env s₂ => s₂.heap.NoLimit ∧ Q (.again (.func body env)) s₂) E s₁) E s) :
    wpAny (model prog w) A.in1 (callAny (.ref a) args) Q E s := by
  simp only [callAny]
  refine wpAny_bind (wpAny_load ho ?_)
  (refine El.eeeex (hcd) fun c oc vs tq zq62 => ?_; try clear hcd; refine El.axaxaxx (zq62) fun hc hoc hdc hq => ?_; try clear zq62)
  simp only [hd', callFunction, hco, hgen, hbody, hc]
  rw [hc] at h
  refine wpAny_bind (m := field (.ref c) 1) (wpAny_field hoc hdc hq (wpAny_bind (wpAny_pure ?_)))
  exact wpAny_bind (wpAny_mono h (fun binds s₁ h₁ => wpAny_bind (wpAny_mono h₁ (fun env s₂ h₂ => wpAny_bind (wpAny_enterFrame h₂.1 hroom (wpAny_pure h₂.2))) fun _ _ h' => h')) fun _ _ h' => h')
theorem In_call {c : Code} {p : Pos} (hΓ : Γ.In A) : (Γ.enter c none p).Below A := hΓ.enter c none p (by intro x; cases x)

theorem G_call_def {Q : Value → Shared → Prop} {a : Addr} {o : Obj} {fd : FuncData} {body : List Stmt} {args : List Value} {binds : List (Str × Value)} (hΓ : Γ.In A) (hC : Clean Γ)
    (hroom : A.depth < recursionLimit) (ho : s.heap.get? a = some o) (hdata : o.data = .func fd) (hlim : s.heap.NoLimit) (hcd : s.heap.CodeRec fd.code fd.qualname)
    (hbody : fd.body = .stmts body) (hbind : BindsTo s fd ⟨args, []⟩ binds)
    (hcell : ∀ x ∈ fd.scope.names, x.2 ≠ .cell) (hloc : ∀ x ∈ binds, fd.scope.names.lookup x.1 = some .local)
    (h : ∀ h₀ (Γ' : PySem.Ctx), Γ'.In (A.deeper (callEnv fd s.heap.objs.size a)) → Clean Γ' → h₀.Ns s.heap.objs.size (fun x => binds.reverse.lookup x) → (∀ b o, s.heap.get? b = some o → h₀.get? b = some o) →
      G (model prog w) Γ' (execs body (callEnv fd s.heap.objs.size a)) (fun f s' => Q (match f with | .ret v => v | _ => .none) s') (fun _ _ => False) { s with heap := h₀, toks := s.toks + binds.length })
    (hco : fd.scope.isCoroutine = false := by rfl) (hgen : fd.scope.isGenerator = false := by rfl) (hk : fd.scope.kind = .function := by rfl) :
    G (model prog w) Γ (call (.ref a) args) Q E s := by
  refine G_runValue fun p => wpCode_tree (G_any (In_call hΓ).in ?_)
  show wpAny _ A.in1 (callAny (.ref a) ⟨args, []⟩) _ _ s
  refine wpAny_callAny_function hroom ho hdata hco hgen hbody hcd (hbind _ _ _ _ ?_)
  refine wpAny_newFunctionEnv hcell hloc (fun h₀ hns₀ hsb₀ => ⟨hlim.fresh _ hsb₀, rfl, fun p' => ?_⟩) hk
  refine wpCode_tree ?_
  show G _ _ (do point; match ← (execs body (callEnv fd s.heap.objs.size a)).onRaise (leaving (callEnv fd s.heap.objs.size a)) with | .ret v => ret v | _ => ret .none) _ _ _
  refine G_bind (G_point (G_bind (G_onRaise (G_mono (h h₀ _ ((In_call hΓ).goto _).in ((hC.enter (c := .call (.ref a) ⟨args, []⟩) rfl none p).goto rfl) hns₀ (fun b o e => ?_)) (fun f s' h' => ?_) fun _ _ h' => h'.elim))))
  · exact hsb₀.extBut b o (Nat.ne_of_lt (Heap.lt_size e)) (Heap.get?_push_of_some _ e)
  · cases f <;> exact G_pure h'

end
end Mine

end
section
open PySem PySem.W PySem.Spec PySem.Calls PyProof.Rows
namespace Mine
set_option maxRecDepth 100000

namespace BF
theorem mro : mroOf (.type "bytearray") = pure [.type "bytearray", .type "object"] := by rw [mroOf_type]; kernel_rfl
theorem lookup_new : typeLookup (.type "bytearray") "__new__" = pure (some (.builtin "bytearray.__new__")) := by rw [typeLookup_type, builtinLookup_eq_fast]; kernel_rfl
theorem slot_init : Slot "bytearray" "__init__" "bytearray.__init__" :=
  .of (owner := "bytearray") (n := "__init__") (by rw [typeLookup_type, builtinLookup_eq_fast]; kernel_rfl) (by decide +kernel) (by decide +kernel) (by decide +kernel)
    (by first | exact .inl (by decide +kernel) | exact .inr (by decide +kernel)) (by rw [isSubtype_type]; kernel_rfl)
theorem called : TypeCalled "bytearray" "bytearray.__new__" "bytearray.__init__" :=
  ⟨by decide +kernel, by decide +kernel, ⟨_, _, mro⟩, madeBy_type mro lookup_new (by decide +kernel), by decide +kernel, by rw [isSubtype_type]; kernel_rfl, slot_init⟩
theorem typeCall (a : Value) : checkTypeCall "bytearray" ⟨[a], []⟩ = pure () := by kernel_rfl
theorem newCall (a : Value) : checkBuiltinCall "bytearray.__new__" ⟨[.type "bytearray", a], []⟩ = pure () := by kernel_rfl
theorem entry_new : entryFor table "bytearray.__new__" = some Builtin.«list.__new__» := entryFor_alias (id' := "list.__new__") (by kernel_rfl) rfl (by decide +kernel) (by kernel_rfl)
theorem entry_init : entryFor table "bytearray.__init__" = some Builtin.«bytearray.__init__» := by first | exact entryFor_of_fast (by kernel_rfl) | exact entryFor_of_tree (by kernel_rfl)
theorem plain_new : plainId "bytearray.__new__" = true := by decide +kernel
theorem plain_init : plainId "bytearray.__init__" = true := by decide +kernel
theorem args_init (a b : Value) : argsOk "bytearray.__init__" ⟨[a, b], []⟩ := by unfold argsOk; kernel_rfl
theorem sub_self : isSubtype (.type "bytearray") (.type "bytearray") = pure true := by rw [isSubtype_type]; kernel_rfl
theorem look_release : typeLookup (.type "bytearray") "__release_buffer__" = pure (some (.builtin "bytearray.__release_buffer__")) := by rw [typeLookup_type, builtinLookup_eq_fast]; kernel_rfl
theorem bind_init (v : Value) : Builtin.Bytes.bindOptional "bytearray.__init__" "bytearray" ["source", "encoding", "errors"] [v] [] = pure [some v, none, none] := by kernel_rfl
theorem drop_release : "bytearray.__release_buffer__".endsWith ("." ++ "__release_buffer__") = true := by decide +kernel
theorem dropped_release : "bytearray.__release_buffer__".dropRight ("__release_buffer__".length + 1) = "bytearray" := by decide +kernel
end BF
set_option maxRecDepth 1000000 in
set_option maxHeartbeats 4000000 in
theorem owner_new : ("bytearray.__new__".splitOn ".__new__").headD "" = "bytearray" := by simp +decide [String.splitOn, String.splitOnAux]

section
variable {prog : Program} {w : World} {Γ : PySem.Ctx} {A : Around} {E : Value → Shared → Prop} {s : Shared}
theorem code_bytearray_new (a : Value) {Q₁ : Value → Shared → Prop} (h : Q₁ (.ref s.heap.objs.size) { s with heap := s.heap.push { cls := .type "bytearray", data := .bytearray #[] } }) :
    codeAny (model prog w) A (.call (.builtin "bytearray.__new__") ⟨[.type "bytearray", a], []⟩) (wants Q₁ E) s := by
  refine codeAny_of_tree ?_
  show wpAny _ A.in1 (do checkBuiltinCall "bytearray.__new__" ⟨[.type "bytearray", a], []⟩; again (.builtin "bytearray.__new__" ⟨[.type "bytearray", a], []⟩)) _ _ s
  refine wpAny_bind (wpAny_of_eq (BF.newCall a) (wpAny_pure ⟨plainId_quiet BF.plain_new _, codeAny_builtin_stack BF.entry_new rfl fun p st => ?_⟩))
  rw [Around.under_plainId BF.plain_new _]
  have hsub := BF.sub_self
  have hown := owner_new
  obtain ⟨hp, g, d, tk, os⟩ := s
  simp only [hown]
  wp_walk
  exact h
end
noncomputable def benign : Code → Prop
  | .builtin id ⟨[], _⟩ => id = "claim.caller"
  | .builtin id ⟨v :: _, _⟩ => (id = "type.__call__" ∧ ∃ T, v = .type T) ∨ id = "bytearray.__init__"
  | _ => True
theorem benign_of_tame {c : Code} (h : tame c = true) : benign c := by
  cases c with
  | builtin id args =>
    obtain ⟨pos, kw⟩ := args
    cases pos with
    | nil => exact eq_of_beq h
    | cons v r => cases h
  | _ => trivial
section
variable {M : Model} {Γ : PySem.Ctx} {A : Around} {E : Value → Shared → Prop} {s : Shared}
theorem G_exported {self : Value} {Q : Bool → Shared → Prop} (h0 : benign Γ.code) (hs : ∀ c ∈ Γ.below, benign c.1) (h : Q false s) : G M Γ (Builtin.Bytes.exported self) Q E s := by
  intro p
  unfold Builtin.Bytes.exported
  show Q (List.any ((Γ.code, p) :: Γ.below) _) s
  rw [List.any_eq_false.mpr]
  · exact h
  · intro c hc
    have hb : benign c.1 := by
      rcases List.mem_cons.mp hc with rfl | hc
      · exact h0
      · exact hs c hc
    obtain ⟨c, q⟩ := c
    refine Bool.eq_false_iff.mp ?_
    cases c with
    | builtin id args =>
      obtain ⟨pos, kw⟩ := args
      cases pos with
      | nil =>
        obtain rfl : id = "claim.caller" := hb
        rfl
      | cons v r =>
        rcases hb with ⟨rfl, T, rfl⟩ | rfl
        · rfl
        · cases v <;> first | rfl | (cases self <;> first | rfl | exact Bool.and_false _)
    | _ => rfl
end
section
variable {α : Type} {M : Model} {Γ : PySem.Ctx} {A : Around} {E : Value → Shared → Prop} {s : Shared}
theorem G_eq {t : Sem α} {a : α} {Q : α → Shared → Prop} (h : t = pure a) (hQ : Q a s) : G M Γ t Q E s := h ▸ G_pure hQ
theorem G_if_false {c : Bool} {a b : Sem α} {Q : α → Shared → Prop} (hc : c = false) (h : G M Γ b Q E s) : G M Γ (if c = true then a else b) Q E s := by subst hc; exact h
theorem G_if_true {c : Bool} {a b : Sem α} {Q : α → Shared → Prop} (hc : c = true) (h : G M Γ a Q E s) : G M Γ (if c = true then a else b) Q E s := by subst hc; exact h
end
section
variable {prog : Program} {w : World} {Γ : PySem.Ctx} {A : Around} {E : Value → Shared → Prop} {s : Shared}
theorem wpAny_ownRelease_bytearray {a : Addr} {Q : Bool → Shared → Prop} (hT : s.TypeIs (.ref a) "bytearray") (h : Q false s) : wpAny (model prog w) A (Builtin.Bytes.ownRelease (.ref a)) Q E s := by
  unfold Builtin.Bytes.ownRelease Builtin.Bytes.slotIsOwn
  refine wpAny_bind (wpAny_bind (wpAny_specialOf hT BF.look_release ?_))
  dsimp only
  rw [BF.drop_release]
  rw [BF.dropped_release]
  refine wpAny_ite ?_
  rw [if_neg (by decide)]
  refine wpAny_isInstance hT BF.sub_self ?_
  exact wpAny_pure h

theorem G_write {a : Addr} {b : Array UInt8} {k : Nat} {f : Array UInt8 → Array UInt8} {Q : Unit → Shared → Prop} (hΓ : Γ.In A) (ha : s.heap.get? a = some { cls := .type "bytearray", data := .bytearray b k }) (hz : (f b).size ≤ sizeLine)
    (h : ∀ h', (∀ c o, c ≠ a → s.heap.get? c = some o → h'.get? c = some o) → h'.get? a = some { cls := .type "bytearray", data := .bytearray (f b) k } → Q () { s with heap := h' }) :
    G (model prog w) Γ (Builtin.Bytes.write (.ref a) f) Q E s := by
  refine G_any hΓ ?_
  show wpAny _ _ (updateBytearray a f) _ _ _
  unfold updateBytearray
  refine wpAny_bind (wpAny_load ha ?_)
  show wpAny _ _ (update a (Obj.mapBytearray f) >>= fun _ => lookBehind a) _ _ _
  refine wpAny_bind (wpAny_update ha ?_)
  have h₂ : (s.heap.update a (Obj.mapBytearray f)).get? a = some { cls := .type "bytearray", data := .bytearray (f b) k } := Heap.get?_update_self (Obj.mapBytearray f) ha rfl
  refine wpAny_lookBehind h₂ ?_ ?_
  · show (if (f b).size > sizeLine then some "bytearray:memory" else none) = none
    rw [if_neg (Nat.not_lt.mpr hz)]
  · exact h _ (fun c o hc e => (Heap.get?_update_other _ _ (Ne.symm hc)).trans e) h₂

theorem G_ba_init {a : Addr} {n : Int} {t : Tok} {Q : PySem.Fin → Shared → Prop} (hΓ : Γ.In A) (hb0 : benign Γ.code) (hb : ∀ c ∈ Γ.below, benign c.1) (h0 : 0 ≤ n) (h1 : n ≤ 1000000)
    (ha : s.heap.get? a = some { cls := .type "bytearray", data := .bytearray #[] })
    (h : ∀ h', (∀ c o, c ≠ a → s.heap.get? c = some o → h'.get? c = some o) → h'.get? a = some { cls := .type "bytearray", data := .bytearray (Array.replicate n.toNat 0) } → Q (.done (.ret .none)) { s with heap := h' }) :
    G (model prog w) Γ (Builtin.«bytearray.__init__» ⟨[.ref a, .int n t], []⟩) Q E s := by
  have hT : s.TypeIs (.ref a) "bytearray" := ⟨_, ha, rfl⟩
  unfold Builtin.«bytearray.__init__»
  refine G_bind (G_any hΓ (wpAny_ownRelease_bytearray hT ?_))
  refine G_if_false rfl ?_
  refine G_bind (G_eq (BF.bind_init _) ?_)
  refine G_bind (G_eq (a := ()) rfl ?_)
  refine G_bind (G_eq (a := ()) rfl ?_)
  refine G_bind ?_
  show G _ _ (Builtin.Bytes.exported (.ref a) >>= _) _ _ _
  refine G_bind (G_exported hb0 hb ?_)
  show G _ _ (Builtin.Bytes.exportsOf (.ref a) >>= _) _ _ _
  refine G_bind ?_
  unfold Builtin.Bytes.exportsOf
  refine G_bind (G_any hΓ (wpAny_load ha (G_pure (G_pure ?_))))
  refine G_if_false (by decide) ?_
  refine G_bind (G_write hΓ ha (Nat.zero_le _) fun h₁ hk₁ ha₁ => ?_)
  refine G_bind (G_eq (a := none) rfl ?_)
  refine G_if_false rfl ?_
  refine G_bind (G_eq (a := ()) rfl ?_)
  refine G_bind (G_any hΓ (wpAny_specialOf (typeIs_int _ n t) int_index ?_))
  refine G_if_true rfl ?_
  refine G_bind (G_eq (a := .ok n) rfl ?_)
  have hf : Builtin.Bytes.fitsIndex n = true := by
    simp only [Builtin.Bytes.fitsIndex, Bool.and_eq_true, decide_eq_true_eq]; omega
  have hn1 : (n == 2 ^ 63 - 1) = false := by
    rw [beq_eq_false_iff_ne]; omega
  have hl : Builtin.Bytes.tooLong n.toNat = false := by
    show decide (n.toNat > sizeLine) = false
    simp only [sizeLine_eq, decide_eq_false_iff_not]; omega
  dsimp only
  refine G_if_false (by rw [hf]; rfl) ?_
  rw [if_neg (by omega)]
  refine G_if_false hn1 ?_
  refine G_if_false hl ?_
  refine G_bind (G_any hΓ (wpAny_rule ?_))
  by_cases hp : n > 0
  · rw [if_pos hp]
    refine G_bind (G_write hΓ ha₁ ?_ fun h₂ hk₂ ha₂ => ?_)
    · rw [Array.size_replicate, sizeLine_eq]; omega
    · exact G_pure (h h₂ (fun c o hc e => hk₂ c o hc (hk₁ c o hc e)) ha₂)
  · rw [if_neg hp]
    have hz : n.toNat = 0 := by omega
    refine G_pure (h h₁ hk₁ ?_)
    rw [hz]; exact ha₁
end
section
variable {prog : Program} {w : World} {Γ : PySem.Ctx} {A : Around} {E : Value → Shared → Prop} {s : Shared}
theorem den_builtin {id : String} {args : Args} {b : Builtin} (hb : entryFor table id = some b) : (model prog w).den (.builtin id args) = b args := by
  show (match entryFor table id with | some b => b args | none => unsupported ((withoutEnding? id "#data").getD id)) = _
  rw [hb]
theorem wpCode_builtin {id : String} {args : Args} {b : Builtin} {R : Result → Shared → Prop} {p : Pos} (hc : Γ.code = .builtin id args) (hb : entryFor table id = some b)
    (h : G (model prog w) Γ (b args) (fun fin s' => match fin with | .done f => R (.ok f) s' | .again c' => c'.quiet = true ∧ ∀ p', wpCode (model prog w) (Γ.goto c') R p' s') (fun e s' => R (.error e) s') s) : wpCode (model prog w) Γ R p s := by
  refine wpCode_tree ?_
  rw [hc, den_builtin hb]
  exact h
theorem G_bytearray {n : Int} {t : Tok} {Q : Value → Shared → Prop} (hΓ : Γ.In A) (hC : Clean Γ) (h0 : 0 ≤ n) (h1 : n ≤ 1000000)
    (h : ∀ h', (∀ b o, s.heap.get? b = some o → h'.get? b = some o) → h'.get? s.heap.objs.size = some { cls := .type "bytearray", data := .bytearray (Array.replicate n.toNat 0) } → Q (.ref s.heap.objs.size) { s with heap := h' }) :
    G (model prog w) Γ (call (.type "bytearray") [.int n t]) Q E s := by
  refine G_runValue fun p => wpCode_tree ?_
  show G _ _ (callAny (.type "bytearray") ⟨[.int n t], []⟩) _ _ s
  refine G_pure ⟨Code.quiet_builtin _ (by decide +kernel), fun p' => wpCode_builtin rfl F.entry_type_call ?_⟩
  have hmade := BF.called.made
  have hcan := BF.called.canCreate
  have hΓ₂ := ((In_call (c := .call (.type "bytearray") ⟨[.int n t], []⟩) (p := p) hΓ).goto (.builtin "type.__call__" ⟨.type "bytearray" :: [.int n t], []⟩)).in
  have hC₂ : ∀ c ∈ ((Γ.enter (.call (.type "bytearray") ⟨[.int n t], []⟩) none p).goto (.builtin "type.__call__" ⟨.type "bytearray" :: [.int n t], []⟩)).below, tame c.1 = true := (hC.enter (c := .call (.type "bytearray") ⟨[.int n t], []⟩) rfl none p).2
  have hc₂ : ((Γ.enter (.call (.type "bytearray") ⟨[.int n t], []⟩) none p).goto (.builtin "type.__call__" ⟨.type "bytearray" :: [.int n t], []⟩)).code = .builtin "type.__call__" ⟨.type "bytearray" :: [.int n t], []⟩ := rfl
  revert hΓ₂ hC₂ hc₂
  generalize ((Γ.enter (.call (.type "bytearray") ⟨[.int n t], []⟩) none p).goto (.builtin "type.__call__" ⟨.type "bytearray" :: [.int n t], []⟩)) = Γ₂
  intro hΓ₂ hC₂ hc₂
  rw [hc₂, Around.under_plain (weight_type_call_type "bytearray" [.int n t] []) rfl] at hΓ₂
  unfold Builtin.«type.__call__»
  refine G_if_false (by decide) ?_
  refine G_if_false hcan ?_
  refine G_bind (G_eq (BF.typeCall _) ?_)
  refine G_bind (G_eq BF.mro ?_)
  refine G_if_false rfl ?_
  refine G_bind (G_eq hmade ?_)
  refine G_bind (G_pure ?_)
  refine G_bind (G_holding (G_any hΓ₂ (wpAny_call (codeAny_mono (code_bytearray_new _ (E := E) (Q₁ := fun obj s₁ => obj = .ref s.heap.objs.size ∧ s₁ = { s with heap := s.heap.push { cls := .type "bytearray", data := .bytearray #[] } }) ⟨rfl, rfl⟩) fun r s₁ hr => ?_))))
  cases r with
  | error e => exact hr
  | ok fl => ?_
  cases fl with
  | ret obj => ?_
  | _ => exact hr.elim
  (refine El.axx (hr) fun zz1 zz2 => ?_; try clear hr; (first | subst zz1 | cases zz1); (first | subst zz2 | cases zz2))
  have hT : ({ s with heap := s.heap.push { cls := .type "bytearray", data := .bytearray #[] } } : Shared).TypeIs (.ref s.heap.objs.size) "bytearray" := ⟨_, Heap.get?_push_size _ rfl, rfl⟩
  dsimp only
  refine G_bind (G_any hΓ₂ (wpAny_isInstance hT BF.sub_self ?_))
  refine G_if_false rfl ?_
  refine G_bind (G_holding ?_)
  unfold callSpecial?
  refine G_bind (G_any hΓ₂ (wpAny_specialOf hT BF.slot_init.lookup ?_))
  refine G_holding (G_bind (G_eq (BF.slot_init.bind _) ?_))
  dsimp only
  refine G_bind (G_runValue fun p₃ => wpCode_tree ?_)
  have hΓ₃ := (In_call (c := .call (.builtin "bytearray.__init__") ⟨[.ref s.heap.objs.size] ++ [.int n t], []⟩) (p := p₃) hΓ₂).in
  show G _ _ (do checkBuiltinCall "bytearray.__init__" ⟨[.ref s.heap.objs.size, .int n t], []⟩; again (.builtin "bytearray.__init__" ⟨[.ref s.heap.objs.size, .int n t], []⟩)) _ _ _
  refine G_bind (G_any hΓ₃ (BF.slot_init.check _ _ _ _ _ _ _ _ hT (BF.args_init _ _) ?_))
  refine G_pure ⟨plainId_quiet BF.plain_init _, fun p₄ => wpCode_builtin rfl BF.entry_init ?_⟩
  refine G_mono (Q := fun fin s' => fin = .done (.ret .none) ∧ Q (.ref s.heap.objs.size) s') (E := fun _ _ => False)
    (G_ba_init ((In_call (c := .call (.builtin "bytearray.__init__") ⟨[.ref s.heap.objs.size] ++ [.int n t], []⟩) (p := p₃) hΓ₂).goto (.builtin "bytearray.__init__" ⟨[.ref s.heap.objs.size, .int n t], []⟩)).in (.inr rfl)
      (fun c hc => ?_) h0 h1 (Heap.get?_push_size _ rfl) fun h' hk ha => ⟨rfl, h h' (fun b o e => hk b o (Nat.ne_of_lt (Heap.lt_size e)) (Heap.get?_push_of_some _ e)) ha⟩) (fun fin s' hf => ?_) (fun _ _ e => e.elim)
  · rcases List.mem_cons.mp hc with rfl | hc
    · rw [hc₂]; exact .inl ⟨rfl, _, rfl⟩
    · exact benign_of_tame (hC₂ c hc)
  · (refine El.axx (hf) fun zz1 hq => ?_; try clear hf; (first | subst zz1 | cases zz1))
    exact G_pure (G_pure hq)
end
end Mine

end
section
open PySem PySem.W PySem.Spec PySem.Calls PyProof.Rows
namespace Mine
set_option maxRecDepth 100000
namespace BF
theorem slot_set : Slot "bytearray" "__setitem__" "bytearray.__setitem__" :=
  .of (owner := "bytearray") (n := "__setitem__") (by rw [typeLookup_type, builtinLookup_eq_fast]; kernel_rfl) (by decide +kernel) (by decide +kernel) (by decide +kernel)
    (by first | exact .inl (by decide +kernel) | exact .inr (by decide +kernel)) (by rw [isSubtype_type]; kernel_rfl)
theorem entry_set : entryFor table "bytearray.__setitem__" = some Builtin.«bytearray.__setitem__» := by first | exact entryFor_of_fast (by kernel_rfl) | exact entryFor_of_tree (by kernel_rfl)
theorem args_set (a b c : Value) : argsOk "bytearray.__setitem__" ⟨[a, b, c], []⟩ := by unfold argsOk; kernel_rfl
theorem no_bytes : typeLookup (.type "bytearray") "__bytes__" = pure none := by rw [typeLookup_type, builtinLookup_eq_fast]; kernel_rfl
theorem ba_no_index : typeLookup (.type "bytearray") "__index__" = pure none := by rw [typeLookup_type, builtinLookup_eq_fast]; kernel_rfl
theorem look_buffer : typeLookup (.type "bytearray") "__buffer__" = pure (some (.builtin "bytearray.__buffer__")) := by rw [typeLookup_type, builtinLookup_eq_fast]; kernel_rfl
theorem int_no_bytes : typeLookup (.type "int") "__bytes__" = pure none := by rw [typeLookup_type, builtinLookup_eq_fast]; kernel_rfl
theorem drop_buffer : "bytearray.__buffer__".endsWith ("." ++ "__buffer__") = true := by decide +kernel
theorem dropped_buffer : "bytearray.__buffer__".dropRight ("__buffer__".length + 1) = "bytearray" := by decide +kernel
end BF
section
variable {prog : Program} {w : World} {A : Around} {E : Value → Shared → Prop} {s : Shared}
theorem wpAny_write {a : Addr} {b : Array UInt8} {k : Nat} {f : Array UInt8 → Array UInt8} {Q : Unit → Shared → Prop} (ha : s.heap.get? a = some { cls := .type "bytearray", data := .bytearray b k }) (hz : (f b).size ≤ sizeLine)
    (h : ∀ h', Heap.SameBut a s.heap h' → h'.get? a = some { cls := .type "bytearray", data := .bytearray (f b) k } → Q () { s with heap := h' }) :
    wpAny (model prog w) A (Builtin.Bytes.write (.ref a) f) Q E s := by
  show wpAny _ _ (updateBytearray a f) _ _ _
  unfold updateBytearray
  refine wpAny_bind (wpAny_load ha ?_)
  show wpAny _ _ (update a (Obj.mapBytearray f) >>= fun _ => lookBehind a) _ _ _
  refine wpAny_bind (wpAny_update ha ?_)
  have h₂ : (s.heap.update a (Obj.mapBytearray f)).get? a = some { cls := .type "bytearray", data := .bytearray (f b) k } := Heap.get?_update_self (Obj.mapBytearray f) ha rfl
  refine wpAny_lookBehind h₂ ?_ ?_
  · show (if (f b).size > sizeLine then some "bytearray:memory" else none) = none
    rw [if_neg (Nat.not_lt.mpr hz)]
  · exact h _ (Heap.SameBut.update ..) h₂
theorem wpAny_payload {a : Addr} {b : Array UInt8} {k : Nat} {Q : Array UInt8 → Shared → Prop} (ha : s.heap.get? a = some { cls := .type "bytearray", data := .bytearray b k }) (h : Q b s) : wpAny (model prog w) A (Builtin.Bytes.payload (.ref a)) Q E s := by
  unfold Builtin.Bytes.payload Builtin.Bytes.payload?
  exact wpAny_bind (wpAny_bind (wpAny_load ha (wpAny_pure (wpAny_pure h))))
theorem wpAny_subscript_int {k : Int} {t : Tok} {Q : Option Int → Shared → Prop} (hf : Builtin.Bytes.fitsIndex k = true) (h : Q (some k) s) : wpAny (model prog w) A (Builtin.Bytes.subscript? (.int k t)) Q E s := by
  unfold Builtin.Bytes.subscript?
  refine wpAny_bind (wpAny_specialOf (typeIs_int _ k t) int_index ?_)
  refine bm_if_false rfl ?_
  refine wpAny_bind (wpAny_of_eq (a := k) rfl ?_)
  refine bm_if_false (by rw [hf]; rfl) ?_
  exact wpAny_pure h
theorem wpAny_byteValue {v : Int} {u : Tok} {Q : UInt8 → Shared → Prop} (h0 : 0 ≤ v) (h1 : v < 256) (h : Q v.toNat.toUInt8 s) : wpAny (model prog w) A (Builtin.Bytes.byteValue (.int v u)) Q E s := by
  unfold Builtin.Bytes.byteValue
  refine wpAny_bind (wpAny_of_eq (a := v) rfl ?_)
  refine bm_if_false (by simp only [Bool.or_eq_false_iff, decide_eq_false_iff_not]; omega) ?_
  exact wpAny_pure h

theorem wpAny_setItem_ba {a : Addr} {b : Array UInt8} {n : Nat} {k v : Int} {t u : Tok} {Q : Unit → Shared → Prop} (ha : s.heap.get? a = some { cls := .type "bytearray", data := .bytearray b n })
    (h0 : 0 ≤ k) (hk : k < b.size) (hz : b.size ≤ sizeLine) (v0 : 0 ≤ v) (v1 : v < 256)
    (hQ : ∀ h', Heap.SameBut a s.heap h' → h'.get? a = some { cls := .type "bytearray", data := .bytearray (b.setIfInBounds k.toNat v.toNat.toUInt8) n } → Q () { s with heap := h' }) :
    wpAny (model prog w) A (setItem (.ref a) (.int k t) (.int v u)) Q E s := by
  have hT : s.TypeIs (.ref a) "bytearray" := ⟨_, ha, rfl⟩
  have hf : Builtin.Bytes.fitsIndex k = true := by
    rw [sizeLine_eq] at hz
    simp only [Builtin.Bytes.fitsIndex, Bool.and_eq_true, decide_eq_true_eq]; omega
  unfold setItem
  try with_reducible refine wpAny_holding ?_
  first | refine wpAny_bind (wpAny_pure ?_) | skip
  refine wpAny_bind (wpAny_sequenceKey hT (by decide) ?_)
  refine wpAny_bind (wpAny_callSpecial?_slot (name := Str.ofString "__setitem__") hT BF.slot_set
    (wpAny_call_entry BF.slot_set hT BF.entry_set ?_ (BF.args_set _ _ _)))
  unfold Builtin.«bytearray.__setitem__»
  refine bm_if_false rfl ?_
  refine wpAny_bind (wpAny_subscript_int hf ?_)
  refine wpAny_bind (wpAny_byteValue v0 v1 ?_)
  refine wpAny_bind (wpAny_payload ha ?_)
  have hi : seqIndex? k b.size = some k.toNat := by
    unfold seqIndex?
    rw [if_neg (by omega : ¬ k < 0)]
    exact if_pos (by simp only [Bool.and_eq_true, decide_eq_true_eq]; omega)
  rw [hi]
  dsimp only
  refine wpAny_bind (wpAny_write ha (by rw [Array.size_setIfInBounds]; exact hz) fun h' hs hb => ?_)
  exact wpAny_pure ⟨_, rfl, wpAny_pure (hQ h' hs hb)⟩

theorem wpAny_buffer_ba {id : String} {a : Addr} {b : Array UInt8} {k : Nat} {full : Bool} {Q : Option (Array UInt8) → Shared → Prop} (ha : s.heap.get? a = some { cls := .type "bytearray", data := .bytearray b k }) (h : Q (some b) s) :
    wpAny (model prog w) A (Builtin.Bytes.buffer? id (.ref a) full) Q E s := by
  have hT : s.TypeIs (.ref a) "bytearray" := ⟨_, ha, rfl⟩
  unfold Builtin.Bytes.buffer?
  refine wpAny_bind (wpAny_specialOf hT BF.look_buffer ?_)
  dsimp only
  refine wpAny_bind ?_
  unfold Builtin.Bytes.slotIsOwn
  refine wpAny_bind (wpAny_specialOf hT BF.look_buffer ?_)
  dsimp only
  rw [BF.drop_buffer, BF.dropped_buffer]
  refine bm_if_false rfl ?_
  refine wpAny_isInstance hT BF.sub_self ?_
  refine bm_if_false rfl ?_
  refine wpAny_bind (wpAny_specialOf hT BF.look_buffer ?_)
  (try dsimp only)
  refine wpAny_bind (wpAny_ownRelease_bytearray hT ?_)
  refine bm_if_false rfl ?_
  exact wpAny_bind (wpAny_payload ha (wpAny_pure h))

theorem bytes_of_ba {a : Addr} {b : Array UInt8} {n : Nat} {Q : Value → Shared → Prop} (ha : s.heap.get? a = some { cls := .type "bytearray", data := .bytearray b n }) (hz : b.size ≤ sizeLine)
    (hQ : ∀ t k, Q (.bytes b t) { s with toks := k }) : wpAny (model prog w) A (call (.type "bytes") [.ref a]) Q E s := by
  have hT : s.TypeIs (.ref a) "bytearray" := ⟨_, ha, rfl⟩
  refine callType_codes (Q₁ := fun obj s₁ => s₁.TypeIs obj "bytes" ∧ Q obj s₁) F.bm_called (F.bm_typeCall _) F.entry_object_init ?_ fun obj s₁ h₁ => ?_
  · refine codeAny_of_tree ?_
    show wpAny _ A.in1.in1 (do checkBuiltinCall "bytes.__new__" ⟨[.type "bytes", .ref a], []⟩; again (.builtin "bytes.__new__" ⟨[.type "bytes", .ref a], []⟩)) _ _ s
    refine wpAny_bind (wpAny_of_eq (F.bm_newCall _) (wpAny_pure ⟨plainId_quiet F.bm_plain _, codeAny_builtin F.bm_entry ?_⟩))
    rw [Around.under_plainId F.bm_plain _]
    unfold Builtin.«bytes.__new__»
    refine wpAny_bind (wpAny_of_eq (a := true) rfl ?_)
    refine bm_if_false rfl ?_
    refine wpAny_bind (wpAny_of_eq F.bm_sub ?_)
    refine bm_if_false rfl ?_
    refine wpAny_bind (wpAny_of_eq (F.bm_bind _) ?_)
    refine wpAny_bind (wpAny_of_eq (a := ()) rfl ?_)
    refine wpAny_bind (wpAny_of_eq (a := ()) rfl ?_)
    refine bm_if_false rfl ?_
    refine wpAny_bind (wpAny_specialOf hT BF.no_bytes ?_)
    refine wpAny_bind (wpAny_bind ?_)
    show wpAny _ _ (load a >>= _) _ _ _
    refine wpAny_bind (wpAny_load ha ?_)
    refine wpAny_pure (wpAny_pure ?_)
    refine bm_if_false rfl ?_
    refine wpAny_bind (wpAny_specialOf hT BF.ba_no_index ?_)
    refine bm_if_true rfl ?_
    first
      | show wpAny _ _ (Builtin.Bytes.buffer? "bytes.__new__" (.ref a) true >>= _) _ _ _
      | (refine wpAny_bind ?_; show wpAny _ _ (Builtin.Bytes.buffer? "bytes.__new__" (.ref a) true >>= _) _ _ _)
    refine wpAny_bind (wpAny_buffer_ba ha ?_)
    dsimp only
    refine wpAny_bind (wpAny_rule ?_)
    refine wpAny_bind (wpAny_mkBytes ?_ hz)
    show wpAny _ _ (if (Value.type "bytes" == Value.type "bytes") = true then _ else _) _ _ _
    refine bm_if_true (by decide) ?_
    first
      | exact wpAny_pure ⟨PySem.W.typeIs_bytes _ _ _, hQ _ _⟩
      | exact wpAny_pure (wpAny_pure ⟨PySem.W.typeIs_bytes _ _ _, hQ _ _⟩)
      | exact wpAny_bind (wpAny_pure (wpAny_pure ⟨PySem.W.typeIs_bytes _ _ _, hQ _ _⟩))
  · exact ⟨h₁.1, F.args_object_init_2 obj _, object_init_meets F.bm_called.init.lookup F.bm_called.made (by decide) prog w A.in1 _ s₁ ⟨h₁.1, rfl, h₁.2⟩⟩

theorem bytes_of_int {n : Int} {t : Tok} {Q : Value → Shared → Prop} (h0 : 0 ≤ n) (h1 : n ≤ 1000000)
    (hQ : ∀ t k, Q (.bytes (Array.replicate n.toNat 0) t) { s with toks := k }) : wpAny (model prog w) A (call (.type "bytes") [.int n t]) Q E s := by
  have hf : Builtin.Bytes.fitsIndex n = true := by
    simp only [Builtin.Bytes.fitsIndex, Bool.and_eq_true, decide_eq_true_eq]; omega
  have hl : Builtin.Bytes.tooLong n.toNat = false := by
    show decide (n.toNat > sizeLine) = false
    simp only [sizeLine_eq, decide_eq_false_iff_not]; omega
  refine callType_codes (Q₁ := fun obj s₁ => s₁.TypeIs obj "bytes" ∧ Q obj s₁) F.bm_called (F.bm_typeCall _) F.entry_object_init ?_ fun obj s₁ h₁ => ?_
  · refine codeAny_of_tree ?_
    show wpAny _ A.in1.in1 (do checkBuiltinCall "bytes.__new__" ⟨[.type "bytes", .int n t], []⟩; again (.builtin "bytes.__new__" ⟨[.type "bytes", .int n t], []⟩)) _ _ s
    refine wpAny_bind (wpAny_of_eq (F.bm_newCall _) (wpAny_pure ⟨plainId_quiet F.bm_plain _, codeAny_builtin F.bm_entry ?_⟩))
    rw [Around.under_plainId F.bm_plain _]
    unfold Builtin.«bytes.__new__»
    refine wpAny_bind (wpAny_of_eq (a := true) rfl ?_)
    refine bm_if_false rfl ?_
    refine wpAny_bind (wpAny_of_eq F.bm_sub ?_)
    refine bm_if_false rfl ?_
    refine wpAny_bind (wpAny_of_eq (F.bm_bind _) ?_)
    refine wpAny_bind (wpAny_of_eq (a := ()) rfl ?_)
    refine wpAny_bind (wpAny_of_eq (a := ()) rfl ?_)
    refine bm_if_false rfl ?_
    refine wpAny_bind (wpAny_specialOf (typeIs_int _ n t) BF.int_no_bytes ?_)
    refine wpAny_bind (wpAny_of_eq (a := false) rfl ?_)
    refine bm_if_false rfl ?_
    refine wpAny_bind (wpAny_specialOf (typeIs_int _ n t) int_index ?_)
    refine bm_if_false rfl ?_
    refine wpAny_bind (wpAny_of_eq (a := .ok n) rfl ?_)
    dsimp only
    refine bm_if_false (by rw [hf]; rfl) ?_
    rw [if_neg (by omega)]
    rw [if_neg (by omega)]
    refine bm_if_false hl ?_
    refine wpAny_bind (wpAny_rule ?_)
    refine wpAny_bind (wpAny_mkBytes ?_ (by rw [Array.size_replicate, sizeLine_eq]; omega))
    show wpAny _ _ (if (Value.type "bytes" == Value.type "bytes") = true then _ else _) _ _ _
    refine bm_if_true (by decide) ?_
    first
      | exact wpAny_pure ⟨PySem.W.typeIs_bytes _ _ _, hQ _ _⟩
      | exact wpAny_pure (wpAny_pure ⟨PySem.W.typeIs_bytes _ _ _, hQ _ _⟩)
      | exact wpAny_bind (wpAny_pure (wpAny_pure ⟨PySem.W.typeIs_bytes _ _ _, hQ _ _⟩))
  · exact ⟨h₁.1, F.args_object_init_2 obj _, object_init_meets F.bm_called.init.lookup F.bm_called.made (by decide) prog w A.in1 _ s₁ ⟨h₁.1, rfl, h₁.2⟩⟩
end
end Mine

end
section
open PySem PySem.W PySem.Spec PySem.Calls PyProof.Rows PyProof.V
namespace Mine
set_option maxRecDepth 100000
noncomputable abbrev baObj (b : Array UInt8) : Obj := { cls := .type "bytearray", data := .bytearray b 0 }
section
variable {prog : Program} {w : World} {A : Around} {E : Value → Shared → Prop} {s : Shared} {env : Env} {h₀ : Heap} {x : Str} {body : List Stmt} {Q : Flow → Shared → Prop}
end
section
variable {prog : Program} {w : World} {A : Around} {E : Value → Shared → Prop} {s : Shared} {env : Env} {h₀ : Heap} {x : Str} {body : List Stmt} {Q : Flow → Shared → Prop}
end
section
variable {h₀ h h' : Heap} {L a : Addr} {m : Str → Option Value} {o o' : Obj} {rest : List (Addr × Obj)}
end
section
variable {prog : Program} {w : World} {A : Around} {E : Value → Shared → Prop} {s : Shared} {h₀ : Heap} {L : Addr} {m : Str → Option Value} {rest : List (Addr × Obj)}
end
noncomputable def outs (g e : Int → Int → Int) : Int → List Int → List Int
  | _, [] => []
  | c, k :: r => e c k :: outs g e (g c k) r
theorem outs_take (g e : Int → Int → Int) : ∀ (ks : List Int) (c : Int) (i : Nat) (k : Int), ks[i]? = some k → outs g e c (ks.take (i + 1)) = outs g e c (ks.take i) ++ [e ((ks.take i).foldl g c) k]
  | [], _, _, _, h => by simp at h
  | k :: r, c, 0, k', h => by
    simp only [List.getElem?_cons_zero, Option.some.injEq] at h
    subst h
    simp [outs]
  | k :: r, c, i + 1, k', h => by
    simp only [List.getElem?_cons_succ] at h
    have := outs_take g e r (g c k) i k' h
    simp only [List.take_succ_cons, outs, List.foldl_cons, List.cons_append] at this ⊢
    rw [this]
theorem outs_length (g e : Int → Int → Int) : ∀ (ks : List Int) (c : Int), (outs g e c ks).length = ks.length
  | [], _ => rfl
  | k :: r, c => by simp [outs, outs_length g e r]
section
variable {prog : Program} {w : World} {A : Around} {E : Value → Shared → Prop} {s : Shared} {env : Env} {h₀ : Heap} {x : Str} {body : List Stmt} {Q : Flow → Shared → Prop}
end
section
variable {prog : Program} {w : World} {A : Around} {Γ : PySem.Ctx} {E : Value → Shared → Prop} {s : Shared} {h₀ : Heap} {L : Addr} {m : Str → Option Value} {news : List (Addr × Obj)}
end
end Mine

end
section
open PySem PySem.W PySem.Spec PySem.Calls PyProof.Rows
namespace Mine
set_option maxRecDepth 100000
section
variable {prog : Program} {w : World} {A : Around} {E : Value → Shared → Prop} {s : Shared}
theorem tuple_index_tree {t : Addr} {items : Array Value} {x : Int} {u v : Tok} {P : Fin → Shared → Prop} (ht : IsTup s.heap t items) (hi : items[0]? = some (.int x v))
    (h : P (.done (.ret (.int 0 s.toks))) { s with toks := s.toks + 1 }) : wpAny (model prog w) A (Builtin.«tuple.index» ⟨[.ref t, .int x u], []⟩) P E s := by
  show wpAny _ _ (Builtin.Tuple.tupleItemsOf (.ref t) >>= _) _ _ s
  refine wpAny_bind (tupleItemsOf_ ht ?_)
  have hsz : 0 < items.size := by
    rcases Nat.eq_zero_or_pos items.size with h0 | h0
    · rw [Array.getElem?_eq_none (by omega)] at hi; cases hi
    · exact h0
  refine wpAny_bind (wpAny_pure (wpAny_bind (wpAny_pure (wpAny_bind ?_))))
  rw [Std.Legacy.Range.forIn_eq_forIn_range']
  obtain ⟨k, hk⟩ : ∃ k, items.size = k + 1 := ⟨items.size - 1, by omega⟩
  have e : Std.Legacy.Range.size ⟨0, min items.size items.size, 1, by decide⟩ = k + 1 := by
    simp [Std.Legacy.Range.size]; omega
  rw [e, List.range'_succ, List.forIn_cons, hi]
  refine wpAny_bind (wpAny_bind (wpAny_eqBool_int ?_))
  rw [if_pos (by simp)]
  wp_walk
  exact h
theorem tuple_index_first {t : Addr} {items : Array Value} {x : Int} {u v : Tok} {Q : Value → Shared → Prop} (ht : IsTup s.heap t items) (hi : items[0]? = some (.int x v))
    (h : Q (.int 0 s.toks) { s with toks := s.toks + 1 }) : wpAny (model prog w) A (call (.builtin "tuple.index") [.ref t, .int x u]) Q E s :=
  wpAny_call_entry PySem.F.slot_tuple_index ht.typeIs PySem.F.entry_tuple_index (tuple_index_tree ht hi ⟨_, rfl, h⟩) (PySem.F.args_tuple_index_2 _ _)
theorem method_at {T : String} {name : Str} {id : String} {pl : Sem Bool} {a : Addr} {o : Obj} {Q : Value × List Value → Shared → Prop} (pa : PlainAttrs T) (slot : Slot T name id) (hty : typeOf (.builtin id) = pure (.type "method_descriptor"))
    (ha : s.heap.get? a = some o) (hc : o.cls = .type T) (hd : o.dict = none) (h : Q (.builtin id, [.ref a]) s) : wpAny (model prog w) A (getMethod (.ref a) name pl) Q E s :=
  getMethod_builtin ⟨_, ha, hc⟩ pa slot hty (fun a e => by cases e; exact ⟨_, ha, hd⟩) h
theorem list_index_str {l : Addr} {items : Array Value} {n : Nat} {x : Str} {u : Tok} {ys : List Str} {Q : Value → Shared → Prop} (j : Nat) (ha : s.heap.get? l = some { cls := .type "list", dict := none, data := .seq items n, slots := #[] })
    (hi : StrsAre items.toList ys) (hj : j < items.size) (hz : items.size ≤ 100) (hit : (match items[j] with | .str y _ => y == x | _ => false) = true) (hno : ∀ m (hm : m < items.size), m < j → (match items[m] with | .str y _ => y == x | _ => false) = false)
    (h : Q (.int j s.toks) { s with toks := s.toks + 1 }) : wpAny (model prog w) A (call (.builtin "list.index") [.ref l, .str x u]) Q E s := by
  have hstr : ∀ y, y ∈ items → ∃ z t, y = .str z t := by
    intro y hy
    have hy' : y ∈ items.toList := by simpa using hy
    clear hit hno hj
    generalize items.toList = vs at hi hy'
    clear hy
    induction hi with
    | nil => cases hy'
    | cons z t _ ih =>
      rcases List.mem_cons.mp hy' with rfl | hy'
      · exact ⟨z, t, rfl⟩
      · exact ih hy'
  refine call_meets PySem.F.slot_list_index ⟨_, ha, rfl⟩ PySem.F.entry_list_index (PySem.F.args_list_index_2 _ _)
    (MeetsSeq.list_index l items n (.str x u) (fun v => match v with | .str y _ => y == x | _ => false) (fun y hy => ?_) j hj (by omega) hit hno) ⟨ha, h⟩
  (refine El.eex (hstr y hy) fun z t zz1 => ?_; (first | subst zz1 | cases zz1))
  intro _ _ _ _ _ _ h
  exact eqBool_str h
end
section
variable {prog : Program} {w : World} {A : Around} {E : Value → Shared → Prop} {s : Shared} {value slice : PySem.Expr} {b : Array UInt8} {t : Tok} {h₀ : Heap} {L : Addr} {m : PySem.Str → Option Value} {news : List (Addr × Obj)} {l u : Value} {Q : Value → Shared → Prop} {ks : List Int} {i j : Int}
end
section
variable {prog : Program} {w : World} {A : Around} {E : Value → Shared → Prop} {s : Shared} {b c : Array UInt8} {t u : Tok} {Q : Value → Shared → Prop} {ks ls : List Int}
end
end Mine

end
section
open PySem PySem.W PySem.Spec PySem.Calls PyProof.Rows PyProof.Rows.LCg
namespace Mine
set_option maxRecDepth 100000
open KBw (IsBytesIter)
section
variable {prog : Program} {w : World} {A : Around} {E : Value → Shared → Prop} {s : Shared}
theorem nextOf_bytes_item {it : Addr} {b : Array UInt8} {t : Tok} {i : Nat} {c : UInt8} {Q : Value → Shared → Prop} (hit : IsBytesIter s.heap it b t i) (hx : b[i]? = some c)
    (hQ : ∀ h', IsBytesIter h' it b t (i + 1) → Heap.SameBut it s.heap h' → Q (.int (c.toNat : Int) s.toks) { s with heap := h', toks := s.toks + 1 }) :
    wpAny (model prog w) A (Builtin.SmallTypes.nextOf (.ref it)) Q E s := by
  (refine El.eaxaxx (id hit) fun o ho hc hd => ?_)
  unfold Builtin.SmallTypes.nextOf
  refine wpAny_bind (wpAny_callSpecial?_slot (name := PySem.Str.ofString "__next__") (KBw.iter_typeIs hit) KBw.slot_next
    (wpAny_call_entry KBw.slot_next (KBw.iter_typeIs hit) KBw.entry_next ?_ (KBw.args_next _)))
  show wpAny _ _ (field (.ref it) 0 >>= _) _ _ s
  refine wpAny_bind (wpAny_field ho hd (x := .bytes b t) rfl ?_)
  show wpAny _ _ (if (Value.bytes b t == Value.none) = true then _ else _) _ _ s
  rw [if_neg (show ¬ ((Value.bytes b t == Value.none) = true) from Bool.false_ne_true)]
  show wpAny _ _ (field (.ref it) 1 >>= _) _ _ s
  refine wpAny_bind (wpAny_field ho hd (x := .int i 0) rfl ?_)
  refine wpAny_bind (wpAny_of_eq (a := b) rfl ?_)
  simp only [Int.toNat_natCast, hx]
  refine wpAny_bind (wpAny_setField ho hd (by simp) (wpAny_bind (wpAny_mkInt (wpAny_pure ⟨_, rfl, wpAny_pure (hQ _ ?_ (Heap.SameBut.update ..))⟩))))
  exact ⟨_, Heap.get?_update_self _ ho (Obj.isFreed_of_fields (Obj.data_mapFields hd _)), (Obj.cls_mapFields ..).trans hc, by
    rw [Obj.data_mapFields hd]; simp [rawInt]⟩
theorem nextOf_bytes_end {it : Addr} {b : Array UInt8} {t : Tok} {i : Nat} {Q : Value → Shared → Prop} (hh : A.handled = none) (hit : IsBytesIter s.heap it b t i) (hx : b[i]? = none)
    (hE : ∀ h' e, Heap.ExtBut it s.heap h' → (∃ o, h'.get? e = some o ∧ o.cls = .type "StopIteration") → E (.ref e) { s with heap := h' }) :
    wpAny (model prog w) A (Builtin.SmallTypes.nextOf (.ref it)) Q E s := by
  (refine El.eaxaxx (id hit) fun o ho hc hd => ?_)
  unfold Builtin.SmallTypes.nextOf
  refine wpAny_bind (wpAny_callSpecial?_slot (name := PySem.Str.ofString "__next__") (KBw.iter_typeIs hit) KBw.slot_next
    (wpAny_call_entry KBw.slot_next (KBw.iter_typeIs hit) KBw.entry_next ?_ (KBw.args_next _)))
  show wpAny _ _ (field (.ref it) 0 >>= _) _ _ s
  refine wpAny_bind (wpAny_field ho hd (x := .bytes b t) rfl ?_)
  show wpAny _ _ (if (Value.bytes b t == Value.none) = true then _ else _) _ _ s
  rw [if_neg (show ¬ ((Value.bytes b t == Value.none) = true) from Bool.false_ne_true)]
  show wpAny _ _ (field (.ref it) 1 >>= _) _ _ s
  refine wpAny_bind (wpAny_field ho hd (x := .int i 0) rfl ?_)
  refine wpAny_bind (wpAny_of_eq (a := b) rfl ?_)
  simp only [Int.toNat_natCast, hx]
  refine wpAny_bind (wpAny_rule (wpAny_bind (wpAny_setField ho hd (by simp) ?_)))
  show wpAny _ _ (newExc (.type "StopIteration") [] >>= _) _ _ _
  refine wpAny_bind ?_
  simp only [newExc, newTuple]
  refine wpAny_bind (wpAny_newObj_type ?_ (by size_fits))
  refine wpAny_bind (m := firstArgMember _ _) (wpAny_of_eq (a := Value.none) (by first | rfl | (simp only [firstArgMember]; rfl)) ?_)
  refine wpAny_newObj_type ?_ (by size_fits)
  simp only [raiseNew]
  refine wpAny_bind (wpAny_handled ?_)
  rw [show A.in1.handled = none from hh]
  refine wpAny_bind (wpAny_pure (wpAny_throw ?_))
  exact hE _ _ (((Heap.SameBut.update ..).extBut.push _).push _) ⟨_, Heap.get?_push_size _ rfl, rfl⟩
end
theorem draws_bytes {prog : Program} {w : World} {A : Around} (hh : A.handled = none) (it : Addr) (b : Array UInt8) (t : Tok) :
    Draws prog w A it [it] b.size (fun i v => ∃ c u, b[i]? = some c ∧ v = .int (c.toNat : Int) u) (fun i h => IsBytesIter h it b t i) where
  live := fun _ _ st => let ⟨o, ho, _⟩ := st; ⟨o, ho⟩
  frame := fun _ _ _ st hk => let ⟨o, ho, r⟩ := st; ⟨o, hk it (by simp) o ho, r⟩
  item := fun i s Q E hi st hQ => by
    refine nextOf_bytes_item st (c := b[i]) (by simp [hi]) fun h' hit' hs' => ?_
    exact hQ _ h' (s.toks + 1) ⟨_, _, by simp [hi], rfl⟩ hit' hs'
  done := fun s Q E st hE => nextOf_bytes_end hh st (by simp) hE
set_option maxHeartbeats 1000000 in
theorem meets_enumerate_newB (b : Array UInt8) (t : Tok) :
    Meets (Builtin.«enumerate.__new__» ⟨[.type "enumerate", .bytes b t], []⟩) (fun _ R s =>
      R (.ok (.ret (.ref (s.heap.push { cls := .type "bytes_iterator", data := .fields #[.bytes b t, .int 0 0] }).objs.size)))
        { s with heap := (s.heap.push { cls := .type "bytes_iterator", data := .fields #[.bytes b t, .int 0 0] }).push { cls := .type "enumerate", data := .fields #[.none, .bool false, .ref s.heap.objs.size, rawInt 0, .none, .none] } }) :=
  .of_wp fun prog w A R s h => by
    obtain ⟨hp, g, d, tk, os⟩ := s
    have hsub := sub_enumerate
    wp_walk
    refine wpAny_stack_any fun st => wpAny_pure ?_
    split
    · rename_i c _ _ _ _ _
      cases (c == Value.type "enumerate")
      · wp_walk using KBw.pyIter_bytes
        exact ⟨_, rfl, h⟩
      · wp_walk using KBw.pyIter_bytes
        exact ⟨_, rfl, h⟩
    · wp_walk using KBw.pyIter_bytes
      exact ⟨_, rfl, h⟩
section
variable {prog : Program} {w : World} {A : Around} {E : Value → Shared → Prop} {s : Shared}
theorem call_enumerate_bytes {b : Array UInt8} {t : Tok} {Q : Value → Shared → Prop}
    (h : ∀ h', IsEnum h' (s.heap.objs.size + 1) s.heap.objs.size 0 .none → IsBytesIter h' s.heap.objs.size b t 0 → h'.objs.size = s.heap.objs.size + 2 →
      (∀ b o, s.heap.get? b = some o → h'.get? b = some o) → Q (.ref (s.heap.objs.size + 1)) { s with heap := h' }) :
    wpAny (model prog w) A (call (.type "enumerate") [.bytes b t]) Q E s := by
  refine callType_new F.called_enumerate (by decide) (F.typeCall_enumerate_1 _) (F.newCall_enumerate_1 _) (fun obj => F.args_object_init_2 obj _) F.entry_enumerate_new
    (meets_enumerate_newB b t) ?_
  have hz : (s.heap.push { cls := .type "bytes_iterator", data := .fields #[.bytes b t, .int 0 0] }).objs.size = s.heap.objs.size + 1 := Heap.size_push ..
  show _ ∧ _
  rw [hz]
  have he : IsEnum ((s.heap.push { cls := .type "bytes_iterator", data := .fields #[.bytes b t, .int 0 0] }).push
      { cls := .type "enumerate", data := .fields #[.none, .bool false, .ref s.heap.objs.size, rawInt 0, .none, .none] }) (s.heap.objs.size + 1) s.heap.objs.size 0 .none := by
    have := Heap.get?_push_size (s.heap.push { cls := .type "bytes_iterator", data := .fields #[.bytes b t, .int 0 0] })
      (o := { cls := .type "enumerate", data := .fields #[.none, .bool false, .ref s.heap.objs.size, rawInt 0, .none, .none] }) rfl
    rw [hz] at this; exact this
  refine ⟨⟨_, he, rfl⟩, h _ he ⟨_, Heap.get?_push_of_some _ (Heap.get?_push_size _ rfl), rfl, rfl⟩ (by rw [Heap.size_push, hz]) fun b o y => Heap.get?_push_of_some _ (Heap.get?_push_of_some _ y)⟩
end
end Mine

end
section
open PySem PySem.W PySem.Spec PySem.Calls PyProof.Rows PyProof.Rows.LCg
namespace Mine
set_option maxRecDepth 100000
section
variable {prog : Program} {w : World} {A : Around} {E : Value → Shared → Prop} {h₀ : Heap} {L : Addr} {m : Str → Option Value} {env : Env}
noncomputable def Sits (h : Heap) (l : List (Addr × Obj)) : Prop := ∀ p ∈ l, h.get? p.1 = some p.2
noncomputable def TurnEnd (h₀ : Heap) (L : Addr) (Mp : (Str → Option Value) → Prop) (s₂ : Shared) (wr : List Addr) (own : List (Addr × Obj)) (C : Addr) (oC : Obj) (D : Addr) (ys : List Value) (J : List Value → List (Addr × Obj) → Prop) (y : Value) (s₄ : Shared) : Prop :=
  ∃ h' tk' nw' m', s₄ = { s₂ with heap := h', toks := tk' } ∧ Mp m' ∧ Fr h₀ L h' m' ∧ News h₀ L h' ((C, oC) :: (D, lst ys) :: (nw' ++ own)) ∧ (∀ p ∈ nw', p.1 ∉ wr ∧ p.1 ≠ C ∧ p.1 ≠ D) ∧ J (ys ++ [y]) nw'
theorem comp_block {elt target iter : PySem.Expr} {scope : Scope} {cl : List (Str × Addr)} {pos : Pos} {s₂ : Shared} {I : Addr} {fp wr : List Addr} {n : Nat} {P Md : Nat → Value → Heap → Prop} {St : Nat → Heap → Prop} {V : Nat → (Str → Option Value) → Prop}
    {keep news : List (Addr × Obj)} {J : Nat → List Value → List (Addr × Obj) → Prop} {RR : Value → Addr → Result → Shared → Prop} {Mp : (Str → Option Value) → Prop}
    (W : KTurns prog w A target I fp wr n P Md St) (hself : ∀ (s : Shared) (Q : Value → Shared → Prop) (E : Value → Shared → Prop), St 0 s.heap → Q (.ref I) s → wpAny (model prog w) A (pyIter (.ref I)) Q E s)
    (hown : ∀ i h, St i h → ∃ own : List (Addr × Obj), ((∀ p ∈ own, p.1 ∈ wr) ∧ ∀ b ∈ wr, ∃ o, (b, o) ∈ own) ∧ Sits h own ∧ ∀ h', Sits h' own → Sits h' keep → St i h')
    (hwr : ∀ b ∈ wr, b < s₂.heap.objs.size ∧ b ≠ L ∧ h₀.get? b = none) (hsz : n ≤ sizeLine)
    (hassign : ∀ C i v (s : Shared) m' (Q : Unit → Shared → Prop) (E : Value → Shared → Prop), P i v s.heap → s.heap.Ns C m' →
      (∀ h' tk' m₂, V i m₂ → h'.Ns C m₂ → (∀ c o, c ≠ C → s.heap.get? c = some o → h'.get? c = some o) → Q () { s with heap := h', toks := tk' }) → wpAny (model prog w) A (assign target (compEnvC scope cl C env) v) Q E s)
    (hcell : ∀ y ∈ scope.names, y.2 ≠ .cell) (hkind : scope.kind = .function) (hst : St 0 s₂.heap)
    (hM : Mp m) (F : Fr h₀ L s₂.heap m) (N : News h₀ L s₂.heap news) (off : ∀ p ∈ news, p.1 ∉ wr) (hJk : ∀ i ys nw, J i ys nw → ∀ p ∈ keep, p ∈ nw) (hJ : J 0 [] news)
    (turn : ∀ i ys nw own C oC D m₂ h tk (E' : Value → Shared → Prop) (m : Str → Option Value), i < n → J i ys nw → ys.length = i → V i m₂ → NsObj oC m₂ → ((∀ p ∈ own, p.1 ∈ wr) ∧ ∀ b ∈ wr, ∃ o, (b, o) ∈ own) → Mp m → Fr h₀ L h m → News h₀ L h ((C, oC) :: (D, lst ys) :: (nw ++ own)) →
      (∀ p ∈ nw, p.1 ∉ wr ∧ p.1 ≠ C ∧ p.1 ≠ D) → C ∉ wr → D ∉ wr → C ≠ D →
      wpAny (model prog w) A (eval elt (compEnvC scope cl C env)) (TurnEnd h₀ L Mp s₂ wr own C oC D ys (J (i + 1))) E' { s₂ with heap := h, toks := tk })
    (hRR : ∀ D C h tk m' ys nw m, J n ys nw → Mp m → Fr h₀ L h m → News h₀ L h ((D, lst ys) :: nw) → h.Ns C m' → h₀.get? C = none → h₀.get? D = none → C ≠ L → D ≠ L → C ≠ D → (∀ p ∈ nw, p.1 ≠ C) → (∀ p ∈ nw, p.1 ≠ D) → RR (.ref D) C (.ok .next) { s₂ with heap := h, toks := tk }) :
    wpAny (model prog w) A (newList []) (fun acc s₃ => wpAny (model prog w) A (newFunctionEnv scope env.globals cl [] env.qual none .none (some env)) (fun cenv s₄ =>
      codeAny (model prog w) A (.compStart (.ListComp elt [⟨target, iter, [], 0⟩] scope pos) 0 (.ref I) acc { cenv with scope := relabel scope env }) (RR acc cenv.locals) s₄) E s₃) E s₂ := by
  refine wpAny_newObj_type (wpAny_newFunctionEnv hcell (by intro y hy; simp at hy) (fun h₁ hns₁ hsb₁ => ?_) hkind)
  dsimp only at hns₁ hsb₁ ⊢
  generalize hH2 : s₂.heap.push { cls := .type "list", dict := none, data := .seq ([] : List Value).toArray } = H2 at hns₁ hsb₁ ⊢
  have hC : H2.objs.size = s₂.heap.objs.size + 1 := by rw [← hH2, Heap.size_push]
  have hDC : s₂.heap.objs.size ≠ H2.objs.size := by rw [hC]; exact Nat.ne_of_lt (Nat.lt_succ_self _)
  have below : ∀ b, b < s₂.heap.objs.size → b ≠ H2.objs.size ∧ b ≠ s₂.heap.objs.size := fun b hb => ⟨by rw [hC]; exact Nat.ne_of_lt (Nat.lt_succ_of_lt hb), Nat.ne_of_lt hb⟩
  have old : ∀ b o, s₂.heap.get? b = some o → h₁.get? b = some o := fun b o e => hsb₁.extBut b o (below b (Heap.lt_size e)).1 (Heap.get?_push_of_some _ (hH2 ▸ Heap.get?_push_of_some _ e))
  have hacc : h₁.get? s₂.heap.objs.size = some (lst []) := hsb₁.extBut _ _ hDC (Heap.get?_push_of_some _ (hH2 ▸ Heap.get?_push_size _ rfl))
  have hCw : H2.objs.size ∉ wr := fun hb => (below _ (hwr _ hb).1).1 rfl
  have hDw : s₂.heap.objs.size ∉ wr := fun hb => (below _ (hwr _ hb).1).2 rfl
  have hst₁ : St 0 h₁ := W.frame _ _ _ hst fun b _ o e => old b o e
  have fresh : ∀ a, s₂.heap.objs.size ≤ a → s₂.heap.get? a = none := fun a ha => by
    cases e : s₂.heap.get? a with
    | none => rfl
    | some o' => exact absurd (Heap.lt_size e) (Nat.not_lt.mpr ha)
  have fresh₀ : ∀ a, s₂.heap.objs.size ≤ a → h₀.get? a = none := fun a ha => by
    cases e : h₀.get? a with
    | none => rfl
    | some o' => have := F.keep a o' e; rw [fresh a ha] at this; cases this
  have hD₀ : h₀.get? s₂.heap.objs.size = none := fresh₀ _ (Nat.le_refl _)
  have hC₀ : h₀.get? H2.objs.size = none := fresh₀ _ (by rw [hC]; exact Nat.le_succ _)
  have hLlt : L < s₂.heap.objs.size := F.ns.lt
  have hDL : s₂.heap.objs.size ≠ L := Ne.symm (below L hLlt).2
  have hCL : H2.objs.size ≠ L := Ne.symm (below L hLlt).1
  have off₀ : ∀ p ∈ news, p.1 ∉ wr ∧ p.1 ≠ H2.objs.size ∧ p.1 ≠ s₂.heap.objs.size := fun p hp => ⟨off p hp, below _ (Heap.lt_size (N p hp).1)⟩
  have loop : ∀ s₃ : Shared, s₃ = { s₂ with heap := h₁, toks := s₂.toks + ([] : List (Str × Value)).length } →
      codeAny (model prog w) A (.compLoop (.ListComp elt [⟨target, iter, [], 0⟩] scope pos) 0 (.ref I) (.ref s₂.heap.objs.size) (compEnvC scope cl H2.objs.size env))
        (RR (.ref s₂.heap.objs.size) H2.objs.size) s₃ := by
    rintro s₃ rfl
    refine kcp_loop
      (fun k s' => ∃ h' tk i ys m' nw m, s' = { s₂ with heap := h', toks := tk } ∧ i ≤ n ∧ k = n + 1 - i ∧ ys.length = i ∧ St i h' ∧ Mp m ∧ Fr h₀ L h' m ∧ h'.Ns H2.objs.size m' ∧
        News h₀ L h' ((s₂.heap.objs.size, lst ys) :: nw) ∧ (∀ p ∈ nw, p.1 ∉ wr ∧ p.1 ≠ H2.objs.size ∧ p.1 ≠ s₂.heap.objs.size) ∧ J i ys nw) ?_ (n + 1)
      ⟨h₁, _, 0, [], _, news, m, rfl, Nat.zero_le _, rfl, rfl, hst₁, hM, F.keeps old, hns₁, fun p hp => ?_, off₀, hJ⟩
    · (intro k s' zr3; refine El.eeeeeeex (zr3) fun h' tk i ys m' nw m zq45 => ?_; try clear zr3; refine El.axaxaxaxaxaxaxaxaxaxx (zq45) fun zz1 hi zz2 hyl hst' hM' F' hn' N' off' hJ' => ?_; try clear zq45; (first | subst zz1 | cases zz1); (first | subst zz2 | cases zz2))
      by_cases hlt : i < n
      · refine W.item i _ _ _ hlt hst' fun v h₂ tk₂ hMd hk₂ => ?_
        refine W.go i v _ _ _ hMd fun h₃ hP hst₃ hk₃ => ?_
        have up₃ : ∀ c o, c ∉ wr → h'.get? c = some o → h₃.get? c = some o := fun c o hc e => hk₃ c o hc (hk₂ c o hc e)
        refine hassign H2.objs.size i v _ m' _ _ hP (hn'.at' fun o e => up₃ _ o hCw e) fun h₄ tk₄ m₂ hV hn₄ hs₄ => ?_
        have up : ∀ c o, c ∉ wr → c ≠ H2.objs.size → h'.get? c = some o → h₄.get? c = some o := fun c o h1 h2 e => hs₄ c o h2 (up₃ c o h1 e)
        (refine El.eaxaxx (hown _ _ hst₃) fun own how hos hob => ?_)
        have hos₄ : Sits h₄ own := fun p hp => hs₄ _ _ (fun e => hCw (e ▸ how.1 p hp)) (hos p hp)
        (refine El.eaxx (ns_obj hn₄) fun oC heC hoC => ?_)
        have F₄ : Fr h₀ L h₄ m := ⟨F'.ns.at' fun o e => up _ o (fun hb => (hwr _ hb).2.1 rfl) (Ne.symm hCL) e, fun c o e => up c o (fun hb => by rw [(hwr _ hb).2.2] at e; cases e) (fun q => by rw [q, hC₀] at e; cases e) (F'.keep c o e), F'.above⟩
        have N₄ : News h₀ L h₄ ((H2.objs.size, oC) :: (s₂.heap.objs.size, lst ys) :: (nw ++ own)) := fun q hq => by
          rcases List.mem_cons.mp hq with rfl | hq
          · exact ⟨heC, hCL, hC₀⟩
          · rcases List.mem_cons.mp hq with rfl | hq
            · have z := N' _ (List.mem_cons_self ..)
              exact ⟨up _ _ hDw hDC z.1, z.2⟩
            · rcases List.mem_append.mp hq with hq | hq
              · have z := N' _ (List.mem_cons_of_mem _ hq)
                exact ⟨up _ _ (off' q hq).1 (off' q hq).2.1 z.1, z.2⟩
              · exact ⟨hos₄ q hq, (hwr _ (how.1 q hq)).2⟩
        refine wpAny_mono (turn i ys nw own H2.objs.size oC s₂.heap.objs.size m₂ h₄ _ _ m hlt hJ' hyl hV hoC how hM' F₄ N₄ off' hCw hDw (Ne.symm hDC)) (fun y s₅ h₅ => ?_) fun _ _ e => e
        obtain ⟨h₅, tk₅, nw₅, m₅, rfl, hM₅, F₅, N₅, off₅, hJ₅⟩ := h₅
        have zC := (N₅ (H2.objs.size, oC) List.mem_cons_self).1
        have zD := (N₅ (s₂.heap.objs.size, lst ys) (List.mem_cons_of_mem _ List.mem_cons_self)).1
        have N₅' : News h₀ L h₅ nw₅ := fun q hq => N₅ q (List.mem_cons_of_mem _ (List.mem_cons_of_mem _ (List.mem_append_left _ hq)))
        have hos₅ : Sits h₅ own := fun q hq => (N₅ q (List.mem_cons_of_mem _ (List.mem_cons_of_mem _ (List.mem_append_right _ hq)))).1
        refine append_at (hsz := by show ys.toArray.size ≤ sizeLine; rw [List.size_toArray, hyl]; exact Nat.le_trans hi hsz) zD fun h₆ hs₆ hD₆ => ?_
        refine ⟨n + 1 - (i + 1), by omega, h₆, tk₅, i + 1, ys ++ [y], _, nw₅, m₅, rfl, hlt, rfl, by rw [List.length_append, List.length_singleton, hyl], hob h₆ (fun q hq => hs₆.extBut _ _ (fun e => hDw (e ▸ how.1 q hq)) (hos₅ q hq)) (fun q hq => ?_), hM₅, F₅.change hs₆ hDL hD₀,
          (hoC.ns zC).sameBut hs₆ (Ne.symm hDC), fun q hq => ?_, off₅, hJ₅⟩
        · have hq' := hJk _ _ _ hJ₅ q hq
          exact hs₆.extBut _ _ (off₅ q hq').2.2 (N₅' q hq').1
        · rcases List.mem_cons.mp hq with rfl | hq
          · exact ⟨hD₆.trans (congrArg some (lst_snoc ys y)), hDL, hD₀⟩
          · exact ⟨hs₆.extBut _ _ (off₅ q hq).2.2 (N₅' q hq).1, (N₅' q hq).2⟩
      · have hin : i = n := Nat.le_antisymm hi (Nat.not_lt.mp hlt)
        subst hin
        refine W.done _ _ _ hst' fun h₂ tk₂ hk₂ => ?_
        have up₂ : ∀ c o, c ∉ wr → h'.get? c = some o → h₂.get? c = some o := hk₂
        have F₂ : Fr h₀ L h₂ m := ⟨F'.ns.at' fun o e => up₂ _ o (fun hb => (hwr _ hb).2.1 rfl) e, fun c o e => up₂ c o (fun hb => by rw [(hwr _ hb).2.2] at e; cases e) (F'.keep c o e), F'.above⟩
        exact hRR _ _ h₂ tk₂ _ ys nw m hJ' hM' F₂ (fun q hq => by
          have z := N' q hq
          refine ⟨up₂ _ _ ?_ z.1, z.2⟩
          rcases List.mem_cons.mp hq with rfl | hq
          · exact hDw
          · exact (off' q hq).1) (hn'.at' fun o e => up₂ _ o hCw e) hC₀ hD₀ hCL hDL (Ne.symm hDC) (fun p hp => (off' p hp).2.1) (fun p hp => (off' p hp).2.2)
    · rcases List.mem_cons.mp hp with rfl | hp
      · exact ⟨hacc, hDL, hD₀⟩
      · exact ⟨old _ _ (N p hp).1, (N p hp).2⟩
  exact codeAny_compStart_list (loop _ rfl) (hself _ _ _ hst₁ (loop _ rfl))
end
end Mine

end
section
open PySem PySem.W PySem.Spec PySem.Calls PyProof.Rows PyProof.Rows.LCg
namespace Mine
set_option maxRecDepth 100000
section
variable {prog : Program} {w : World} {A : Around} {E : Value → Shared → Prop} {s : Shared} {h₀ : Heap} {L : Addr} {m : Str → Option Value} {env : Env}
theorem comp_fin {h h'' : Heap} {D C : Addr} {ys : List Value} {nw : List (Addr × Obj)} (F' : Fr h₀ L h m) (N' : News h₀ L h ((D, lst ys) :: nw)) (hs'' : Heap.SameBut C h h'') (hC₀ : h₀.get? C = none) (hCL : C ≠ L) (hCD : C ≠ D) (offC : ∀ p ∈ nw, p.1 ≠ C) :
    Fr h₀ L h'' m ∧ News h₀ L h'' ((D, lst ys) :: nw) := by
  refine ⟨F'.change hs'' hCL hC₀, fun p hp => ⟨hs''.extBut _ _ ?_ (N' p hp).1, (N' p hp).2⟩⟩
  rcases List.mem_cons.mp hp with rfl | hp
  · exact Ne.symm hCD
  · exact offC p hp
theorem fresh_of {h : Heap} {a : Addr} (F : Fr h₀ L h m) (ha : h.objs.size ≤ a) : h₀.get? a = none := by
  cases e : h₀.get? a with
  | none => rfl
  | some o' => exact absurd (Heap.lt_size (F.keep a o' e)) (Nat.not_lt.mpr ha)

theorem ListComp_enumB {elt iter : PySem.Expr} {a b : Str} {pa pb tp : Pos} {kk : Nat} {scope : Scope} {cl : List (Str × Addr)} {pos : Pos} {Q : Value → Shared → Prop} (f : Nat → Int → Int) (_F₀ : Fr h₀ L s.heap m)
    (hh : A.handled = none) (hclos : closureFor scope env = pure cl) (hcell : ∀ y ∈ scope.names, y.2 ≠ .cell) (hkind : scope.kind = .function)
    (hnames : ∀ y ∈ scope.names, y.2 = .local → scope.names.lookup y.1 = some .local) (hxa : scope.names.lookup a = some .local) (hxb : scope.names.lookup b = some .local) (hab : ¬ a = b)
    (h : wpAny (model prog w) A (eval iter env) (fun xv s₁ => ∃ (e it : Addr) (bs : Array UInt8) (tb : Tok) (ks : List Int) (news : List (Addr × Obj)), xv = .ref e ∧ e = it + 1 ∧ KBw.bInts bs = ks ∧ ks.length ≤ 10000 ∧ IsEnum s₁.heap e it 0 .none ∧ KBw.IsBytesIter s₁.heap it bs tb 0 ∧
      Fr h₀ L s₁.heap m ∧ News h₀ L s₁.heap news ∧ L < it ∧ h₀.get? it = none ∧ h₀.get? e = none ∧ (∀ p ∈ news, p.1 < it) ∧
      (∀ (i : Nat) (k : Int) (t u : Tok) C oC D m₂ rest h tk (E' : Value → Shared → Prop), ks[i]? = some k → 0 ≤ k → k < 256 → m₂ a = some (.int i t) → m₂ b = some (.int k u) → NsObj oC m₂ → Fr h₀ L h m → News h₀ L h ((C, oC) :: (D, rest) :: news) →
        wpAny (model prog w) A (eval elt (compEnvC scope cl C env)) (fun y s₄ => ∃ ty tk', y = .int (f i k) ty ∧ s₄ = { s₁ with heap := h, toks := tk' }) E' { s₁ with heap := h, toks := tk }) ∧
      (∀ D h tk ys, IntsAre ys (ks.mapIdx f) → Fr h₀ L h m → News h₀ L h ((D, lst ys) :: news) → (∀ p ∈ news, p.1 ≠ D) → Q (.ref D) { s₁ with heap := h, toks := tk })) E s)
    (hs : ∀ x, foldedSetIterable iter env x = pure x := by intro _; rfl) :
    wpAny (model prog w) A (eval (.ListComp elt [⟨.Tuple [.Name a pa, .Name b pb] kk tp, iter, [], 0⟩] scope pos) env) Q E s := by
  rw [eval_ListComp]
  refine wpAny_comprehension_free (use := none) rfl hs hclos hkind hnames (wpAny_mono h (fun xv s₁ h₁ => ?_) fun _ _ e => e)
  (refine El.eeeeeex (h₁) fun e it bs tb ks news zq110 => ?_; try clear h₁; refine El.axaxaxaxaxaxaxaxaxaxaxaxaxx (zq110) fun zz1 hei hk hsz hE hB F N hLi hi₀ he₀ hlt turn fin => ?_; try clear zq110; (first | subst zz1 | cases zz1))
  have hn : bs.size = ks.length := by rw [← hk, KBw.ints_length]
  have hne : e ≠ it := by rw [hei]; exact Nat.succ_ne_self _
  have hei' : @Eq Nat e (it + 1) := hei
  have hLi' : @LT.lt Nat _ L it := hLi
  have hLe : @Ne Nat e L := by omega
  refine wpAny_pyIter_enum hE ?_
  have W := KTurns.ofWalksU (elts := [.Name a pa, .Name b pb]) (k := kk) (pos := tp) (WalksT.enumerateD (prog := prog) (w := w) (A := A) (draws_bytes (show A.in1.handled = none from hh) it bs tb) e hne (by simpa using hne) (by simp)).toU
  refine comp_block (keep := []) (J := fun i ys nw => nw = news ∧ IntsAre ys ((ks.take i).mapIdx f)) (Mp := fun z => m = z) (V := fun i m₂ => ∃ k t u, ks[i]? = some k ∧ 0 ≤ k ∧ k < 256 ∧ m₂ a = some (.int i t) ∧ m₂ b = some (.int k u)) W
    (fun s Q E st hQ => by (refine El.axx (st) fun zq111 zz1 => ?_; try clear st; refine El.ex (zq111) fun old he => ?_; try clear zq111); exact wpAny_pyIter_enum he hQ) ?_ ?_ (by rw [sizeLine_eq]; omega) ?_ hcell hkind ⟨⟨_, hE⟩, hB⟩ rfl F N ?_ (fun _ _ _ _ p hp => by cases hp) ⟨rfl, .nil⟩ ?_ ?_
  · (intro i h zr3; refine El.axx (zr3) fun zq112 zq113 => ?_; try clear zr3; refine El.ex (zq112) fun old he => ?_; try clear zq112; refine El.eaxaxx (zq113) fun oi hoi hic hid => ?_; try clear zq113)
    refine ⟨[(e, { cls := .type "enumerate", dict := none, data := .fields #[.none, .bool false, .ref it, rawInt i, .none, old], slots := #[] }), (it, oi)], ?_, ?_, fun h' hs _ => ⟨⟨old, hs _ (.head _)⟩, oi, hs (it, oi) (.tail _ (.head _)), hic, hid⟩⟩
    · refine ⟨fun p hp => ?_, fun b hb => ?_⟩
      · rcases List.mem_cons.mp hp with rfl | hp
        · exact .head _
        · rw [List.mem_singleton.mp hp]; exact .tail _ (.head _)
      · rcases List.mem_cons.mp hb with rfl | hb
        · exact ⟨_, .head _⟩
        · rw [List.mem_singleton.mp hb]; exact ⟨_, .tail _ (.head _)⟩
    · intro p hp
      rcases List.mem_cons.mp hp with rfl | hp
      · exact he
      · rw [List.mem_singleton.mp hp]; exact hoi
  · intro b hb
    rcases List.mem_cons.mp hb with rfl | hb
    · exact ⟨Heap.lt_size hE, hLe, he₀⟩
    · rw [List.mem_singleton.mp hb]
      (refine El.eaxx (hB) fun oi hoi zz1 => ?_; try clear hB)
      exact ⟨Heap.lt_size hoi, Nat.ne_of_gt hLi, hi₀⟩
  · (intro C i v s' m' Q' E' zr8 hn' hq; refine El.eex (zr8) fun T vals zq114 => ?_; try clear zr8; refine El.axaxx (zq114) fun zz1 zq115 hT => ?_; try clear zq114; refine El.eex (zq115) fun t x zq116 => ?_; try clear zq115; refine El.axx (zq116) fun zq117 zz3 => ?_; try clear zq116; refine El.eeaxx (zq117) fun c u hc zz2 => ?_; try clear zq117; (first | subst zz1 | cases zz1); (first | subst zz2 | cases zz2); (first | subst zz3 | cases zz3))
    refine kcp_assign hh hT (lookup_relabel_local hxa) (lookup_relabel_local hxb) (by simp [compEnvC, relabel, hkind]) hn' fun h' tk hn'' hk' => hq h' tk _ ?_ hn'' hk'
    have hg := KBw.ints_get hc
    rw [hk] at hg
    have hlo := c.toNat_lt
    exact ⟨_, t, u, hg, by omega, by omega, by simp [hab], by simp⟩
  · intro p hp hw
    have hpl : @LT.lt Nat _ p.1 it := hlt p hp
    rcases List.mem_cons.mp hw with e1 | hw
    · have e1 : @Eq Nat p.1 e := e1
      omega
    · have e1 : @Eq Nat p.1 it := List.mem_singleton.mp hw
      omega
  · (intro i ys nw own C oC D m₂ h tk E' zr12 hi zr14 hyl zr16 hNs how zr19 F' N' off' hCw hDw hCD; refine El.axx (zr14) fun zz1 hI => ?_; try clear zr14; (first | subst zz1 | cases zz1); refine El.eeex (zr16) fun k t u zq118 => ?_; try clear zr16; refine El.axaxaxaxx (zq118) fun hk' k0 k1 ha hb => ?_; try clear zq118; subst zr19)
    refine wpAny_mono (turn i k t u C oC D m₂ (lst ys) h tk E' hk' k0 k1 ha hb hNs F' (fun p hp => ?_)) (fun y s₄ h₄ => ?_) fun _ _ e => e
    · rcases List.mem_cons.mp hp with rfl | hp
      · exact N' _ (.head _)
      · rcases List.mem_cons.mp hp with rfl | hp
        · exact N' _ (.tail _ (.head _))
        · exact N' _ (.tail _ (.tail _ (List.mem_append_left _ hp)))
    · (refine El.eeaxx (h₄) fun ty tk' zz1 zz2 => ?_; try clear h₄; (first | subst zz1 | cases zz1); (first | subst zz2 | cases zz2))
      refine ⟨h, tk', nw, _, rfl, rfl, F', N', off', rfl, ?_⟩
      have hlen : i < ks.length := (List.getElem?_eq_some_iff.mp hk').1
      have e1 : ks.take (i + 1) = ks.take i ++ [k] := by rw [List.take_add_one, hk']; rfl
      rw [e1, List.mapIdx_append]
      refine IntsAre.append hI ?_
      rw [List.length_take, Nat.min_eq_left (by omega)]
      simp only [List.mapIdx_cons, List.mapIdx_nil, Nat.zero_add]
      exact .cons _ _ .nil
  · (intro D C h tk m' ys nw zr8 zr9 zr10 F' N' hns hC₀ hD₀ hCL hDL hCD offC offD; refine El.axx (zr9) fun zz1 hI => ?_; try clear zr9; (first | subst zz1 | cases zz1); subst zr10)
    rw [hn, List.take_length] at hI
    refine ⟨m', hns, fun h'' hs'' => ?_⟩
    (refine El.axx (comp_fin F' N' hs'' hC₀ hCL hCD offC) fun F2 N2 => ?_)
    exact fin D h'' tk ys hI F2 N2 offD
theorem letGo_name {x : Str} {px : Pos} {v it : Value} {Q : Unit → Shared → Prop} (h : Q () s) : wpAny (model prog w) A (letOwnedTupleGo (.Name x px) it v) Q E s := by
  unfold letOwnedTupleGo
  exact wpAny_pure h
theorem ListComp_rangeJ {elt iter : PySem.Expr} {x : Str} {px : Pos} {scope : Scope} {cl : List (Str × Addr)} {pos : Pos} {Q : Value → Shared → Prop} {Mp : (Str → Option Value) → Prop} (_F₀ : Fr h₀ L s.heap m)
    (hh : A.handled = none) (hclos : closureFor scope env = pure cl) (hcell : ∀ y ∈ scope.names, y.2 ≠ .cell) (hkind : scope.kind = .function)
    (hnames : ∀ y ∈ scope.names, y.2 = .local → scope.names.lookup y.1 = some .local) (hx : scope.names.lookup x = some .local)
    (h : wpAny (model prog w) A (eval iter env) (fun xv s₁ => ∃ (r : Addr) (n : Nat) (t₀ u₀ v₀ : Tok) (news : List (Addr × Obj)) (J : Nat → List Value → List (Addr × Obj) → Prop), xv = .ref r ∧ n ≤ 10000 ∧ IsRange s₁.heap r 0 n 1 t₀ u₀ v₀ ∧
      (∃ m, Mp m ∧ Fr h₀ L s₁.heap m) ∧ News h₀ L s₁.heap news ∧ J 0 [] news ∧
      (∀ i ys nw own I C oC D m₂ h tk (E' : Value → Shared → Prop) m, i < n → J i ys nw → ys.length = i → NsObj oC m₂ → (∀ p ∈ own, p.1 = I) → (∃ o, (I, o) ∈ own) → Mp m → Fr h₀ L h m → News h₀ L h ((C, oC) :: (D, lst ys) :: (nw ++ own)) →
        (∀ p ∈ nw, p.1 ≠ I ∧ p.1 ≠ C ∧ p.1 ≠ D) → C ≠ I → D ≠ I → C ≠ D →
        wpAny (model prog w) A (eval elt (compEnvC scope cl C env)) (TurnEnd h₀ L Mp s₁ [I] own C oC D ys (J (i + 1))) E' { s₁ with heap := h, toks := tk }) ∧
      (∀ D h tk ys nw m, J n ys nw → Mp m → Fr h₀ L h m → News h₀ L h ((D, lst ys) :: nw) → (∀ p ∈ nw, p.1 ≠ D) → Q (.ref D) { s₁ with heap := h, toks := tk })) E s)
    (hs : ∀ x, foldedSetIterable iter env x = pure x := by intro _; rfl) :
    wpAny (model prog w) A (eval (.ListComp elt [⟨.Name x px, iter, [], 0⟩] scope pos) env) Q E s := by
  rw [eval_ListComp]
  refine wpAny_comprehension_free (use := none) rfl hs hclos hkind hnames (wpAny_mono h (fun xv s₁ h₁ => ?_) fun _ _ e => e)
  (refine El.eeeeeeex (h₁) fun r n t₀ u₀ v₀ news J zq119 => ?_; try clear h₁; refine El.axaxaxaxaxaxaxx (zq119) fun zz1 hsz hr zq120 N hJ turn fin => ?_; try clear zq119; refine El.eaxx (zq120) fun m hM F => ?_; try clear zq120; (first | subst zz1 | cases zz1))
  have hsm : Builtin.Range.small 0 (n : Int) 1 = true := small_one (by omega) (by omega) (by omega) (by omega)
  refine wpAny_pyIter_range hr hsm ?_
  have hn : Builtin.Range.rangeSize 0 (n : Int) 1 = (n : Int) := by rw [rangeSize_nat]; congr 1
  have W := KTurns.ofWalks (target := .Name x px) (Walks.range (prog := prog) (w := w) hh s₁.heap.objs.size 0 1 n) fun i v s Q E st q => letGo_name q
  have hI0 : h₀.get? s₁.heap.objs.size = none := fresh_of F (Nat.le_refl _)
  refine comp_block (keep := []) (J := J) (Mp := Mp) (V := fun i m₂ => True) W (fun s Q E st hQ => wpAny_pyIter_rangeiter st hQ) ?_ ?_ (by rw [sizeLine_eq]; omega) ?_ hcell hkind
    (by show IsRangeIter _ _ _ _ _; rw [hn]; simpa using Heap.get?_push_size _ rfl) hM (F.push _) (fun p hp => ⟨Heap.get?_push_of_some _ (N p hp).1, (N p hp).2⟩) ?_ (fun _ _ _ _ p hp => by cases hp) hJ ?_ ?_
  · intro i h st
    refine ⟨[(s₁.heap.objs.size, _)], ?_, ?_, fun h' hs _ => hs _ (.head _)⟩
    · exact ⟨fun p hp => by rw [List.mem_singleton.mp hp]; exact .head _, fun b hb => by rw [List.mem_singleton.mp hb]; exact ⟨_, .head _⟩⟩
    · intro p hp
      rw [List.mem_singleton.mp hp]; exact st
  · intro b hb
    rw [List.mem_singleton.mp hb]
    exact ⟨by show _ < (s₁.heap.push _).objs.size; rw [Heap.size_push]; exact Nat.lt_succ_self _, Nat.ne_of_gt F.ns.lt, hI0⟩
  · (intro C i v s' m' Q' E' zr8 hn' hq; refine El.ex (zr8) fun t zz1 => ?_; try clear zr8; (first | subst zz1 | cases zz1))
    exact wpAny_assign_Name (wpAny_storeName_local (lookup_relabel_local hx) hn' (fun h' hn'' hs' => hq h' _ _ trivial hn'' fun c o hc e => hs'.extBut c o hc e) (by simp [compEnvC, relabel, hkind]))
  · intro p hp hw
    exact absurd (Heap.lt_size (N p hp).1) ((List.mem_singleton.mp hw) ▸ Nat.lt_irrefl _)
  · intro i ys nw own C oC D m₂ h tk E' m hi hJ' hyl _ hNs how hM' F' N' off' hCw hDw hCD
    exact turn i ys nw own _ C oC D m₂ h tk E' m hi hJ' hyl hNs (fun p hp => List.mem_singleton.mp (how.1 p hp)) (how.2 _ (.head _)) hM' F' N' (fun p hp => ⟨fun e => (off' p hp).1 (List.mem_singleton.mpr e), (off' p hp).2⟩) (fun e => hCw (List.mem_singleton.mpr e)) (fun e => hDw (List.mem_singleton.mpr e)) hCD
  · rintro D C h tk m' ys nw m hJ' hM' F' N' hns hC₀ hD₀ hCL hDL hCD offC offD
    refine ⟨m', hns, fun h'' hs'' => ?_⟩
    (refine El.axx (comp_fin F' N' hs'' hC₀ hCL hCD offC) fun F2 N2 => ?_)
    exact fin D h'' tk ys nw m hJ' hM' F2 N2 offD
end
end Mine

end
section
open PySem PySem.W
namespace Mine
noncomputable def be : Nat → Int → List Int
  | 0, _ => []
  | k + 1, n => n / 256 ^ k % 256 :: be k n
theorem be_length (k : Nat) (n : Int) : (be k n).length = k := by
  induction k with
  | zero => rfl
  | succ k ih => simp [be, ih]
theorem be_in (k : Nat) (n : Int) : ∀ x ∈ be k n, 0 ≤ x ∧ x < 256 := by
  induction k with
  | zero => intro x hx; cases hx
  | succ k ih =>
    intro x hx
    rcases List.mem_cons.mp hx with rfl | hx
    · omega
    · exact ih x hx
noncomputable def mixStep (f o : Int) : Int := (f * 6364136223846793005 + o + 1).fmod 170141183460469231731687303715884105727
noncomputable def mixed (start : Int) (ks : List Int) : Int := ks.foldl mixStep (start.fmod 170141183460469231731687303715884105727)
noncomputable def restored (tr size expected : Int) : Int :=
  let window : Int := 1 * 2 ^ (8 * size).toNat
  let half := window.fdiv 2
  let found := expected.fdiv window * window + tr
  if found ≤ expected - half ∧ found < 4611686018427387904 - window then found + window
  else if found > expected + half ∧ found ≥ window then found - window
  else found
theorem pow2_ne (k : Nat) : (1 : Int) * 2 ^ k ≠ 0 := by
  have : (0 : Int) < 2 ^ k := Int.pow_pos (by decide)
  omega
theorem pow2_log {k : Nat} (h : k < 9000) : ((1 : Int) * 2 ^ k).natAbs.log2 < 9000 := by
  have e : ((1 : Int) * 2 ^ k).natAbs = 2 ^ k := by
    rw [Int.one_mul, Int.natAbs_pow]; rfl
  rw [e, Nat.log2_two_pow]; exact h
theorem pow256 (k : Nat) : (256 : Int) ^ k = 2 ^ (8 * k) := by
  rw [Int.pow_mul]; rfl
theorem shift_none {n : Int} {size : Int} (h0 : 0 ≤ n) (hs : 0 ≤ size) (hn : n < 256 ^ size.toNat) : n.fdiv (2 ^ (8 * size).toNat) = 0 := by
  have e : (8 * size).toNat = 8 * size.toNat := by omega
  rw [e, ← pow256, Int.fdiv_eq_ediv_of_nonneg _ (Int.le_of_lt (Int.pow_pos (by decide)))]
  exact Int.ediv_eq_zero_of_lt h0 hn
noncomputable def baAt (k i : Nat) (n : Int) : Array UInt8 := (List.replicate (k - i) (0 : UInt8) ++ (be i n).map fun x => x.toNat.toUInt8).toArray
theorem baAt_size {k i : Nat} (n : Int) (h : i ≤ k) : (baAt k i n).size = k := by
  simp [baAt, be_length]; omega
theorem baAt_zero (k : Nat) (n : Int) : baAt k 0 n = Array.replicate k 0 := by
  simp [baAt, be]
theorem baAt_succ {k i : Nat} (n : Int) (h : i < k) : baAt k (i + 1) n = (baAt k i n).setIfInBounds (k - 1 - i) (n / 256 ^ i % 256).toNat.toUInt8 := by
  have e : k - i = (k - 1 - i) + 1 := by omega
  have e2 : k - (i + 1) = k - 1 - i := by omega
  apply Array.ext'
  rw [Array.toList_setIfInBounds]
  simp only [baAt, be, e2, List.map_cons]
  rw [e, List.replicate_succ']
  generalize k - 1 - i = r
  rw [List.append_assoc, List.set_append_right _ _ (by simp)]
  simp
theorem baAt_full (k : Nat) (n : Int) : KBw.bInts (baAt k k n) = be k n := by
  have h : ∀ l : List Int, (∀ x ∈ l, 0 ≤ x ∧ x < 256) → (l.map fun x => x.toNat.toUInt8).map (fun c => (c.toNat : Int)) = l := by
    intro l hl
    rw [List.map_map]
    conv => rhs; rw [← List.map_id l]
    refine List.map_congr_left fun x hx => ?_
    have := hl x hx
    simp only [Function.comp, id]
    exact byte_back this.1 this.2
  simp only [KBw.bInts, baAt, Nat.sub_self, List.replicate_zero, List.nil_append]
  exact h _ (be_in k n)
theorem be_shift (n : Int) (i : Nat) : n / 256 ^ (i + 1) = (n / 256 ^ i).fdiv 256 := by
  rw [Int.fdiv_eq_ediv_of_nonneg _ (by decide), Int.ediv_ediv_of_nonneg (Int.le_of_lt (Int.pow_pos (by decide))), Int.pow_succ]
noncomputable def nsize (apart : Int) : Int := if 2 * apart ≤ 256 then 1 else if 2 * apart ≤ 65536 then 2 else if 2 * apart ≤ 16777216 then 3 else 4
noncomputable def turnStep (st : Int) : Int := (st * 6364136223846793005 + 1442695040888963407).fmod 170141183460469231731687303715884105727
noncomputable def turnedGo : Int → List Int → List Int
  | _, [] => []
  | st, o :: r => Builtin.bitXor o (((turnStep st).fdiv 65536).fmod 256) :: turnedGo (turnStep st) r
noncomputable def turned (key : List Int) (number : Int) (data : List Int) : List Int := turnedGo (mixed (mixed (number + 1) key) [98, 111, 100, 121]) data
noncomputable def tagOf (key : List Int) (number : Int) (head body : List Int) : List Int := be 16 (mixed (mixed (number + 1) key) (be 4 (head.length : Int) ++ head ++ body))
noncomputable def sealedOf (key : List Int) (number : Int) (head payload : List Int) : List Int := turned key number payload ++ tagOf key number head (turned key number payload)
noncomputable def maskOf (key sample : List Int) : List Int := (be 16 (mixed (mixed 7 key) sample)).drop 11
noncomputable def turnedFirst (first : Int) (mask : List Int) : Int := Builtin.bitXor first (Builtin.bitAnd (mask.getD 0 0) (if first ≥ 128 then 15 else 31))
noncomputable def turnedNumber (octets mask : List Int) : List Int := octets.mapIdx fun i o => Builtin.bitXor o (mask.getD (1 + i) 0)
noncomputable def padded (payload : List Int) (ns : Int) : List Int := payload ++ List.replicate (4 - ns - payload.length).toNat 0
theorem window_facts {size : Int} (h0 : 1 ≤ size) (h1 : size ≤ 4) : (0 : Int) < 2 ^ (8 * size).toNat ∧ (2 : Int) ^ (8 * size).toNat ≤ 4294967296 ∧ 0 ≤ (1 * (2 : Int) ^ (8 * size).toNat).fdiv 2 := by
  have h : size = 1 ∨ size = 2 ∨ size = 3 ∨ size = 4 := by omega
  rcases h with rfl | rfl | rfl | rfl <;> decide
theorem nsize_of {ap : Int} {i : Nat} (hi : i < 4) (hP : ∀ j : Nat, 1 ≤ j → j ≤ i → ¬ 2 * ap ≤ 1 * 2 ^ (8 * j)) (h : 2 * ap ≤ 1 * 2 ^ (8 * (1 + (i : Int) * 1)).toNat) : 1 + (i : Int) * 1 = nsize ap := by
  have h4 : i = 0 ∨ i = 1 ∨ i = 2 ∨ i = 3 := by omega
  unfold nsize
  rcases h4 with rfl | rfl | rfl | rfl
  · have e : (8 * (1 + ((0 : Nat) : Int) * 1)).toNat = 8 := by decide
    rw [e] at h
    rw [if_pos (by omega)]; rfl
  · have h1 := hP 1 (by omega) (by omega)
    have e : (8 * (1 + ((1 : Nat) : Int) * 1)).toNat = 16 := by decide
    rw [e] at h
    rw [if_neg (by omega), if_pos (by omega)]; rfl
  · have h1 := hP 1 (by omega) (by omega)
    have h2 := hP 2 (by omega) (by omega)
    have e : (8 * (1 + ((2 : Nat) : Int) * 1)).toNat = 24 := by decide
    rw [e] at h
    rw [if_neg (by omega), if_neg (by omega), if_pos (by omega)]; rfl
  · have h1 := hP 1 (by omega) (by omega)
    have h2 := hP 2 (by omega) (by omega)
    have h3 := hP 3 (by omega) (by omega)
    rw [if_neg (by omega), if_neg (by omega), if_neg (by omega)]; rfl
theorem nsize_next {ap : Int} {i : Nat} (hP : ∀ j : Nat, 1 ≤ j → j ≤ i → ¬ 2 * ap ≤ 1 * 2 ^ (8 * j)) (h : ¬ 2 * ap ≤ 1 * 2 ^ (8 * (1 + (i : Int) * 1)).toNat) : ∀ j : Nat, 1 ≤ j → j ≤ i + 1 → ¬ 2 * ap ≤ 1 * 2 ^ (8 * j) := by
  intro j h1 h2
  rcases Nat.lt_or_ge i j with hj | hj
  · have e : j = i + 1 := by omega
    have e2 : (8 * (1 + (i : Int) * 1)).toNat = 8 * j := by omega
    rw [e2] at h; exact h
  · exact hP j h1 hj
end Mine

end
section
open PySem PySem.W
namespace Mine
theorem nat_xor_and (x : Nat) : ∀ y : Nat, (x ^^^ y) + 2 * (x &&& y) = x + y := by
  induction x using Nat.strongRecOn with
  | ind x ih =>
    intro y
    by_cases hx : x = 0
    · subst hx; simp
    · have h := ih (x / 2) (by omega) (y / 2)
      have a1 : (x ^^^ y) / 2 = x / 2 ^^^ y / 2 := Nat.xor_div_two
      have a2 : (x &&& y) / 2 = x / 2 &&& y / 2 := Nat.and_div_two
      have a3 := @Nat.xor_mod_two_pow x y 1
      have a4 := @Nat.and_mod_two_pow x y 1
      rw [Nat.pow_one] at a3 a4
      rw [← a1, ← a2] at h
      rcases Nat.mod_two_eq_zero_or_one x with hx2 | hx2 <;> rcases Nat.mod_two_eq_zero_or_one y with hy2 | hy2 <;> rw [hx2, hy2] at a3 a4
      · have a3 : (x ^^^ y) % 2 = 0 := a3
        have a4 : (x &&& y) % 2 = 0 := a4
        omega
      · have a3 : (x ^^^ y) % 2 = 1 := a3
        have a4 : (x &&& y) % 2 = 0 := a4
        omega
      · have a3 : (x ^^^ y) % 2 = 1 := a3
        have a4 : (x &&& y) % 2 = 0 := a4
        omega
      · have a3 : (x ^^^ y) % 2 = 0 := a3
        have a4 : (x &&& y) % 2 = 1 := a4
        omega
theorem bx {x y : Int} (hx : 0 ≤ x) (hy : 0 ≤ y) : Builtin.bitXor x y = ((x.toNat ^^^ y.toNat : Nat) : Int) := by
  rw [PyProof.Rows.bitXor_and, PyProof.Rows.bitAnd_pp hx hy]
  have := nat_xor_and x.toNat y.toNat
  omega
theorem bx_lo {x y : Int} (hx : 0 ≤ x) (hy : 0 ≤ y) : 0 ≤ Builtin.bitXor x y := by rw [bx hx hy]; omega
theorem bx_hi {x y : Int} (hx : 0 ≤ x) (hy : 0 ≤ y) (hx2 : x < 256) (hy2 : y < 256) : Builtin.bitXor x y < 256 := by
  rw [bx hx hy]
  have := @Nat.xor_lt_two_pow x.toNat y.toNat 8 (by omega) (by omega)
  omega
theorem bx_twice {x y : Int} (hx : 0 ≤ x) (hy : 0 ≤ y) : Builtin.bitXor (Builtin.bitXor x y) y = x := by
  rw [bx (bx_lo hx hy) hy, bx hx hy]
  have : ((((x.toNat ^^^ y.toNat : Nat) : Int)).toNat ^^^ y.toNat) = x.toNat := by
    rw [Int.toNat_natCast, Nat.xor_assoc, Nat.xor_self, Nat.xor_zero]
  rw [this]; omega
noncomputable def Oct (ks : List Int) : Prop := ∀ k ∈ ks, 0 ≤ k ∧ k < 256
theorem oct_bInts (b : Array UInt8) : Oct (KBw.bInts b) := by
  intro k hk
  simp only [KBw.bInts, List.mem_map] at hk
  (refine El.eaxx (hk) fun c zz1 zz2 => ?_; try clear hk; (first | subst zz2 | cases zz2))
  have := c.toNat_lt
  omega
theorem turnedGo_outs (st : Int) (ks : List Int) : outs (fun a _ => turnStep a) (fun a k => Builtin.bitXor k (((turnStep a).fdiv 65536).fmod 256)) st ks = turnedGo st ks := by
  induction ks generalizing st with
  | nil => rfl
  | cons k r ih => simp only [outs, turnedGo, ih]
theorem turnedGo_oct {st : Int} {ks : List Int} (h : Oct ks) : Oct (turnedGo st ks) := by
  induction ks generalizing st with
  | nil => intro k hk; cases hk
  | cons k r ih =>
    intro x hx
    rcases List.mem_cons.mp hx with rfl | hx
    · have hk := h k (.head _)
      have h1 := fmod_lo ((turnStep st).fdiv 65536) (n := 256) (by decide)
      have h2 := fmod_hi ((turnStep st).fdiv 65536) (n := 256) (by decide)
      exact ⟨bx_lo hk.1 h1, bx_hi hk.1 h1 hk.2 h2⟩
    · exact ih (fun k hk => h k (.tail _ hk)) x hx
theorem turnedGo_length (st : Int) (ks : List Int) : (turnedGo st ks).length = ks.length := by
  induction ks generalizing st with
  | nil => rfl
  | cons k r ih => simp [turnedGo, ih]
theorem turnedGo_twice {st : Int} {ks : List Int} (h : Oct ks) : turnedGo st (turnedGo st ks) = ks := by
  induction ks generalizing st with
  | nil => rfl
  | cons k r ih =>
    have hk := h k (.head _)
    simp only [turnedGo, ih (fun k hk => h k (.tail _ hk)), bx_twice hk.1 (fmod_lo ((turnStep st).fdiv 65536) (n := 256) (by decide))]
end Mine
namespace Mine
theorem turnedNumber_oct {ko mk : List Int} (h : Oct ko) (hm : Oct mk) : Oct (turnedNumber ko mk) := by
  intro x hx
  simp only [turnedNumber, List.mem_mapIdx] at hx
  obtain ⟨i, hi, rfl⟩ := hx
  have h1 := h _ (List.getElem_mem hi)
  have h2 : 0 ≤ mk.getD (1 + i) 0 ∧ mk.getD (1 + i) 0 < 256 := by
    rw [List.getD_eq_getElem?_getD]
    cases e : mk[1 + i]? with
    | none => simp
    | some v => exact hm v (List.mem_of_getElem? e)
  exact ⟨bx_lo h1.1 h2.1, bx_hi h1.1 h2.1 h1.2 h2.2⟩
theorem turnedNumber_length (ko mk : List Int) : (turnedNumber ko mk).length = ko.length := by simp [turnedNumber]
theorem bInts_zero (n : Nat) : KBw.bInts (Array.replicate n 0) = List.replicate n 0 := by
  simp [KBw.bInts]
noncomputable abbrev val (ks : List Int) : Int := ks.foldl (fun f o => f * 256 + o) 0
theorem val_one {ks : List Int} {a : Int} (h0 : 0 ≤ a) (h : a < ks.length) : val ((ks.drop a.toNat).take (1 : Int).toNat) = ks.getD a.toNat 0 := by
  have hlt : a.toNat < ks.length := by omega
  have e : (ks.drop a.toNat).take (1 : Int).toNat = [ks[a.toNat]] := by
    show (ks.drop a.toNat).take 1 = _
    rw [List.drop_eq_getElem_cons hlt]
    rfl
  rw [e, List.getD_eq_getElem?_getD, List.getElem?_eq_getElem hlt]
  show 0 * 256 + ks[a.toNat] = ks[a.toNat]
  omega
theorem band63 {v : Int} (h0 : 0 ≤ v) (h1 : v < 64) : Builtin.bitAnd v (1 * 2 ^ (8 * 1 - 2 : Int).toNat - 1) = v := by
  have e : (1 * 2 ^ (8 * 1 - 2 : Int).toNat - 1 : Int) = 63 := by decide
  rw [e, PyProof.Rows.bitAnd_pp h0 (by decide)]
  have h : v.toNat &&& (63 : Int).toNat = v.toNat % 64 := Nat.and_two_pow_sub_one_eq_mod v.toNat 6
  rw [h]; omega
end Mine

end
section
open PySem PySem.W
namespace Mine
theorem nsize_range (a : Int) : 1 ≤ nsize a ∧ nsize a ≤ 4 := by
  unfold nsize; repeat' split <;> omega
theorem pow2_pos (k : Nat) : (0 : Int) < 1 * 2 ^ k := by rw [Int.one_mul]; exact Int.pow_pos (by decide)
theorem nsize_mod (full a : Int) : 0 ≤ full.fmod (1 * 2 ^ (8 * nsize a).toNat) ∧ full.fmod (1 * 2 ^ (8 * nsize a).toNat) < 256 ^ (nsize a).toNat := by
  have hr := nsize_range a
  have e : (8 * nsize a).toNat = 8 * (nsize a).toNat := by omega
  have hp := pow2_pos (8 * (nsize a).toNat)
  refine ⟨Int.fmod_nonneg_of_pos _ (by rw [e]; exact hp), ?_⟩
  rw [e, pow256]
  have := Int.fmod_lt_of_pos full hp
  rwa [Int.one_mul] at this ⊢
theorem mixed_lo (st : Int) (ks : List Int) : 0 ≤ mixed st ks := by
  unfold mixed
  have : ∀ (l : List Int) (f : Int), 0 ≤ f → 0 ≤ l.foldl mixStep f := fun l => by
    induction l with
    | nil => exact fun f h => h
    | cons o l ih => exact fun f _ => ih _ (Int.fmod_nonneg_of_pos _ (by decide))
  exact this _ _ (Int.fmod_nonneg_of_pos _ (by decide))
theorem mixed_hi (st : Int) (ks : List Int) : mixed st ks < 170141183460469231731687303715884105727 := by
  unfold mixed
  have : ∀ (l : List Int) (f : Int), f < 170141183460469231731687303715884105727 → l.foldl mixStep f < 170141183460469231731687303715884105727 := fun l => by
    induction l with
    | nil => exact fun f h => h
    | cons o l ih => exact fun f _ => ih _ (Int.fmod_lt_of_pos _ (by decide))
  exact this _ _ (Int.fmod_lt_of_pos _ (by decide))
theorem mixed_fit (st : Int) (ks : List Int) : mixed st ks < 256 ^ (16 : Int).toNat := Int.lt_trans (mixed_hi st ks) (by decide)
theorem turned_length (key : List Int) (number : Int) (data : List Int) : (turned key number data).length = data.length := turnedGo_length _ _
theorem tagOf_length (key : List Int) (number : Int) (head body : List Int) : (tagOf key number head body).length = 16 := be_length _ _
theorem maskOf_length (key sample : List Int) : (maskOf key sample).length = 5 := by
  unfold maskOf; rw [List.length_drop, be_length]
theorem bor_zero {n : Int} (h : 0 ≤ n) : Builtin.bitOr (0 * 2 ^ (8 * 1 - 2 : Int).toNat) n = n := by
  have e : (0 : Int) * 2 ^ (8 * 1 - 2 : Int).toNat = 0 := by decide
  rw [e]
  rw [PyProof.Rows.bitOr_and, PyProof.Rows.bitAnd_comm, PyProof.Rows.bitAnd_zero]
  omega
theorem be_one {n : Int} (h0 : 0 ≤ n) (h1 : n < 64) : be (1 : Int).toNat n = [n] := by
  show [n / 256 ^ 0 % 256] = [n]
  rw [Int.pow_zero, Int.ediv_one, Int.emod_eq_of_lt h0 (by omega)]
noncomputable def sealedPacket (key : List Int) (number : Int) (head cut payload : List Int) : List Int :=
  let sealed := sealedOf key number (head ++ cut) payload
  let data := head ++ cut ++ sealed
  let mask := maskOf key ((data.drop (head.length + 4)).take 16)
  turnedFirst (head.getD 0 0) mask :: head.drop 1 ++ turnedNumber cut mask ++ sealed
theorem sealedOf_length (key : List Int) (number : Int) (head payload : List Int) : (sealedOf key number head payload).length = payload.length + 16 := by
  unfold sealedOf; rw [List.length_append, turned_length, tagOf_length]
theorem band_in {x y : Int} (hx : 0 ≤ x) (hy : 0 ≤ y) : 0 ≤ Builtin.bitAnd x y ∧ Builtin.bitAnd x y ≤ y := by
  rw [PyProof.Rows.bitAnd_pp hx hy]
  have := @Nat.and_le_right x.toNat y.toNat
  omega
theorem maskOf_in (key sample : List Int) : ∀ x ∈ maskOf key sample, 0 ≤ x ∧ x < 256 := fun x hx => be_in _ _ x (List.mem_of_mem_drop hx)
theorem getD_in {ks : List Int} (h : ∀ x ∈ ks, 0 ≤ x ∧ x < 256) (i : Nat) : 0 ≤ ks.getD i 0 ∧ ks.getD i 0 < 256 := by
  rw [List.getD_eq_getElem?_getD]
  cases e : ks[i]? with
  | none => exact ⟨by decide, by decide⟩
  | some v => exact h v (List.mem_of_getElem? e)
theorem turnedFirst_in {f : Int} {mk : List Int} (f0 : 0 ≤ f) (f1 : f < 256) (h : ∀ x ∈ mk, 0 ≤ x ∧ x < 256) : 0 ≤ turnedFirst f mk ∧ turnedFirst f mk < 256 := by
  unfold turnedFirst
  have hm := getD_in h 0
  split
  · have := band_in hm.1 (show (0 : Int) ≤ 15 by decide)
    exact ⟨bx_lo f0 this.1, bx_hi f0 this.1 f1 (by omega)⟩
  · have := band_in hm.1 (show (0 : Int) ≤ 31 by decide)
    exact ⟨bx_lo f0 this.1, bx_hi f0 this.1 f1 (by omega)⟩
noncomputable def longHd (i ns : Int) (kd ks mid : List Int) (rest : Int) : List Int := (192 + 16 * i + (ns - 1)) :: 0 :: 0 :: 0 :: 1 :: (((kd.length : Int) :: kd ++ (ks.length : Int) :: ks) ++ mid ++ [rest])
theorem be4 : be (4 : Int).toNat 1 = [0, 0, 0, 1] := by decide
end Mine

end
section
open PySem PySem.W PySem.Spec PySem.Calls PyProof.Rows
namespace Mine
set_option maxRecDepth 100000
section
variable {prog : Program} {w : World} {Γ : PySem.Ctx} {A : Around} {E : Value → Shared → Prop} {s : Shared} {env : Env}
theorem G_For {target iter : PySem.Expr} {body : List Stmt} {pos : Pos} {Q : Flow → Shared → Prop}
    (h : G (model prog w) Γ (eval iter env) (fun x s₁ => G (model prog w) Γ (pyIter x) (fun it s₂ => G (model prog w) Γ (runOwn (.forLoop target it body [] env) env) Q E s₂) E s₁) E s)
    (hs : ∀ x, foldedSetIterable iter env x = pure x := by intro _; rfl) : G (model prog w) Γ (exec (.For target iter body [] pos) env) Q E s := by
  rw [exec_For]
  refine G_bind (G_standAt (G_bind (G_mono h (fun x s₁ h₁ => ?_) fun _ _ e => e)))
  refine G_bind ?_
  rw [hs x]
  exact G_pure (G_bind (G_standAt (G_bind (G_holding (G_mono h₁ (fun it s₂ h₂ => h₂) fun _ _ e => e)))))
theorem loop_below {target it body} (hc : Γ.code = .forLoop target it body [] env) (h : Γ.In A) (c : Code) : (Γ.goto c).Below A := by
  (refine El.axaxaxaxx (h) fun h1 h2 h3 h4 h5 => ?_; try clear h)
  rw [hc] at h3 h4
  refine ⟨h1, Nat.le_trans (Nat.le_add_right _ _) h2, fun l hl => h3 l hl, fun g hg => h4 g hg, ?_⟩
  exact Nat.le_trans (Nat.le_add_left _ _) h5
theorem loop_in {Γ : PySem.Ctx} {target it body} {p : Pos} (hΓ : Γ.In A) : (Γ.enter (.forLoop target it body [] env) none p).In A := (In_call hΓ (c := .forLoop target it body [] env) (p := p)).in
end
section
variable {prog : Program} {w : World} {Γ : PySem.Ctx} {A : Around} {E : Value → Shared → Prop} {s : Shared} {env : Env} {h₀ : Heap}
end
section
variable {prog : Program} {w : World} {Γ : PySem.Ctx} {A : Around} {E : Value → Shared → Prop} {s : Shared} {env : Env} {h₀ : Heap}
end
end Mine

end
section
open PySem PySem.W PySem.Spec PySem.Calls PyProof.Rows
namespace Mine
set_option maxRecDepth 100000


noncomputable def alone : List (Code × Pos) → Bool
  | [(.builtin id ⟨[], []⟩, _)] => id == "claim.caller"
  | _ => false
theorem alone_caller {Γ : PySem.Ctx} {p : Pos} (h : alone ((Γ.code, p) :: Γ.below) = true) : Clean Γ := by
  obtain ⟨code, hd, own, below, past⟩ := Γ
  unfold alone at h
  split at h
  · rename_i e
    simp only [List.cons.injEq, Prod.mk.injEq] at e
    (refine El.aaxxx (e) fun e1 zz1 e2 => ?_; try clear e)
    subst e1 e2
    exact ⟨h, fun _ hc => nomatch hc⟩
  · cases h
noncomputable def guarded {α : Type} (t : Sem α) (d : α) : Sem α := stack >>= fun st => if alone st = true then t else pure d
theorem wp_guarded {α : Type} {M : Model} {Γ : PySem.Ctx} {t : Sem α} {d : α} {Q : α → Pos → Shared → Prop} {E : Value → Pos → Shared → Prop} {p : Pos} {s : Shared}
    (h : if alone ((Γ.code, p) :: Γ.below) = true then Sem.wp M Γ t Q E p s else Q d p s) : Sem.wp M Γ (guarded t d) Q E p s := by
  unfold guarded
  rw [Sem.wp_bind']
  show Sem.wp M Γ (if alone ((Γ.code, p) :: Γ.below) = true then t else pure d) Q E p s
  split
  · rename_i e; rw [if_pos e] at h; exact h
  · rename_i e; rw [if_neg e] at h; exact h
theorem wp_guarded' {α : Type} {M : Model} {Γ : PySem.Ctx} {t : Sem α} {d : α} {Q : α → Pos → Shared → Prop} {E : Value → Pos → Shared → Prop} {p : Pos} {s : Shared}
    (h : Sem.wp M Γ (guarded t d) Q E p s) : if alone ((Γ.code, p) :: Γ.below) = true then Sem.wp M Γ t Q E p s else Q d p s := by
  unfold guarded at h
  rw [Sem.wp_bind'] at h
  have h' : Sem.wp M Γ (if alone ((Γ.code, p) :: Γ.below) = true then t else pure d) Q E p s := h
  split
  · rename_i e; rw [if_pos e] at h'; exact h'
  · rename_i e; rw [if_neg e] at h'; exact h'

theorem sstep_guarded {prog : Program} {w : World} {s : Shared} {t : Sem PySem.Fin} {d : PySem.Fin} (hz : s.asleep) :
    sstep (denote table) prog w (.single s ⟨guarded t d, .builtin "claim.caller" {}, default, []⟩) = .go (.single s ⟨t, .builtin "claim.caller" {}, default, []⟩) := by
  obtain ⟨heap, gens, drawn, toks, os⟩ := s
  have e : step (denote table) prog w ⟨heap, gens, drawn, toks, os⟩ ⟨guarded t d, .builtin "claim.caller" {}, default, []⟩ = .go ⟨heap, gens, drawn, toks, os⟩ ⟨t, .builtin "claim.caller" {}, default, []⟩ := rfl
  rcases sstep_single (den := denote table) prog w ⟨heap, gens, drawn, toks, os⟩ ⟨guarded t d, .builtin "claim.caller" {}, default, []⟩ rfl hz with h | h
  · rw [h, e]; rfl
  · rw [e] at h; cases h

theorem holdsOpenBy_unguard {c : ClaimW} {tree : List Value → Sem PySem.Fin} {d : PySem.Fin} {defs keeps : List Str} {writes : Bool}
    (H : c.HoldsOpenBy (fun vs => ⟨guarded (tree vs) d, .builtin "claim.caller" {}, default, []⟩) defs keeps writes) :
    c.HoldsOpenBy (fun vs => ⟨tree vs, .builtin "claim.caller" {}, default, []⟩) defs keeps writes := by
  (refine El.axaxx (H) fun h1 h2 h3 => ?_; try clear H)
  refine ⟨h1, h2, fun w => ⟨(h3 w).1, fun s hs => ?_⟩⟩
  (refine El.ex ((h3 w).2 s hs) fun s₀ zq96 => ?_; refine El.axaxx (zq96) fun hf hg zq97 => ?_; try clear zq96; refine El.ex (zq97) fun s₁ zq98 => ?_; try clear zq97; refine El.axaxaxaxx (zq98) fun hT hd hr hr' hc => ?_; try clear zq98)
  refine ⟨s₀, hf, hg, s₁, hT, hd, hr, hr', fun args hpre hlay ord hord => ?_⟩
  (refine El.eex (hc args hpre hlay ord hord) fun vs s₂ zq99 => ?_; refine El.axx (zq99) fun hl zq100 => ?_; try clear zq99; refine El.eeeaxx (zq100) fun n o s' hn rest => ?_; try clear zq100)
  have z₁ : s₁.asleep := Shared.asleep_of_life hT.2.1 (Shared.asleep_of_life (fence_lifeW hf) (AfterImport.life hs))
  have z₂ : s₂.asleep := Shared.asleep_of_life (layAllW_rest _ _ _ hl).2.2.2 z₁
  cases n with
  | zero => cases hn
  | succ n =>
    simp only [schedN, sstep_guarded z₂] at hn
    exact ⟨vs, s₂, hl, n, o, s', hn, rest⟩

noncomputable abbrev WalkG (q : Program) (loose : List Str) (XP : (Str → Option Value) → Heap → Prop) (YP : World → Heap → Prop) (r : RowW) (d : DefRec) (kwd : List (Str × Expr)) : Prop :=
  ∀ (w : World) (s₀ s₁ : Shared) (mg mb : Str → Option Value), Ground q loose r.records XP w s₀ mg mb s₁.heap → YP w s₁.heap → ∀ (a : Addr) (o : Obj) (pm cd doc dV kV : Value), s₁.heap.get? a = some o →
    o.data = .func { docDef d.name d.params d.body d.scope pm cd doc with defaults := dV, kwdefaults := kV } → s₁.heap.CodeRec cd d.name → Dflts mg s₁.heap d.params kwd dV kV → mg d.name = some (.ref a) → s₁.gens = #[] →
    ∀ (args : List WData) (vals : List Value) (as : List Addr), r.claim.pre args = true → WData.layableAll args = true → ReadsAllW r.records (classAt s₀.heap) s₁.heap vals args as → WellAll w.params s₁.heap vals args → (∀ a ∈ as, (a == sysModules) = false) →
      (∀ Γ : PySem.Ctx, Γ.In callerA → Clean Γ →
        G (model r.prog w) Γ (PySem.call (.ref a) vals) (fun v s' => GoodWG r.claim (classAt s₀.heap) (ExcName.means s₀.heap) args s₁ (.ok (.ret v)) s') (fun _ _ => False) s₁) ∧
      GoodWG r.claim (classAt s₀.heap) (ExcName.means s₀.heap) args s₁ (.ok (.ret (.bool true))) s₁

theorem PySem.W.holds_open {r : OpenRow} {q : Program} {loose : List Str} {Xt : Shared → Bool} {XP : (Str → Option Value) → Heap → Prop} {α : Type} {Yf : Shared → α} {Ya : World → α} {YP : World → Heap → Prop} {d : DefRec} {kwd : List (Str × Expr)} {N : Nat}
    (left : LeftO r.prog q loose Xt Yf Ya N) (hY : ∀ w s, Yf s = Ya w → YP w s.heap) (hYk : ∀ w h h', YP w h → (∀ b o, h.get? b = some o → h'.get? b = some o) → YP w h')
    (hX : ∀ s, Xt s = true → XP (s.heap.nsMap mainGlobals) s.heap) (hXk : ∀ mg h h', XP mg h → (∀ b o, h.get? b = some o → h'.get? b = some o) → XP mg h')
    (hdef : defOf q r.name = some (d, kwd)) (hp : r.prog.theDef r.name = some (d.params, d.body, d.scope)) (hk : kwWritten? d.params.kwonlyargs d.params.kw_defaults = some kwd) (hRf : ∀ s, Xt s = true → RecFacts r.records s.heap) (hwr : (!r.writes || r.records.isEmpty) = true)
    (k1 : r.wellSaid = true) (ok : (chainsOk q && opensWell r.prog && (frees r.toRowW && r.within.isEmpty)) = true) (hb : r.prog.bare) (hw : r.toRowW.promised)
    (call : WalkG q loose XP YP r.toRowW d kwd) : r.Holds := by
  refine ⟨k1, hw, holdsOpenBy_unguard (d := .done (.ret (.bool true))) (open_anyG (r := r.toRowW) (run := fun f vs => guarded (PySem.call f vs) (.bool true)) left hY hYk hX hXk hRf hwr ok hb hw
    (fun vs w s mg f Q E hg hf h => ?_) (fun w s hg G n hn => ?_) fun w s₀ s₁ mg mb G Y args vs as hpre hlay L low => ?_)⟩
  · intro Γ p hΓ
    refine wp_guarded ?_
    have h' := wp_guarded' (h Γ p hΓ)
    split
    · rename_i e
      rw [if_pos e] at h'
      rw [Sem.wp_bind']
      show Sem.wp _ Γ (nsGet mainGlobals r.name) _ _ p s
      rw [Sem.wp_nsGet _ Γ _ p s hg, hf]
      show Sem.wp _ Γ (PySem.call f vs >>= fun v => ret v) _ _ p s
      rw [Sem.wp_bind']
      exact Sem.wp_mono _ Γ _ (fun v p' s' hq => hq) (fun _ _ _ hq => hq) p s h'
    · rename_i e
      rw [if_neg e] at h'
      exact h'
  · obtain rfl : n = r.name := by split at hn <;> simp_all
    exact pinned_of_view hg G hdef hp hk
  · (refine El.eeeeeeex (G.fn hdef) fun a o pm cd doc dV kV zq101 => ?_; refine El.axaxaxaxx (zq101) fun h1 h2 h3 h4 h5 => ?_; try clear zq101)
    (refine El.axx (call w s₀ s₁ mg mb G Y a o pm cd doc dV kV h2 h3 h4 h5 (defOf_name hdef ▸ h1) L.gens args vs as hpre hlay L.reads L.well (L.low low)) fun g1 g2 => ?_)
    refine ⟨.ref a, h1, fun Γ p hΓ => wp_guarded ?_⟩
    split
    · rename_i e
      exact Sem.wp_mono _ Γ _ (fun v p' s' hq => hq) (fun _ _ _ hq => hq.elim) p s₁ (g1 Γ hΓ (alone_caller e) p)
    · exact g2
end Mine

end
section
open PySem PySem.W PySem.Spec PySem.Calls PyProof.Rows
namespace Mine
set_option maxRecDepth 100000
noncomputable abbrev prog : Program := PySem.Challenge.pw_no0085_01

inductive AV where
  | int (n : Int)
  | str (x : Str)
  | bytes (ks : List Int)
  | raw (v : Value)
noncomputable abbrev AV.ref (a : Addr) : AV := .raw (.ref a)
noncomputable abbrev AV.bool (b : Bool) : AV := .raw (.bool b)
noncomputable abbrev AV.none : AV := .raw .none
noncomputable def Real : AV → Value → Prop
  | .int n, v => ∃ t, v = .int n t
  | .str x, v => ∃ t, v = .str x t
  | .bytes ks, v => ∃ b t, v = .bytes b t ∧ KBw.bInts b = ks
  | .raw u, v => v = u
inductive Reals : List AV → List Value → Prop
  | nil : Reals [] []
  | cons {a : AV} {v : Value} {as : List AV} {vs : List Value} : Real a v → Reals as vs → Reals (a :: as) (v :: vs)
theorem Reals.length {as : List AV} {vs : List Value} (h : Reals as vs) : vs.length = as.length := by
  induction h with
  | nil => rfl
  | cons _ _ ih => simp only [List.length_cons, ih]
theorem Reals.get {as : List AV} {vs : List Value} (h : Reals as vs) : ∀ {i : Nat} {a : AV}, as[i]? = some a → ∃ v, vs[i]? = some v ∧ Real a v := by
  induction h with
  | nil => intro i a q; cases q
  | cons r _ ih =>
    intro i a q
    cases i with
    | zero => cases q; exact ⟨_, rfl, r⟩
    | succ i => exact ih (by simpa using q)
inductive AO where
  | list (xs : List AV)
  | tup (xs : List AV)
  | inst (C : Addr) (fs : List (Str × AV))
  | cell (v : AV)
  | raw (o : Obj)
noncomputable abbrev AM := List (Str × AV)
noncomputable abbrev AL := List (Addr × AO)
inductive RealD (w : World) : List (Str × AV) → List DictEntry → Prop
  | nil : RealD w [] []
  | cons {x : Str} {a : AV} {fs : List (Str × AV)} {es : List DictEntry} {v : Value} (t : Tok) : Real a v → RealD w fs es → RealD w ((x, a) :: fs) (⟨PyData.keyHash w.params x, .str x t, v⟩ :: es)
noncomputable abbrev tupObj (vals : Array Value) : Obj := { cls := .type "tuple", data := .seq vals }
inductive RealL (w : World) : AL → List (Addr × Obj) → Prop
  | nil : RealL w [] []
  | list {a : Addr} {xs : List AV} {l : AL} {ns : List (Addr × Obj)} {vs : List Value} (n : Nat) : Reals xs vs → RealL w l ns → RealL w ((a, .list xs) :: l) ((a, W.listOf vs.toArray n) :: ns)
  | tup {a : Addr} {xs : List AV} {l : AL} {ns : List (Addr × Obj)} {vs : List Value} : Reals xs vs → RealL w l ns → RealL w ((a, .tup xs) :: l) ((a, tupObj vs.toArray) :: ns)
  | inst {a d C : Addr} {fs : List (Str × AV)} {l : AL} {ns : List (Addr × Obj)} {es : List DictEntry} (n : Nat) : RealD w fs es → RealL w l ns → RealL w ((a, .inst C fs) :: l) ((a, instObj C d) :: (d, dictOf es n) :: ns)
  | cell {a : Addr} {x : AV} {l : AL} {ns : List (Addr × Obj)} {o : Obj} {v : Value} : Real x v → o.data = .cell (some v) → RealL w l ns → RealL w ((a, .cell x) :: l) ((a, o) :: ns)
  | raw {a : Addr} {o : Obj} {l : AL} {ns : List (Addr × Obj)} : RealL w l ns → RealL w ((a, .raw o) :: l) ((a, o) :: ns)
noncomputable def MapOk (m : AM) (mm : Str → Option Value) : Prop := ∀ x v, m.lookup x = some v → ∃ u, mm x = some u ∧ Real v u

inductive StB (w : World) (h₀ : Heap) (L : Addr) (h : Heap) (m : AM) (l : AL) : Prop
  | mk (mm : Str → Option Value) (news : List (Addr × Obj)) (fr : Fr h₀ L h mm) (mo : MapOk m mm) (nw : News h₀ L h news) (rl : RealL w l news) (nd : (news.map (·.1)).Nodup) : StB w h₀ L h m l
structure Fn where
  qual : Str
  scope : Scope
  addr : Addr
  cd : Value
structure Cx (w : World) (K : Frag) (F : Fn) (n : Nat) (b : Bool) where
  Γ : PySem.Ctx
  dp : Nat
  un : Nat
  gd : Option (List Code)
  cl : List (Str × Addr)
  outer : List Env
  A₀ : Around
  base : Heap
  h₀ : Heap
  L : Addr
  s : Shared
  p : Program
  loose : List Str
  mean : ExcName → Option Value
  mg : Str → Option Value
  mb : Str → Option Value
  hΓ : Γ.In (ktrTop dp un gd F.qual F.scope L F.addr F.cd cl outer)
  clean : b = true → Clean Γ
  B : Below A₀ base outer h₀
  X : K.In h₀
  T : Top p loose mean mg mb h₀
  kind : F.scope.kind = .function
  hdp : dp + n < recursionLimit
  hun : un + 8 * n < cLine
section
variable {w : World} {K : Frag} {F : Fn} {n : Nat} {b : Bool}
noncomputable abbrev Cx.env (c : Cx w K F n b) : Env := envX F.qual F.scope c.L F.addr F.cd c.cl
noncomputable abbrev Cx.A (c : Cx w K F n b) : Around := ktrTop c.dp c.un c.gd F.qual F.scope c.L F.addr F.cd c.cl c.outer
noncomputable abbrev Cx.at (c : Cx w K F n b) (h : Heap) (tk : Nat) : Shared := { c.s with heap := h, toks := tk }
noncomputable def St (c : Cx w K F n b) (h : Heap) (m : AM) (l : AL) : Prop := StB w c.h₀ c.L h m l

variable (c : Cx w K F n b) (E : Value → Shared → Prop) (m : AM) (l : AL)
noncomputable def Ex (e : PySem.Expr) (R : AV → AL → Prop) : Prop := ∀ (Q : Value → Shared → Prop) (h : Heap) (tk : Nat), St c h m l →
  (∀ h' tk' u v l', R v l' → St c h' m l' → Real v u → Q u (c.at h' tk')) → G (model prog w) c.Γ (eval e c.env) Q E (c.at h tk)
noncomputable def Ev (e : PySem.Expr) (v : AV) : Prop := ∀ (Q : Value → Shared → Prop) (h : Heap) (tk : Nat), St c h m l →
  (∀ h' tk' u, St c h' m l → Real v u → Q u (c.at h' tk')) → G (model prog w) c.Γ (eval e c.env) Q E (c.at h tk)
noncomputable def Exs (es : List PySem.Expr) (R : List AV → AL → Prop) : Prop := ∀ (Q : List Value → Shared → Prop) (h : Heap) (tk : Nat) (pos : Pos), St c h m l →
  (∀ h' tk' us vs l', R vs l' → St c h' m l' → Reals vs us → Q us (c.at h' tk')) → G (model prog w) c.Γ (spliced (backTo pos (starEach es c.env))) Q E (c.at h tk)
noncomputable def Evs (es : List PySem.Expr) (vs : List AV) : Prop := ∀ (Q : List Value → Shared → Prop) (h : Heap) (tk : Nat) (pos : Pos), St c h m l →
  (∀ h' tk' us, St c h' m l → Reals vs us → Q us (c.at h' tk')) → G (model prog w) c.Γ (spliced (backTo pos (starEach es c.env))) Q E (c.at h tk)
noncomputable def Tx (e : PySem.Expr) (R : Bool → AL → Prop) : Prop := ∀ (Q : Bool → Shared → Prop) (h : Heap) (tk : Nat), St c h m l →
  (∀ h' tk' v l', R v l' → St c h' m l' → Q v (c.at h' tk')) → G (model prog w) c.Γ (isTrue e c.env (eval e c.env)) Q E (c.at h tk)
noncomputable def Te (e : PySem.Expr) (p : Prop) : Prop := ∀ (Q : Bool → Shared → Prop) (h : Heap) (tk : Nat), St c h m l →
  (∀ h' tk', St c h' m l → (p → Q true (c.at h' tk')) ∧ (¬ p → Q false (c.at h' tk'))) → G (model prog w) c.Γ (isTrue e c.env (eval e c.env)) Q E (c.at h tk)
inductive Fl where
  | next | brk | cont
  | ret (v : AV)
noncomputable def RealF : Fl → Flow → Prop
  | .next, f => f = .next
  | .brk, f => f = .brk
  | .cont, f => f = .cont
  | .ret v, f => ∃ u, f = .ret u ∧ Real v u
noncomputable def Wb (ss : List Stmt) (P : Fl → AM → AL → Prop) : Prop := ∀ (Q : Flow → Shared → Prop) (h : Heap) (tk : Nat), St c h m l →
  (∀ f f' m' l' h' tk', P f m' l' → St c h' m' l' → RealF f f' → Q f' (c.at h' tk')) → G (model prog w) c.Γ (execs ss c.env) Q E (c.at h tk)
noncomputable def Ws (st : Stmt) (P : Fl → AM → AL → Prop) : Prop := ∀ (Q : Flow → Shared → Prop) (h : Heap) (tk : Nat), St c h m l →
  (∀ f f' m' l' h' tk', P f m' l' → St c h' m' l' → RealF f f' → Q f' (c.at h' tk')) → G (model prog w) c.Γ (exec st c.env) Q E (c.at h tk)
noncomputable def Beh (rest : List Stmt) (P : Fl → AM → AL → Prop) (f : Fl) (m' : AM) (l' : AL) : Prop :=
  match f with
  | .next => Wb c E m' l' rest P
  | f => P f m' l'
noncomputable def Rt (R : AV → AL → Prop) (f : Fl) (_ : AM) (l' : AL) : Prop :=
  match f with
  | .next => R .none l'
  | .ret v => R v l'
  | _ => False
end
noncomputable def Cw (w : World) (K : Frag) (f : Addr) (d : Nat) (b : Bool) (args : List AV) (l : AL) (R : AV → AL → Prop) : Prop :=
  ∀ (F : Fn) (n : Nat) (b' : Bool) (c : Cx w K F n b') (E : Value → Shared → Prop) (m : AM) (Q : Value → Shared → Prop) (h : Heap) (tk : Nat) (us : List Value), d ≤ n → (b = true → b' = true) → St c h m l → Reals args us →
    (∀ h' tk' u v l', R v l' → St c h' m l' → Real v u → Q u (c.at h' tk')) → G (model prog w) c.Γ (call (.ref f) us) Q E (c.at h tk)
noncomputable abbrev Is (v : AV) (l : AL) : AV → AL → Prop := fun v' l' => v' = v ∧ l' = l
section
variable {w : World} {K : Frag} {F : Fn} {n : Nat} {b : Bool} {c : Cx w K F n b} {E : Value → Shared → Prop} {m : AM} {l : AL}
theorem Ex.mono {e : PySem.Expr} {R R' : AV → AL → Prop} (H : Ex c E m l e R) (h : ∀ v l', R v l' → R' v l') : Ex c E m l e R' := fun Q hh tk S k => H Q hh tk S fun h' tk' u v l' r => k h' tk' u v l' (h v l' r)
theorem Ev.x {e : PySem.Expr} {v : AV} (H : Ev c E m l e v) : Ex c E m l e (Is v l) := fun Q h tk S k => H Q h tk S fun h' tk' u S' r => k h' tk' u v l ⟨rfl, rfl⟩ S' r
theorem Ex.v {e : PySem.Expr} {v : AV} (H : Ex c E m l e (Is v l)) : Ev c E m l e v := fun Q h tk S k => H Q h tk S fun h' tk' u v' l' hv S' r => by
  (refine El.axx (hv) fun zz1 zz2 => ?_; try clear hv; (first | subst zz1 | cases zz1); (first | subst zz2 | cases zz2)); exact k h' tk' u S' r
theorem Evs.x {es : List PySem.Expr} {vs : List AV} (H : Evs c E m l es vs) : Exs c E m l es (fun vs' l' => vs' = vs ∧ l' = l) := fun Q h tk pos S k => H Q h tk pos S fun h' tk' us S' r => k h' tk' us vs l ⟨rfl, rfl⟩ S' r
theorem Te.x {e : PySem.Expr} {p : Prop} (H : Te c E m l e p) : Tx c E m l e (fun v l' => (v = true ↔ p) ∧ l' = l) := fun Q h tk S k => H Q h tk S fun h' tk' S' =>
  ⟨fun hp => k h' tk' true l ⟨⟨fun _ => hp, fun _ => rfl⟩, rfl⟩ S', fun hp => k h' tk' false l ⟨⟨fun q => (nomatch q), fun q => absurd q hp⟩, rfl⟩ S'⟩
theorem Ev.eq {e : PySem.Expr} {v v' : AV} (H : Ev c E m l e v) (h : v = v') : Ev c E m l e v' := h ▸ H

noncomputable def isLoc (F : Fn) (x : Str) : Bool := decide (F.scope.names.lookup x = some .local) && !(x == ("__debug__" : Str))
noncomputable def isGlo (F : Fn) (x : Str) : Bool := decide (F.scope.names.lookup x = some .globalImplicit) && !(x == ("__debug__" : Str))
noncomputable def isCel (F : Fn) (x : Str) : Bool := decide (F.scope.names.lookup x = some .cell) && !(x == ("__debug__" : Str))
theorem Ev.local {x : Str} {pos : Pos} {v : AV} (hv : m.lookup x = some v) (hx : isLoc F x = true) : Ev c E m l (.Name x pos) v := by
  intro Q h tk S k
  have S' := S
  obtain ⟨mm, news, Fr, M, N, RL, nd⟩ := S
  (refine El.eaxx (M x v hv) fun u hu hr => ?_)
  simp only [isLoc, Bool.and_eq_true, decide_eq_true_eq, Bool.not_eq_true'] at hx
  exact G_any c.hΓ (nameX_L Fr hu (k h tk u S' hr) c.kind hx.1 hx.2)
theorem Ev.global {x : Str} {pos : Pos} {v : AV} {u : Value} (hu : nsIn K mainGlobals x = some (some u)) (hr : Real v u) (hx : isGlo F x = true) : Ev c E m l (.Name x pos) v := by
  intro Q h tk S k
  have S' := S
  obtain ⟨mm, news, Fr, M, N, RL, nd⟩ := S
  simp only [isGlo, Bool.and_eq_true, decide_eq_true_eq, Bool.not_eq_true'] at hx
  exact G_any c.hΓ (nameX_K Fr c.X (topRead_of c.T) hu (k h tk u S' hr) c.kind hx.1 hx.2)
theorem Ev.builtin {x : Str} {pos : Pos} {u : Value} (hu : nsIn K mainGlobals x = some none) (hb : bootBuiltins x = some u) (hn : x ≠ "__name__") (hx : isGlo F x = true) : Ev c E m l (.Name x pos) (.raw u) := by
  intro Q h tk S k
  have S' := S
  obtain ⟨mm, news, Fr, M, N, RL, nd⟩ := S
  simp only [isGlo, Bool.and_eq_true, decide_eq_true_eq, Bool.not_eq_true'] at hx
  exact G_any c.hΓ (nameX_B Fr c.X (topRead_of c.T) hu hb hn (k h tk u S' rfl) c.kind hx.1 hx.2)
end
end Mine

end
section
open PySem PySem.W PySem.Spec PySem.Calls PyProof.Rows
namespace Mine
set_option maxRecDepth 100000
set_option linter.unusedVariables false
section
variable {w : World} {K : Frag} {F : Fn} {n : Nat} {b : Bool} {c : Cx w K F n b} {E : Value → Shared → Prop} {m : AM} {l : AL}
theorem Ev.const_int {i : Int} {k : Nat} {pos : Pos} : Ev c E m l (.Constant (.int i) k pos) (.int i) := fun Q h tk S hk =>
  G_any c.hΓ (wpAny_Constant_int (hk _ _ _ S ⟨_, rfl⟩))
theorem Ev.const_str {x : Str} {k : Nat} {pos : Pos} : Ev c E m l (.Constant (.str x) k pos) (.str x) := fun Q h tk S hk =>
  G_any c.hΓ (wpAny_Constant_str (hk _ _ _ S ⟨_, rfl⟩))
theorem wpAny_Constant_bytes {M : Model} {A : Around} {env : Env} {E : Value → Shared → Prop} {s : Shared} {x : List UInt8} {k : Nat} {pos : Pos} {Q : Value → Shared → Prop} (h : Q (.bytes x.toArray s.toks) { s with toks := s.toks + 1 }) : wpAny M A (eval (.Constant (.bytes x) k pos) env) Q E s := fun _ _ _ => h
theorem Ev.const_bytes {x : List UInt8} {k : Nat} {pos : Pos} : Ev c E m l (.Constant (.bytes x) k pos) (.bytes (x.map fun y => (y.toNat : Int))) := fun Q h tk S hk =>
  G_any c.hΓ (wpAny_Constant_bytes (hk _ _ _ S ⟨_, _, rfl, by simp [KBw.bInts]⟩))
theorem Ev.const_none {k : Nat} {pos : Pos} : Ev c E m l (.Constant .none k pos) .none := fun Q h tk S hk =>
  G_any c.hΓ (wpAny_Constant_none (hk _ _ _ S rfl))
theorem Ev.const_bool {v : Bool} {k : Nat} {pos : Pos} : Ev c E m l (.Constant (.bool v) k pos) (.bool v) := fun Q h tk S hk =>
  G_any c.hΓ (wpAny_Constant_bool (hk _ _ _ S rfl))

noncomputable def Bop (op : Operator) (a b v : AV) : Prop := ∀ {w : World} {A : Around} {E : Value → Shared → Prop} {Q : Value → Shared → Prop} {s : Shared} {u u' : Value}, Real a u → Real b u' →
  (∀ v' tk, Real v v' → Q v' { s with toks := tk }) → wpAny (model prog w) A (binaryOp op u u') Q E s
theorem Ev.bin {op : Operator} {e1 e2 : PySem.Expr} {pos : Pos} {x y v : AV} (h1 : Ev c E m l e1 x) (h2 : Ev c E m l e2 y) (ho : Bop op x y v) : Ev c E m l (.BinOp e1 op e2 pos) v := fun Q h tk S k =>
  G_BinOp (h1 _ h tk S fun h' tk' u S' r => h2 _ h' tk' S' fun h'' tk'' u' S'' r' => G_any c.hΓ (ho r r' fun v' t hv => k h'' t v' S'' hv))
theorem Bop.add {x y : Int} : Bop .Add (.int x) (.int y) (.int (x + y)) := by
  (intro w A E Q s zr6 zr7 zr8 zr9 k; refine El.ex (zr8) fun t zz1 => ?_; try clear zr8; (first | subst zz1 | cases zz1); refine El.ex (zr9) fun t' zz2 => ?_; try clear zr9; (first | subst zz2 | cases zz2))
  exact add_int (k _ _ ⟨_, rfl⟩)
theorem Bop.sub {x y : Int} : Bop .Sub (.int x) (.int y) (.int (x - y)) := by
  (intro w A E Q s zr6 zr7 zr8 zr9 k; refine El.ex (zr8) fun t zz1 => ?_; try clear zr8; (first | subst zz1 | cases zz1); refine El.ex (zr9) fun t' zz2 => ?_; try clear zr9; (first | subst zz2 | cases zz2))
  exact sub_int (k _ _ ⟨_, rfl⟩)
theorem Bop.mod {x y : Int} (hy : y ≠ 0) : Bop .Mod (.int x) (.int y) (.int (x.fmod y)) := by
  (intro w A E Q s zr6 zr7 zr8 zr9 k; refine El.ex (zr8) fun t zz1 => ?_; try clear zr8; (first | subst zz1 | cases zz1); refine El.ex (zr9) fun t' zz2 => ?_; try clear zr9; (first | subst zz2 | cases zz2))
  exact mod_int hy (k _ _ ⟨_, rfl⟩)
theorem Bop.div {x y : Int} (hy : y ≠ 0) (hp : y.natAbs.log2 < 9000) : Bop .FloorDiv (.int x) (.int y) (.int (x.fdiv y)) := by
  (intro w A E Q s zr6 zr7 zr8 zr9 k; refine El.ex (zr8) fun t zz1 => ?_; try clear zr8; (first | subst zz1 | cases zz1); refine El.ex (zr9) fun t' zz2 => ?_; try clear zr9; (first | subst zz2 | cases zz2))
  exact floordiv_int hy (k _ _ ⟨_, rfl⟩) (Or.inl (PyProof.noPylong_of_log2 hp))
theorem Bop.mul {x y : Int} (hm : IntMulOk x y) : Bop .Mult (.int x) (.int y) (.int (x * y)) := by
  (intro w A E Q s zr6 zr7 zr8 zr9 k; refine El.ex (zr8) fun t zz1 => ?_; try clear zr8; (first | subst zz1 | cases zz1); refine El.ex (zr9) fun t' zz2 => ?_; try clear zr9; (first | subst zz2 | cases zz2))
  exact mul_int (k _ _ ⟨_, rfl⟩) hm
theorem Bop.shr {x y : Int} (hy : 0 ≤ y) : Bop .RShift (.int x) (.int y) (.int (x.fdiv (2 ^ y.toNat))) := by
  (intro w A E Q s zr6 zr7 zr8 zr9 k; refine El.ex (zr8) fun t zz1 => ?_; try clear zr8; (first | subst zz1 | cases zz1); refine El.ex (zr9) fun t' zz2 => ?_; try clear zr9; (first | subst zz2 | cases zz2))
  exact rshift_int hy (k _ _ ⟨_, rfl⟩)
theorem Bop.shl {x y : Int} (hy : 0 ≤ y) (h2 : y ≤ 1000000) (hx : x.natAbs < 2 ^ 64) : Bop .LShift (.int x) (.int y) (.int (x * 2 ^ y.toNat)) := by
  (intro w A E Q s zr6 zr7 zr8 zr9 k; refine El.ex (zr8) fun t zz1 => ?_; try clear zr8; (first | subst zz1 | cases zz1); refine El.ex (zr9) fun t' zz2 => ?_; try clear zr9; (first | subst zz2 | cases zz2))
  exact lshift_int_small hy h2 hx (k _ _ ⟨_, rfl⟩)
theorem Bop.or {x y : Int} : Bop .BitOr (.int x) (.int y) (.int (Builtin.bitOr x y)) := by
  (intro w A E Q s zr6 zr7 zr8 zr9 k; refine El.ex (zr8) fun t zz1 => ?_; try clear zr8; (first | subst zz1 | cases zz1); refine El.ex (zr9) fun t' zz2 => ?_; try clear zr9; (first | subst zz2 | cases zz2))
  exact or_int (k _ _ ⟨_, rfl⟩)
theorem Bop.and {x y : Int} : Bop .BitAnd (.int x) (.int y) (.int (Builtin.bitAnd x y)) := by
  (intro w A E Q s zr6 zr7 zr8 zr9 k; refine El.ex (zr8) fun t zz1 => ?_; try clear zr8; (first | subst zz1 | cases zz1); refine El.ex (zr9) fun t' zz2 => ?_; try clear zr9; (first | subst zz2 | cases zz2))
  exact and_int (k _ _ ⟨_, rfl⟩)
theorem Bop.xor {x y : Int} : Bop .BitXor (.int x) (.int y) (.int (Builtin.bitXor x y)) := by
  (intro w A E Q s zr6 zr7 zr8 zr9 k; refine El.ex (zr8) fun t zz1 => ?_; try clear zr8; (first | subst zz1 | cases zz1); refine El.ex (zr9) fun t' zz2 => ?_; try clear zr9; (first | subst zz2 | cases zz2))
  exact xor_int (k _ _ ⟨_, rfl⟩)
theorem Bop.cat {x y : List Int} (h1 : x.length ≤ 10000) (h2 : y.length ≤ 10000) : Bop .Add (.bytes x) (.bytes y) (.bytes (x ++ y)) := by
  (intro w A E Q s zr6 zr7 zr8 zr9 k; refine El.eeaxx (zr8) fun b1 t zz1 e1 => ?_; try clear zr8; (first | subst zz1 | cases zz1); refine El.eeaxx (zr9) fun b2 t' zz2 e2 => ?_; try clear zr9; (first | subst zz2 | cases zz2))
  exact KBa.add_K e1 e2 (by omega) fun t' k' e => k _ _ ⟨_, _, rfl, e⟩
noncomputable def Cop (op : CmpOp) (a b : AV) (p : Prop) : Prop := ∀ {w : World} {A : Around} {E : Value → Shared → Prop} {Q : Value → Shared → Prop} {s : Shared} {u u' : Value}, Real a u → Real b u' →
  (∀ tk, (p → Q (.bool true) { s with toks := tk }) ∧ (¬ p → Q (.bool false) { s with toks := tk })) → wpAny (model prog w) A (compareOp op u u') Q E s
theorem bool_dec {p : Prop} [Decidable p] {Q : Value → Shared → Prop} {s : Shared} (h : (p → Q (.bool true) s) ∧ (¬ p → Q (.bool false) s)) : Q (.bool (decide p)) s := by
  by_cases hp : p
  · rw [decide_eq_true hp]; exact h.1 hp
  · rw [decide_eq_false hp]; exact h.2 hp
theorem Cop.lt {x y : Int} : Cop .Lt (.int x) (.int y) (x < y) := by
  (intro w A E Q s zr6 zr7 zr8 zr9 k; refine El.ex (zr8) fun t zz1 => ?_; try clear zr8; (first | subst zz1 | cases zz1); refine El.ex (zr9) fun t' zz2 => ?_; try clear zr9; (first | subst zz2 | cases zz2))
  exact lt_int (bool_dec (k s.toks))
theorem Cop.gt {x y : Int} : Cop .Gt (.int x) (.int y) (y < x) := by
  (intro w A E Q s zr6 zr7 zr8 zr9 k; refine El.ex (zr8) fun t zz1 => ?_; try clear zr8; (first | subst zz1 | cases zz1); refine El.ex (zr9) fun t' zz2 => ?_; try clear zr9; (first | subst zz2 | cases zz2))
  exact gt_int (bool_dec (k s.toks))
theorem Cop.eq {x y : Int} : Cop .Eq (.int x) (.int y) (x = y) := by
  (intro w A E Q s zr6 zr7 zr8 zr9 k; refine El.ex (zr8) fun t zz1 => ?_; try clear zr8; (first | subst zz1 | cases zz1); refine El.ex (zr9) fun t' zz2 => ?_; try clear zr9; (first | subst zz2 | cases zz2))
  refine eq_int ?_
  rw [show (x == y) = decide (x = y) from rfl]
  exact bool_dec (k s.toks)
theorem Cop.ne {x y : Int} : Cop .NotEq (.int x) (.int y) (x ≠ y) := by
  (intro w A E Q s zr6 zr7 zr8 zr9 k; refine El.ex (zr8) fun t zz1 => ?_; try clear zr8; (first | subst zz1 | cases zz1); refine El.ex (zr9) fun t' zz2 => ?_; try clear zr9; (first | subst zz2 | cases zz2))
  refine ne_int ?_
  rw [show (x != y) = decide (x ≠ y) by by_cases h : x = y <;> simp [h]]
  exact bool_dec (k s.toks)
theorem bInts_inj {a b : Array UInt8} (h : KBw.bInts a = KBw.bInts b) : a = b := by
  unfold KBw.bInts at h
  have e : a.toList = b.toList := by
    refine (List.map_inj_right (fun x y hxy => ?_)).mp h
    exact UInt8.toNat_inj.mp (Int.ofNat.inj hxy)
  exact Array.toList_inj.mp e
theorem Cop.beq {x y : List Int} : Cop .Eq (.bytes x) (.bytes y) (x = y) := by
  (intro w A E Q s zr6 zr7 zr8 zr9 k; refine El.eeaxx (zr8) fun b1 t zz1 e1 => ?_; try clear zr8; (first | subst zz1 | cases zz1); refine El.eeaxx (zr9) fun b2 t' zz2 e2 => ?_; try clear zr9; (first | subst zz2 | cases zz2))
  refine eq_bytes ?_
  have e : (b1.toList == b2.toList) = decide (x = y) := by
    by_cases h : x = y
    · rw [decide_eq_true h, bInts_inj (e1.trans (h.trans e2.symm))]; exact beq_self_eq_true _
    · rw [decide_eq_false h, beq_eq_false_iff_ne]
      exact fun q => h (by rw [← e1, ← e2, Array.toList_inj.mp q])
  rw [e]
  exact bool_dec (k s.toks)
theorem Cop.bne {x y : List Int} : Cop .NotEq (.bytes x) (.bytes y) (x ≠ y) := by
  (intro w A E Q s zr6 zr7 zr8 zr9 k; refine El.eeaxx (zr8) fun b1 t zz1 e1 => ?_; try clear zr8; (first | subst zz1 | cases zz1); refine El.eeaxx (zr9) fun b2 t' zz2 e2 => ?_; try clear zr9; (first | subst zz2 | cases zz2))
  refine ne_bytes ?_
  have e : (b1.toList != b2.toList) = decide (x ≠ y) := by
    by_cases h : x = y
    · rw [decide_eq_false (fun q => q h), bInts_inj (e1.trans (h.trans e2.symm))]; simp
    · rw [decide_eq_true h, bne_iff_ne]
      exact fun q => h (by rw [← e1, ← e2, Array.toList_inj.mp q])
  rw [e]
  exact bool_dec (k s.toks)
theorem str_inj {x y : Str} (h : x.cps.toList = y.cps.toList) : x = y := by
  cases x; cases y
  simp only [Str.mk.injEq]
  exact Array.toList_inj.mp h
theorem Cop.seq {x y : Str} : Cop .Eq (.str x) (.str y) (x = y) := by
  (intro w A E Q s zr6 zr7 zr8 zr9 k; refine El.ex (zr8) fun t zz1 => ?_; try clear zr8; (first | subst zz1 | cases zz1); refine El.ex (zr9) fun t' zz2 => ?_; try clear zr9; (first | subst zz2 | cases zz2))
  refine P.eq_str ?_
  rw [show (x.cps.toList == y.cps.toList) = decide (x = y) by
    by_cases h : x = y
    · subst h; simp
    · rw [decide_eq_false h, beq_eq_false_iff_ne]; exact fun q => h (str_inj q)]
  exact bool_dec (k s.toks)
theorem Cop.sne {x y : Str} : Cop .NotEq (.str x) (.str y) (x ≠ y) := by
  (intro w A E Q s zr6 zr7 zr8 zr9 k; refine El.ex (zr8) fun t zz1 => ?_; try clear zr8; (first | subst zz1 | cases zz1); refine El.ex (zr9) fun t' zz2 => ?_; try clear zr9; (first | subst zz2 | cases zz2))
  refine P.ne_str ?_
  rw [show (x.cps.toList != y.cps.toList) = decide (x ≠ y) by
    by_cases h : x = y
    · subst h; simp
    · rw [decide_eq_true h, bne_iff_ne]; exact fun q => h (str_inj q)]
  exact bool_dec (k s.toks)
theorem Te.cmp {op : CmpOp} {e1 e2 : PySem.Expr} {pos : Pos} {x y : AV} {p : Prop} (h1 : Ev c E m l e1 x) (h2 : Ev c E m l e2 y) (ho : Cop op x y p) (hm : behindInMarks op e2 = false := by with_unfolding_all rfl) :
    Te c E m l (.Compare e1 [op] [e2] pos) p := fun Q h tk S k =>
  G_isTrue_Compare (h1 _ h tk S fun h' tk' u S' r => h2 _ h' tk' S' fun h'' tk'' u' S'' r' => G_any c.hΓ (ho r r' fun t =>
    ⟨fun hp => G_any c.hΓ (wpAny_truthy_bool ((k h'' t S'').1 hp)), fun hp => G_any c.hΓ (wpAny_truthy_bool ((k h'' t S'').2 hp))⟩)) hm
theorem Te.or {e : PySem.Expr} {rest : List PySem.Expr} {pos : Pos} {p q : Prop} (h1 : Te c E m l e p) (h2 : ¬ p → Te c E m l (.BoolOp .Or rest pos) q) : Te c E m l (.BoolOp .Or (e :: rest) pos) (p ∨ q) := fun Q h tk S k =>
  G_isTrue_or (h1 _ h tk S fun h' tk' S' => ⟨fun hp => by simpa using (k h' tk' S').1 (.inl hp), fun hp => by
    simp only [Bool.false_eq_true, if_false]
    have := h2 hp Q h' tk' S' fun h'' tk'' S'' => ⟨fun hq => (k h'' tk'' S'').1 (.inr hq), fun hq => (k h'' tk'' S'').2 (fun x => x.elim hp hq)⟩
    exact this⟩)
theorem Te.or_nil {pos : Pos} : Te c E m l (.BoolOp .Or [] pos) False := fun Q h tk S k => G_any c.hΓ (isTrue_or_nil ((k h tk S).2 id))
theorem Te.and_nil {pos : Pos} : Te c E m l (.BoolOp .And [] pos) True := fun Q h tk S k => G_any c.hΓ (isTrue_and_nil ((k h tk S).1 trivial))
theorem G_isTrue_and {M : Model} {Γ : PySem.Ctx} {s : Shared} {env : Env} {x : PySem.Expr} {rest : List PySem.Expr} {pos : Pos} {whole : Sem Value} {Q : Bool → Shared → Prop}
    (h : G M Γ (isTrue x env (eval x env)) (fun c s' => if c then G M Γ (isTrue (.BoolOp .And rest pos) env whole) Q E s' else Q false s') E s) : G M Γ (isTrue (.BoolOp .And (x :: rest) pos) env whole) Q E s := by
  show G M Γ (do
    match BoolOp.And, ← isTrue x env (eval x env) with
    | .And, false => pure false
    | .Or, true => pure true
    | _, _ => allTrue .And rest env) Q E s
  refine G_bind (G_mono h (fun c s' h' => ?_) fun _ _ x => x)
  cases c with
  | true => exact h'
  | false => exact G_pure h'
theorem Te.and {e : PySem.Expr} {rest : List PySem.Expr} {pos : Pos} {p q : Prop} (h1 : Te c E m l e p) (h2 : p → Te c E m l (.BoolOp .And rest pos) q) : Te c E m l (.BoolOp .And (e :: rest) pos) (p ∧ q) := fun Q h tk S k =>
  G_isTrue_and (h1 _ h tk S fun h' tk' S' => ⟨fun hp => by
    simp only [if_true]
    exact h2 hp Q h' tk' S' fun h'' tk'' S'' => ⟨fun hq => (k h'' tk'' S'').1 ⟨hp, hq⟩, fun hq => (k h'' tk'' S'').2 (fun x => hq x.2)⟩, fun hp => by simpa using (k h' tk' S').2 (fun x => hp x.1)⟩)
theorem Te.iff {e : PySem.Expr} {p q : Prop} (H : Te c E m l e p) (h : p ↔ q) : Te c E m l e q := (propext h) ▸ H

theorem Wb.nil {P : Fl → AM → AL → Prop} (h : P .next m l) : Wb c E m l [] P := fun Q hh tk S k => G_execs_nil (k _ _ _ _ _ _ h S rfl)
theorem Wb.cons {st : Stmt} {rest : List Stmt} {P : Fl → AM → AL → Prop} (H : Ws c E m l st (Beh c E rest P)) : Wb c E m l (st :: rest) P := fun Q hh tk S k =>
  G_st (H _ hh tk S fun f f' m' l' h' tk' hP S' hf => by
    cases f with
    | next => cases hf; exact hP Q h' tk' S' k
    | brk => cases hf; exact k _ _ _ _ _ _ hP S' rfl
    | cont => cases hf; exact k _ _ _ _ _ _ hP S' rfl
    | ret v => (refine El.eaxx (hf) fun u zz1 r => ?_; try clear hf; (first | subst zz1 | cases zz1)); exact k _ _ _ _ _ _ hP S' ⟨u, rfl, r⟩)
theorem Wb.beh {rest : List Stmt} {P : Fl → AM → AL → Prop} (h : Wb c E m l rest P) : Wb c E m l [] (Beh c E rest P) := Wb.nil h
theorem St.store {h : Heap} {x : Str} {u : Value} {v : AV} (S : St c h m l) (r : Real v u) (hx : isLoc F x = true) {Q : Unit → Shared → Prop} {tk : Nat}
    (k : ∀ h' tk', St c h' ((x, v) :: m) l → Q () (c.at h' tk')) : wpAny (model prog w) c.A (storeName c.env x u) Q E (c.at h tk) := by
  obtain ⟨mm, news, Fr, M, N, RL, nd⟩ := S
  simp only [isLoc, Bool.and_eq_true, decide_eq_true_eq, Bool.not_eq_true'] at hx
  refine storeX_L Fr N (fun h' F' N' => k h' _ ⟨_, news, F', fun y a hy => ?_, N', RL, nd⟩) c.kind hx.1
  rw [List.lookup_cons] at hy
  by_cases e : y = x
  · subst e
    rw [beq_self_eq_true] at hy
    cases hy
    exact ⟨u, if_pos rfl, r⟩
  · rw [beq_eq_false_iff_ne.mpr e] at hy
    (refine El.eaxx (M y a hy) fun u' hu' r' => ?_)
    exact ⟨u', (if_neg e).trans hu', r'⟩
noncomputable def isComp : PySem.Expr → Bool
  | .ListComp .. | .SetComp .. | .DictComp .. => true
  | _ => false
theorem swaps_plain {e : PySem.Expr} {t : Option PySem.Expr} {k : Nat} {env : Env} (h : isComp e = false) : swapsWith e t k env = pure false := by
  cases e <;> first | rfl | cases h
noncomputable def Sub (m0 m : AM) : Prop := ∀ x v, m0.lookup x = some v → m.lookup x = some v
theorem Sub.nil : Sub [] m := fun _ _ h => by cases h
theorem Sub.cons {x : Str} {v : AV} {m0 : AM} (h : m.lookup x = some v) (h' : Sub m0 m) : Sub ((x, v) :: m0) m := fun y u hy => by
  rw [List.lookup_cons] at hy
  split at hy
  · rename_i e; cases hy; rw [eq_of_beq e]; exact h
  · exact h' y u hy
theorem Sub.refl : Sub m m := fun _ _ h => h
theorem Sub.trans {m1 m2 m3 : AM} (h : Sub m1 m2) (h' : Sub m2 m3) : Sub m1 m3 := fun x v e => h' x v (h x v e)
theorem Sub.up {x : Str} {v : AV} {m0 : AM} (h : Sub m0 m) : Sub ((x, v) :: m0) ((x, v) :: m) := fun y u hy => by
  rw [List.lookup_cons] at hy ⊢
  split at hy
  · exact hy
  · exact h y u hy
theorem St.sub {h : Heap} {m0 : AM} (S : St c h m l) (hs : Sub m0 m) : St c h m0 l := by
  obtain ⟨mm, news, Fr, M, N, RL, nd⟩ := S
  exact ⟨mm, news, Fr, fun x v e => M x v (hs x v e), N, RL, nd⟩
theorem Ws.assign {x : Str} {px pos : Pos} {e : PySem.Expr} {R : AV → AL → Prop} {P : Fl → AM → AL → Prop} (H : Ex c E m l e R) (hx : isLoc F x = true) (k : ∀ v l', R v l' → P .next ((x, v) :: m) l')
    (hc : isComp e = false) : Ws c E m l (.Assign [.Name x px] e pos) P := fun Q h tk S kk =>
  G_Assign (H _ h tk S fun h' tk' u v l' hR S' r => G_any c.hΓ (S'.store r hx fun h'' tk'' S'' => kk _ _ _ _ _ _ (k v l' hR) S'' rfl)) (swaps_plain hc)
theorem Wb.assign {x : Str} {px pos : Pos} {e : PySem.Expr} {v : AV} {rest : List Stmt} {P : Fl → AM → AL → Prop} (H : Ev c E m l e v) (hx : (isLoc F x && !isComp e) = true) (k : Wb c E ((x, v) :: m) l rest P) : Wb c E m l (.Assign [.Name x px] e pos :: rest) P := by
  simp only [Bool.and_eq_true, Bool.not_eq_true'] at hx
  exact Wb.cons (Ws.assign H.x hx.1 (fun _ _ hv => by (refine El.axx (hv) fun zz1 zz2 => ?_; try clear hv; (first | subst zz1 | cases zz1); (first | subst zz2 | cases zz2)); exact k) hx.2)
theorem Wb.assignX {x : Str} {px pos : Pos} {e : PySem.Expr} {R : AV → AL → Prop} {rest : List Stmt} {P : Fl → AM → AL → Prop} (H : Ex c E m l e R) (hx : (isLoc F x && !isComp e) = true) (k : ∀ v l', R v l' → Wb c E ((x, v) :: m) l' rest P) : Wb c E m l (.Assign [.Name x px] e pos :: rest) P := by
  simp only [Bool.and_eq_true, Bool.not_eq_true'] at hx
  exact Wb.cons (Ws.assign H hx.1 k hx.2)
theorem Wb.ifX {test : PySem.Expr} {body orelse rest : List Stmt} {pos : Pos} {T : Bool → AL → Prop} {P : Fl → AM → AL → Prop} (H : Tx c E m l test T) (h1 : ∀ l', T true l' → Wb c E m l' body (Beh c E rest P)) (h2 : ∀ l', T false l' → Wb c E m l' orelse (Beh c E rest P)) :
    Wb c E m l (.If test body orelse pos :: rest) P := Wb.cons fun Q h tk S k =>
  G_If (H _ h tk S fun h' tk' v l' hT S' => by
    cases v with
    | true => exact h1 l' hT Q h' tk' S' k
    | false => exact h2 l' hT Q h' tk' S' k)
theorem Wb.if {test : PySem.Expr} {body orelse rest : List Stmt} {pos : Pos} {p : Prop} {P : Fl → AM → AL → Prop} (H : Te c E m l test p) (h1 : p → Wb c E m l body (Beh c E rest P)) (h2 : ¬ p → Wb c E m l orelse (Beh c E rest P)) :
    Wb c E m l (.If test body orelse pos :: rest) P :=
  Wb.ifX H.x (fun _ hT => by (refine El.axx (hT) fun q zz1 => ?_; try clear hT; (first | subst zz1 | cases zz1)); exact h1 (q.mp rfl)) (fun _ hT => by (refine El.axx (hT) fun q zz1 => ?_; try clear hT; (first | subst zz1 | cases zz1)); exact h2 fun hp => nomatch q.mpr hp)
theorem Wb.if_no {test : PySem.Expr} {body rest : List Stmt} {pos : Pos} {p : Prop} {P : Fl → AM → AL → Prop} (H : Te c E m l test p) (hp : ¬ p) (k : Wb c E m l rest P) : Wb c E m l (.If test body [] pos :: rest) P :=
  Wb.if H (fun h => absurd h hp) fun _ => Wb.beh k
theorem Wb.retX {e : PySem.Expr} {pos : Pos} {R : AV → AL → Prop} {rest : List Stmt} {P : Fl → AM → AL → Prop} (H : Ex c E m l e R) (k : ∀ v l', R v l' → P (.ret v) m l') : Wb c E m l (.Return (some e) pos :: rest) P :=
  Wb.cons fun Q h tk S kk => G_Return (H _ h tk S fun h' tk' u v l' hR S' r => kk _ _ _ _ _ _ (show Beh c E rest P (.ret v) m l' from k v l' hR) S' ⟨u, rfl, r⟩)
theorem Wb.ret {e : PySem.Expr} {pos : Pos} {v : AV} {rest : List Stmt} {P : Fl → AM → AL → Prop} (H : Ev c E m l e v) (k : P (.ret v) m l) : Wb c E m l (.Return (some e) pos :: rest) P :=
  Wb.retX H.x fun _ _ hv => by (refine El.axx (hv) fun zz1 zz2 => ?_; try clear hv; (first | subst zz1 | cases zz1); (first | subst zz2 | cases zz2)); exact k
theorem Wb.sub {ss : List Stmt} {P : Fl → AM → AL → Prop} {m0 : AM} (H : Wb c E m0 l ss P) (hs : Sub m0 m) : Wb c E m l ss P := fun Q hh tk S k => H Q hh tk (S.sub hs) k
theorem Wb.mono {ss : List Stmt} {P P' : Fl → AM → AL → Prop} (H : Wb c E m l ss P) (h : ∀ f m' l', P f m' l' → P' f m' l') : Wb c E m l ss P' := fun Q hh tk S k => H Q hh tk S fun f f' m' l' h' tk' hP => k f f' m' l' h' tk' (h f m' l' hP)
end
noncomputable def FnIn (K : Frag) (F : Fn) (name : Str) (params : Arguments) (body : List Stmt) : Prop :=
  (∃ doc pm an ct oc od osl, K.lookup F.addr = some ⟨oc, od, .func (fnOf name F.qual params body F.scope .none .none doc pm an F.cd ct), osl⟩) ∧ codeIn K F.cd F.qual = true
noncomputable def Binds (F : Fn) (name : Str) (params : Arguments) (body : List Stmt) (xs : List Str) : Prop := ∀ (doc pm ct : Value) (an : Option Addr) (us : List Value), us.length = xs.length →
  bindArgs (fnOf name F.qual params body F.scope .none .none doc pm an F.cd ct) ⟨us, []⟩ = pure (xs.zip us)
noncomputable def plainFn (F : Fn) (xs : List Str) : Bool := xs.all (fun x => decide (F.scope.names.lookup x = some .local)) && decide (F.scope.kind = .function) && !F.scope.isCoroutine && !F.scope.isGenerator && F.scope.names.all (fun x => decide (x.2 ≠ .cell)) && decide (xs.Nodup)
theorem zip_lookup : ∀ {xs : List Str} {as : List AV} {us : List Value}, Reals as us → ∀ x v, (xs.zip as).lookup x = some v → ∃ u, (xs.zip us).lookup x = some u ∧ Real v u
  | [], _, _, _, _, _, h => by cases h
  | _ :: _, [], _, _, _, _, h => by cases h
  | y :: xs, a :: as, _, .cons r rs, x, v, h => by
    rw [List.zip_cons_cons, List.lookup_cons] at h ⊢
    split
    · rename_i e
      rw [e] at h
      cases h
      exact ⟨_, rfl, r⟩
    · rename_i e
      rw [e] at h
      exact zip_lookup rs x v h
theorem lookup_mem {β : Type} : ∀ {l : List (Str × β)} {x : Str} {v : β}, l.lookup x = some v → (x, v) ∈ l
  | [], _, _, h => by cases h
  | (y, u) :: r, x, v, h => by
    rw [List.lookup_cons] at h
    split at h
    · rename_i e; cases h; rw [eq_of_beq e]; exact .head _
    · exact .tail _ (lookup_mem h)
theorem mem_lookup {β : Type} : ∀ {l : List (Str × β)} {x : Str} {v : β}, (l.map (·.1)).Nodup → (x, v) ∈ l → l.lookup x = some v
  | (y, u) :: r, x, v, nd, h => by
    rw [List.map_cons, List.nodup_cons] at nd
    rw [List.lookup_cons]
    rcases List.mem_cons.mp h with e | h2
    · cases e; rw [beq_self_eq_true]
    · have : (x == y) = false := by
        rw [beq_eq_false_iff_ne]; rintro rfl; exact nd.1 (List.mem_map.mpr ⟨_, h2, rfl⟩)
      rw [this]; exact mem_lookup nd.2 h2
theorem rev_lookup {β : Type} {l : List (Str × β)} (nd : (l.map (·.1)).Nodup) {x : Str} {v : β} (h : l.lookup x = some v) : l.reverse.lookup x = some v :=
  mem_lookup (by rw [List.map_reverse]; exact (List.reverse_perm _).nodup_iff.mpr nd) (List.mem_reverse.mpr (lookup_mem h))
theorem zip_fst_nodup : ∀ {xs : List Str} {us : List Value}, xs.Nodup → ((xs.zip us).map (·.1)).Nodup
  | [], _, _ => .nil
  | _ :: _, [], _ => .nil
  | x :: xs, u :: us, nd => by
    rw [List.nodup_cons] at nd
    rw [List.zip_cons_cons, List.map_cons, List.nodup_cons]
    refine ⟨fun h => nd.1 ?_, zip_fst_nodup nd.2⟩
    (refine El.eaxx (List.mem_map.mp h) fun zz1 hm zz2 => ?_; obtain ⟨y, v⟩ := zz1; (first | subst zz2 | cases zz2))
    exact (List.of_mem_zip hm).1
section
variable {prog : Program} {w : World} {Γ : PySem.Ctx} {A : Around} {E : Value → Shared → Prop} {s : Shared}
theorem G_call_defQ {q : Prop} {Q : Value → Shared → Prop} {a : Addr} {o : Obj} {fd : FuncData} {body : List Stmt} {args : List Value} {binds : List (Str × Value)} (hΓ : Γ.In A) (hC : q → Clean Γ)
    (hroom : A.depth < recursionLimit) (ho : s.heap.get? a = some o) (hdata : o.data = .func fd) (hlim : s.heap.NoLimit) (hcd : s.heap.CodeRec fd.code fd.qualname)
    (hbody : fd.body = .stmts body) (hbind : BindsTo s fd ⟨args, []⟩ binds)
    (hcell : ∀ x ∈ fd.scope.names, x.2 ≠ .cell) (hloc : ∀ x ∈ binds, fd.scope.names.lookup x.1 = some .local)
    (h : ∀ h₀ (Γ' : PySem.Ctx), Γ'.In (A.deeper (callEnv fd s.heap.objs.size a)) → (q → Clean Γ') → h₀.Ns s.heap.objs.size (fun x => binds.reverse.lookup x) → (∀ b o, s.heap.get? b = some o → h₀.get? b = some o) →
      G (model prog w) Γ' (execs body (callEnv fd s.heap.objs.size a)) (fun f s' => Q (match f with | .ret v => v | _ => .none) s') (fun _ _ => False) { s with heap := h₀, toks := s.toks + binds.length })
    (hco : fd.scope.isCoroutine = false := by rfl) (hgen : fd.scope.isGenerator = false := by rfl) (hk : fd.scope.kind = .function := by rfl) :
    G (model prog w) Γ (call (.ref a) args) Q E s := by
  refine G_runValue fun p => wpCode_tree (G_any (In_call hΓ).in ?_)
  show wpAny _ A.in1 (callAny (.ref a) ⟨args, []⟩) _ _ s
  refine wpAny_callAny_function hroom ho hdata hco hgen hbody hcd (hbind _ _ _ _ ?_)
  refine wpAny_newFunctionEnv hcell hloc (fun h₀ hns₀ hsb₀ => ⟨hlim.fresh _ hsb₀, rfl, fun p' => ?_⟩) hk
  refine wpCode_tree ?_
  show G _ _ (do point; match ← (execs body (callEnv fd s.heap.objs.size a)).onRaise (leaving (callEnv fd s.heap.objs.size a)) with | .ret v => ret v | _ => ret .none) _ _ _
  refine G_bind (G_point (G_bind (G_onRaise (G_mono (h h₀ _ ((In_call hΓ).goto _).in (fun z => ((hC z).enter (c := .call (.ref a) ⟨args, []⟩) rfl none p).goto rfl) hns₀ (fun b o e => ?_)) (fun f s' h' => ?_) fun _ _ h' => h'.elim))))
  · exact hsb₀.extBut b o (Nat.ne_of_lt (Heap.lt_size e)) (Heap.get?_push_of_some _ e)
  · cases f <;> exact G_pure h'

theorem G_defQ {q : Prop} {Q : Value → Shared → Prop} {A₀ : Around} {env : Env} {outer : List Env} {base h₀ : Heap} {L : Addr} {m mg mb : Str → Option Value} {news : List (Addr × Obj)} {K : Frag} {p : Program} {loose : List Str} {mean : ExcName → Option Value}
    {name qual : Str} {params : Arguments} {body : List Stmt} {scope : Scope} {dV kV doc pm cdv ct oc : Value} {an od : Option Addr} {osl : Array (Option Value)} {f : Addr} {args : List Value} {binds : List (Str × Value)}
    (hΓ : Γ.In A) (hC : q → Clean Γ) (B : Below A₀ base outer h₀) (F : Fr h₀ L s.heap m) (X₀ : K.In h₀) (N : News h₀ L s.heap news) (T : Top p loose mean mg mb h₀) (hA : A.frames = some (env :: outer)) (hf : env.frame = some L) (hke : env.scope.kind = .function)
    (ho : K.lookup f = some ⟨oc, od, .func (fnOf name qual params body scope dV kV doc pm an cdv ct), osl⟩) (hcd : codeIn K cdv qual = true) (hroom : A.depth < recursionLimit)
    (hbind : BindsTo s (fnOf name qual params body scope dV kV doc pm an cdv ct) ⟨args, []⟩ binds) (hloc : ∀ y ∈ binds, scope.names.lookup y.1 = some .local)
    (h : ∀ g L' h₁ (Γ' : PySem.Ctx), Γ'.In (A.deeper (envOf qual scope L' f cdv)) → (q → Clean Γ') → Fr h₀ L g m → Fr g L' h₁ (fun y => binds.reverse.lookup y) → News g L' h₁ news → Below A base (env :: outer) g → K.In g → Top p loose mean mg mb g →
      G (model prog w) Γ' (execs body (envOf qual scope L' f cdv))
        (fun fl s' => LeaveK h₀ L m g (fun r s' => match r with | .ok (.ret v) => Q v s' | _ => False) (match fl with | .ret v => v | _ => .none) s') (fun _ _ => False)
        { s with heap := h₁, toks := s.toks + binds.length })
    (hco : scope.isCoroutine = false) (hgen : scope.isGenerator = false) (hk : scope.kind = .function)
    (hcell : ∀ x ∈ scope.names, x.2 ≠ .cell) : G (model prog w) Γ (call (.ref f) args) Q E s := by
  (refine El.axaxaxx (groundX (R := fun r s' => match r with | .ok (.ret v) => Q v s' | _ => False) B F N hA hf hke) fun FG BG st lv => ?_)
  refine G_call_defQ hΓ hC hroom ((X₀.keeps F.keep) _ _ ho) rfl (T.nolimit.keeps F.keep) (codeRec_of (X₀.keeps F.keep) hcd) rfl hbind hcell hloc (fun h₁ Γ' hΓ' hC' hns hk₁ => ?_) hco hgen hk
  exact G_mono (h _ s.heap.objs.size h₁ Γ' hΓ' hC' FG ⟨hns, fun b o e => hk₁ b o (of_hideAll _ e), Nat.le_of_eq (hideAll_size _ _)⟩
    (fun p hp => ⟨hk₁ _ _ (N p hp).1, Nat.ne_of_lt (Heap.lt_size (N p hp).1), hideAll_none _ (List.mem_map_of_mem hp)⟩) BG (X₀.keeps st) (T.keeps st)) (fun fl s' hl => lv _ _ hl) fun _ _ y => y
end
theorem Rt.leave {w : World} {K : Frag} {F : Fn} {n : Nat} {b : Bool} {c : Cx w K F n b} {m m' : AM} {l' : AL} {R : AV → AL → Prop} {R₀ : Result → Shared → Prop} {mm : Str → Option Value} {g h' : Heap} {L' : Addr} {f : Fl} {f' : Flow} {tk' : Nat}
    (M : MapOk m mm) (hP : Rt R f m' l') (S' : StB w g L' h' m' l') (hf : RealF f f')
    (k : ∀ h' tk' u v l', R v l' → St c h' m l' → Real v u → R₀ (.ok (.ret u)) (c.at h' tk')) : LeaveK c.h₀ c.L mm g R₀ (match (generalizing := false) f' with | .ret v => v | _ => .none) (c.at h' tk') := by
  obtain ⟨mm', news', F', M', N'', RL', nd'⟩ := S'
  refine ⟨L', mm', news', F', N'', fun F₃ N₃ => ?_⟩
  have S₃ : St c h' m l' := ⟨mm, news', F₃, M, N₃, RL', nd'⟩
  cases f with
  | next => cases hf; exact k h' tk' _ _ l' hP S₃ rfl
  | ret v => (refine El.eaxx (hf) fun u zz1 r => ?_; try clear hf; (first | subst zz1 | cases zz1)); exact k h' tk' _ _ l' hP S₃ r
  | brk => exact hP.elim
  | cont => exact hP.elim
theorem Cw.def {w : World} {K : Frag} {F : Fn} {name : Str} {params : Arguments} {body : List Stmt} {xs : List Str} {d : Nat} {b : Bool} {args : List AV} {l : AL} {R : AV → AL → Prop}
    (hF : FnIn K F name params body) (hB : Binds F name params body xs) (hp : plainFn F xs = true) (hlen : args.length = xs.length)
    (H : ∀ (c : Cx w K F d b) (E : Value → Shared → Prop), Wb c E (xs.zip args) l body (Rt R)) : Cw w K F.addr (d + 1) b args l R := by
  intro F₀ n b' c E m Q h tk us hd hb S hr k
  obtain ⟨mm, news, Fr₀, M, N, RL, nd⟩ := S
  (refine El.aeeeeeeexx (hF) fun doc pm an ct oc od osl hlk hcd => ?_; try clear hF)
  have hul : us.length = xs.length := by rw [hr.length, hlen]
  simp only [plainFn, Bool.and_eq_true, List.all_eq_true, decide_eq_true_eq, Bool.not_eq_true'] at hp
  (refine El.aaaaaxxxxxx (hp) fun hloc hkind hco hgen hcell hnd => ?_; try clear hp)
  have hdp := c.hdp
  have hun := c.hun
  refine G_defQ (q := b = true) (binds := xs.zip us) c.hΓ (fun z => c.clean (hb z)) c.B Fr₀ c.X N c.T rfl rfl c.kind hlk hcd (by show c.dp < _; omega) (BindsTo.of_eq (hB _ _ _ _ _ hul)) (fun y hy => hloc _ (List.of_mem_zip hy).1) (fun g L' h₁ Γ' hΓ' hC' F₁ F₂ N' B' X' T' => ?_) hco hgen hkind (fun x hx => by simpa using hcell x hx)
  refine H ⟨Γ', c.dp + 1, c.un + 3, c.gd, [], c.env :: c.outer, c.A, c.base, g, L', c.s, c.p, c.loose, c.mean, c.mg, c.mb, hΓ', hC', B', X', T', hkind, by omega, by omega⟩ _ _ h₁ _ ⟨_, news, F₂, fun x v hx => ?_, N', RL, nd⟩ fun f f' m' l' h' tk' hP S' hf => Rt.leave (c := c) M hP S' hf k
  (refine El.eaxx (zip_lookup hr x v hx) fun u hu r => ?_)
  exact ⟨u, rev_lookup (zip_fst_nodup hnd) hu, r⟩
end Mine

end
section
open PySem PySem.W PySem.Spec PySem.Calls PyProof.Rows
namespace Mine
set_option maxRecDepth 100000
set_option linter.unusedVariables false
noncomputable abbrev FnRec := Str × Arguments × List Stmt × Scope
noncomputable def fnOfStmt : Stmt → FnRec
  | .FunctionDef n a b _ _ _ s _ _ _ => (n, a, b, s)
  | _ => (Str.ofString "", ⟨[], [], none, [], [], none, []⟩, [], ⟨.module, [], false, false, []⟩)
noncomputable def bodyOfCls : Stmt → List Stmt
  | .ClassDef _ _ _ b _ _ _ _ _ _ _ => b
  | _ => []
noncomputable def sAt (l : List Stmt) (i : Nat) : Stmt := match l[i]? with | some s => s | none => .Pass ⟨0, 0, 0, 0⟩
noncomputable def topR (i : Nat) : FnRec := fnOfStmt (sAt prog.main.body i)
noncomputable def methR (i j : Nat) : FnRec := fnOfStmt (sAt (bodyOfCls (sAt prog.main.body i)) j)
noncomputable abbrev FnRec.name (r : FnRec) : Str := r.1
noncomputable abbrev FnRec.params (r : FnRec) : Arguments := r.2.1
noncomputable abbrev FnRec.body (r : FnRec) : List Stmt := r.2.2.1
noncomputable abbrev FnRec.scope (r : FnRec) : Scope := r.2.2.2
noncomputable def topF (i : Nat) (a : Addr) : Fn := ⟨(topR i).name, (topR i).scope, a, .ref (a - 1)⟩
noncomputable def methF (q : Str) (i j : Nat) (a : Addr) : Fn := ⟨q, (methR i j).scope, a, .ref (a - 1)⟩
noncomputable def fnTab : List (Nat × Addr) := [(8, 82), (9, 89), (10, 96), (11, 103), (12, 110), (22, 195), (23, 202), (24, 209), (25, 216), (27, 230), (29, 244), (30, 251), (31, 258), (32, 265), (35, 272), (36, 279), (37, 286), (44, 293), (45, 300), (46, 307), (47, 314), (48, 321), (49, 328), (50, 335), (51, 340), (52, 347), (53, 354), (54, 361), (55, 368), (57, 375), (58, 382), (59, 389), (60, 396), (61, 403), (62, 410), (63, 417), (64, 424), (65, 431), (67, 436), (68, 443), (69, 448), (70, 455), (71, 462), (72, 469)]
noncomputable def methTab : List (Str × Nat × Nat × Addr) := [(Str.ofString "Reader.__init__", 14, 0, 124), (Str.ofString "Reader.left", 14, 1, 131), (Str.ofString "Reader.take", 14, 2, 138), (Str.ofString "Reader.whole", 14, 4, 152), (Str.ofString "Reader.varint", 14, 5, 159), (Str.ofString "RawPacket.__init__", 21, 0, 181), (Str.ofString "Short.__init__", 4, 0, 48), (Str.ofString "PacketRefused.__init__", 5, 0, 68)]
noncomputable def globTab : List (Str × AV) := [(Str.ofString "MODULUS", .int 170141183460469231731687303715884105727), (Str.ofString "FACTOR", .int 6364136223846793005), (Str.ofString "TAG_SIZE", .int 16), (Str.ofString "SAMPLE_SIZE", .int 16), (Str.ofString "MASK_SIZE", .int 5), (Str.ofString "MOST_OCTETS", .int 4), (Str.ofString "VERSION_ONE", .int 1), (Str.ofString "VERSION_NONE", .int 0), (Str.ofString "MOST_CID", .int 20), (Str.ofString "RETRY_TAG", .int 16), (Str.ofString "INTERNAL_ERROR", .int 1), (Str.ofString "PROTOCOL_VIOLATION", .int 10),
  (Str.ofString "VARINT_SIZES", .ref 75), (Str.ofString "LONG_KINDS", .ref 167), (Str.ofString "Short", .ref 51), (Str.ofString "PacketRefused", .ref 71), (Str.ofString "Reader", .ref 162), (Str.ofString "RawPacket", .ref 184)]
  ++ fnTab.map fun p => ((topR p.1).name, .ref p.2)
noncomputable def btTab : List Str := [Str.ofString "len", Str.ofString "bytes", Str.ofString "bytearray", Str.ofString "range", Str.ofString "enumerate", Str.ofString "zip", Str.ofString "abs", Str.ofString "int", Str.ofString "min", Str.ofString "Exception"]
noncomputable def clsTab : List (Addr × Addr) := [(162, 124), (184, 181)]
noncomputable def attrTab : List (Addr × Str) := [(162, Str.ofString "data"), (162, Str.ofString "at")] ++ (["kind", "first", "version", "dcid", "scid", "token", "tag", "versions", "start", "number_at", "end"].map fun x => (184, Str.ofString x))
noncomputable def mthTab : List (Addr × Str × Addr) := [(162, Str.ofString "left", 131), (162, Str.ofString "take", 138), (162, Str.ofString "whole", 152), (162, Str.ofString "varint", 159)]
structure ClsOk (K : Frag) (C fi : Addr) : Prop where
  set : findIn K (.ref C) "__setattr__" = some (some (.builtin "object.__setattr__"))
  plain : plainOver K C = true
  dict : hasDictIn K C = true
  get : plainGet K C (Str.ofString "") = true
  makes : makesIn K C = true
  init : findIn K (.ref C) "__init__" = some (some (.ref fi))
  fn : isFn K (.ref fi) = true
  keep : keepIn K (.ref C) = true
structure KOk (K : Frag) : Prop where
  cls : ∀ p ∈ clsTab, ClsOk K p.1 p.2
  attrs : ∀ p ∈ attrTab, findIn K (.ref p.1) p.2 = some none
  mths : ∀ p ∈ mthTab, findIn K (.ref p.1) p.2.1 = some (some (.ref p.2.2)) ∧ isFn K (.ref p.2.2) = true ∧ keepIn K (.ref p.2.2) = true
  fns : ∀ p ∈ fnTab, FnIn K (topF p.1 p.2) (topR p.1).name (topR p.1).params (topR p.1).body
  meths : ∀ p ∈ methTab, FnIn K (methF p.1 p.2.1 p.2.2.1 p.2.2.2) (methR p.2.1 p.2.2.1).name (methR p.2.1 p.2.2.1).params (methR p.2.1 p.2.2.1).body
  globs : ∀ x v, globTab.lookup x = some v → ∃ u, nsIn K mainGlobals x = some (some u) ∧ Real v u
  bts : ∀ x ∈ btTab, nsIn K mainGlobals x = some none
  tup75 : ∃ us sl, K.lookup 75 = some ⟨.type "tuple", none, .seq us.toArray 0, sl⟩ ∧ Reals [.int 1, .int 2, .int 4, .int 8] us
  lst167 : ∃ (us : List Value) (n : Nat), K.lookup 167 = some (W.listOf us.toArray n) ∧ Reals [.str (Str.ofString "initial"), .str (Str.ofString "zero"), .str (Str.ofString "handshake"), .str (Str.ofString "retry")] us
theorem keep_fn {K : Frag} {F : Fn} {name : Str} {params : Arguments} {body : List Stmt} (h : FnIn K F name params body) : keepIn K (.ref F.addr) = true := by
  (refine El.aeeeeeeexx (h) fun doc pm an ct oc od osl e zz1 => ?_; try clear h)
  unfold keepIn
  simp only [e]
theorem KOk.fn {K : Frag} (H : KOk K) (i : Nat) (a : Addr) (h : (i, a) ∈ fnTab) : FnIn K (topF i a) (topR i).name (topR i).params (topR i).body := H.fns (i, a) h
section
variable {w : World} {K : Frag} {F : Fn} {n : Nat} {b : Bool} {c : Cx w K F n b} {E : Value → Shared → Prop} {m : AM} {l : AL}
theorem Ev.glob (H : KOk K) {x : Str} {pos : Pos} {v : AV} (hv : globTab.lookup x = some v) (hx : isGlo F x = true) : Ev c E m l (.Name x pos) v :=
  let ⟨_, h1, h2⟩ := H.globs x v hv
  Ev.global h1 h2 hx
theorem Ev.bt (H : KOk K) {x : Str} {pos : Pos} {u : Value} (hb : bootBuiltins x = some u) (hm : btTab.contains x = true) (hx : isGlo F x = true) : Ev c E m l (.Name x pos) (.raw u) :=
  Ev.builtin (H.bts x (List.contains_iff_mem.mp hm)) hb (fun e => by rw [e] at hm; exact absurd hm (by decide +kernel)) hx
noncomputable def isStar : PySem.Expr → Bool
  | .Starred _ _ => true
  | _ => false
theorem star_cons {e : PySem.Expr} {rest : List PySem.Expr} {env : Env} (h : isStar e = false) : starEach (e :: rest) env = (false, eval e env) :: starEach rest env := by
  cases e <;> first | rfl | cases h
noncomputable def noStar (es : List PySem.Expr) : Bool := es.all (fun e => !isStar e)
theorem star_plain {pos : Pos} {env : Env} : ∀ {es : List PySem.Expr}, noStar es = true → (backTo pos (starEach es env)).any (·.1) = false
  | [], _ => rfl
  | e :: es, h => by
    simp only [noStar, List.all_cons, Bool.and_eq_true, Bool.not_eq_true'] at h
    rw [star_cons h.1]
    show (false || (backTo pos (starEach es env)).any (·.1)) = false
    rw [star_plain (es := es) h.2]; rfl
theorem Evs.nil : Evs c E m l [] [] := fun Q h tk pos S k => G_args_nil (k h tk [] S .nil)
theorem Evs.cons {e : PySem.Expr} {es : List PySem.Expr} {v : AV} {vs : List AV} (h1 : Ev c E m l e v) (h2 : Evs c E m l es vs) (hs : isStar e = false := by rfl) : Evs c E m l (e :: es) (v :: vs) := fun Q h tk pos S k =>
  G_args_cons (h1 _ h tk S fun h' tk' u S' r => h2 _ h' tk' pos S' fun h'' tk'' us S'' rs => k h'' tk'' (u :: us) S'' (.cons r rs)) (star_cons hs)
theorem Exs.cons {e : PySem.Expr} {es : List PySem.Expr} {R1 : AV → AL → Prop} {R : List AV → AL → Prop} (h1 : Ex c E m l e R1) (h2 : ∀ v l', R1 v l' → Exs c E m l' es (fun vs l'' => R (v :: vs) l'')) (hs : isStar e = false := by rfl) : Exs c E m l (e :: es) R := fun Q h tk pos S k =>
  G_args_cons (h1 _ h tk S fun h' tk' u v l' hR S' r => h2 v l' hR _ h' tk' pos S' fun h'' tk'' us vs l'' hR' S'' rs => k h'' tk'' (u :: us) (v :: vs) l'' hR' S'' (.cons r rs)) (star_cons hs)
theorem St.in {h : Heap} (S : St c h m l) : K.In h := by
  obtain ⟨mm, news, Fr, _⟩ := S
  exact c.X.keeps Fr.keep
theorem Ex.callX {x : Str} {np pos : Pos} {f : Addr} {e0 : PySem.Expr} {es : List PySem.Expr} {d : Nat} {b2 : Bool} {RA : List AV → AL → Prop} {R : AV → AL → Prop} (hf : Ev c E m l (.Name x np) (.ref f)) (hk : keepIn K (.ref f) = true)
    (ha : Exs c E m l (e0 :: es) RA) (C : ∀ vs l', RA vs l' → Cw w K f d b2 vs l' R) (hd : d ≤ n) (hb : b2 = true → b = true) (hs : noStar (e0 :: es) = true) : Ex c E m l (.Call (.Name x np) (e0 :: es) [] pos) R := fun Q h tk S k => by
  simp only [noStar, List.all_cons, Bool.and_eq_true, Bool.not_eq_true'] at hs
  refine G_Call (hf _ h tk S fun h' tk' u S' r => ?_)
  cases r
  exact G_callWith (P := K.In) (keeps_K hk) (ha _ h' tk' pos S' fun h'' tk'' us vs l' hR S'' rs => ⟨S''.in, C vs l' hR _ _ _ c E m Q h'' tk'' us hd hb S'' rs k⟩) (star_cons hs.1) (star_plain hs.2)
theorem Ex.call {x : Str} {np pos : Pos} {f : Addr} {e0 : PySem.Expr} {es : List PySem.Expr} {d : Nat} {b2 : Bool} {vs : List AV} {R : AV → AL → Prop} (hf : Ev c E m l (.Name x np) (.ref f)) (hk : keepIn K (.ref f) = true)
    (ha : Evs c E m l (e0 :: es) vs) (C : Cw w K f d b2 vs l R) (hd : d ≤ n) (hb : b2 = true → b = true) (hs : noStar (e0 :: es) = true) : Ex c E m l (.Call (.Name x np) (e0 :: es) [] pos) R :=
  Ex.callX hf hk ha.x (fun _ _ h => by (refine El.axx (h) fun zz1 zz2 => ?_; try clear h; (first | subst zz1 | cases zz1); (first | subst zz2 | cases zz2)); exact C) hd hb hs
theorem Ev.fn (H : KOk K) {x : Str} {np pos : Pos} {e0 : PySem.Expr} {es : List PySem.Expr} (i : Nat) (a : Addr) {d : Nat} {b2 : Bool} {vs : List AV} {v : AV} (hx : isGlo F x = true) (ht : ((topR i).name == x && fnTab.contains (i, a) && noStar (e0 :: es)) = true)
    (hg : globTab.lookup x = some (.ref a)) (ha : Evs c E m l (e0 :: es) vs) (C : Cw w K a d b2 vs l (Is v l)) (hd : d ≤ n) (hb : b2 = true → b = true) : Ev c E m l (.Call (.Name x np) (e0 :: es) [] pos) v := by
  simp only [Bool.and_eq_true] at ht
  exact (Ex.call (Ev.glob H hg hx) (keep_fn (H.fn i a (List.contains_iff_mem.mp ht.1.2))) ha C hd hb ht.2).v
theorem KOk.keepA {K : Frag} (H : KOk K) {a : Addr} (h : fnTab.any (fun p => p.2 == a) = true) : keepIn K (.ref a) = true := by
  (refine El.eaxx (List.any_eq_true.mp h) fun zz1 hm e => ?_; obtain ⟨i, a'⟩ := zz1)
  rw [beq_iff_eq] at e
  exact keep_fn (H.fn i a (e ▸ hm))
theorem Ex.fnA (H : KOk K) {x : Str} {np pos : Pos} {e0 : PySem.Expr} {es : List PySem.Expr} {a : Addr} {d : Nat} {b2 : Bool} {vs : List AV} {R : AV → AL → Prop} (hx : isGlo F x = true) (hg : globTab.lookup x = some (.ref a)) (ht : (fnTab.any (fun p => p.2 == a) && noStar (e0 :: es)) = true)
    (ha : Evs c E m l (e0 :: es) vs) (C : Cw w K a d b2 vs l R) (hd : (decide (d ≤ n) && (!b2 || b)) = true) : Ex c E m l (.Call (.Name x np) (e0 :: es) [] pos) R := by
  simp only [Bool.and_eq_true, decide_eq_true_eq, Bool.or_eq_true, Bool.not_eq_true'] at ht hd
  exact Ex.call (Ev.glob H hg hx) (H.keepA ht.1) ha C hd.1 (fun q => hd.2.elim (fun z => by rw [q] at z; cases z) id) ht.2
theorem Ev.fnA (H : KOk K) {x : Str} {np pos : Pos} {e0 : PySem.Expr} {es : List PySem.Expr} {a : Addr} {d : Nat} {b2 : Bool} {vs : List AV} {v : AV} (hx : isGlo F x = true) (hg : globTab.lookup x = some (.ref a)) (ht : (fnTab.any (fun p => p.2 == a) && noStar (e0 :: es)) = true)
    (ha : Evs c E m l (e0 :: es) vs) (C : Cw w K a d b2 vs l (Is v l)) (hd : (decide (d ≤ n) && (!b2 || b)) = true) : Ev c E m l (.Call (.Name x np) (e0 :: es) [] pos) v := (Ex.fnA H hx hg ht ha C hd).v
end
end Mine

end
section
open PySem PySem.W PySem.Spec PySem.Calls PyProof.Rows
namespace Mine
set_option maxRecDepth 100000
set_option linter.unusedVariables false
section
variable {w : World} {K : Frag} {F : Fn} {n : Nat} {b : Bool} {c : Cx w K F n b} {E : Value → Shared → Prop} {m : AM} {l : AL}
theorem G_IfExp {M : Model} {Γ : PySem.Ctx} {s : Shared} {env : Env} {test body orelse : PySem.Expr} {pos : Pos} {Q : Value → Shared → Prop}
    (h : G M Γ (isTrue test env (eval test env)) (fun b s' => if b then G M Γ (eval body env) Q E s' else G M Γ (eval orelse env) Q E s') E s) : G M Γ (eval (.IfExp test body orelse pos) env) Q E s := by
  show G M Γ (do if ← isTrue test env (eval test env) then eval body env else eval orelse env) Q E s
  refine G_bind (G_mono h (fun b s' h' => ?_) fun _ _ x => x)
  cases b <;> simpa using h'
theorem Ev.ifexp {test body orelse : PySem.Expr} {pos : Pos} {p : Prop} {v : AV} (ht : Te c E m l test p) (h1 : p → Ev c E m l body v) (h2 : ¬ p → Ev c E m l orelse v) : Ev c E m l (.IfExp test body orelse pos) v := fun Q h tk S k =>
  G_IfExp (ht _ h tk S fun h' tk' S' => ⟨fun hp => by simpa using h1 hp Q h' tk' S' k, fun hp => by simpa using h2 hp Q h' tk' S' k⟩)
theorem Cop.ge {x y : Int} : Cop .GtE (.int x) (.int y) (y ≤ x) := by
  (intro w A E Q s zr6 zr7 zr8 zr9 k; refine El.ex (zr8) fun t zz1 => ?_; try clear zr8; (first | subst zz1 | cases zz1); refine El.ex (zr9) fun t' zz2 => ?_; try clear zr9; (first | subst zz2 | cases zz2))
  exact PyProof.Rows.ge_int (bool_dec (k s.toks))
theorem Cop.le {x y : Int} : Cop .LtE (.int x) (.int y) (x ≤ y) := by
  (intro w A E Q s zr6 zr7 zr8 zr9 k; refine El.ex (zr8) fun t zz1 => ?_; try clear zr8; (first | subst zz1 | cases zz1); refine El.ex (zr9) fun t' zz2 => ?_; try clear zr9; (first | subst zz2 | cases zz2))
  exact PyProof.Rows.le_int (bool_dec (k s.toks))
theorem Ev.neg {e : PySem.Expr} {pos : Pos} {x : Int} (h : Ev c E m l e (.int x)) : Ev c E m l (.UnaryOp .USub e pos) (.int (-x)) := fun Q h0 tk S k => by
  show G _ _ (do let v ← eval e c.env; standAt pos; holding [v] (unaryOp .USub v)) _ _ _
  refine G_bind (h _ h0 tk S fun h' tk' u S' r => G_bind (G_standAt (G_holding ?_)))
  (refine El.ex (r) fun t zz1 => ?_; try clear r; (first | subst zz1 | cases zz1))
  exact G_any c.hΓ (neg_int (k h' _ _ S' ⟨_, rfl⟩))
end
end Mine

end
section
open PySem PySem.W PySem.Spec PySem.Calls PyProof.Rows
namespace Mine
set_option maxRecDepth 100000
set_option linter.unusedVariables false
section
variable {prog : Program} {w : World} {Γ : PySem.Ctx} {A : Around} {E : Value → Shared → Prop} {s : Shared} {env : Env}
theorem G_forLoopQ {q : Prop} {target : PySem.Expr} {it : Value} {body : List Stmt} {Q : Flow → Shared → Prop} (hΓ : Γ.In A) (hC : q → Clean Γ) (I : Nat → Shared → Prop)
    (turn : ∀ n s Γ₁, Γ₁.In A → (q → Clean Γ₁) → I n s → G (model prog w) Γ₁ (pyNext it) (fun r s₁ => match r with
      | none => Q .next s₁
      | some v => G (model prog w) Γ₁ (letOwnedTupleGo target it v) (fun _ s₀ => G (model prog w) Γ₁ (assign target env v) (fun _ s₂ => G (model prog w) Γ₁ (execs body env) (fun f s₃ => match f with
          | .next | .cont => ∃ m, m < n ∧ I m s₃
          | .brk => Q .next s₃
          | .ret v => Q (.ret v) s₃) (fun _ _ => False) s₂) (fun _ _ => False) s₀) (fun _ _ => False) s₁) (fun _ _ => False) s)
    (n : Nat) (h : I n s) : G (model prog w) Γ (runOwn (.forLoop target it body [] env) env) Q E s := by
  have key : ∀ (n : Nat) (s : Shared) (p : Pos) (Γ₁ : PySem.Ctx), Γ₁.code = .forLoop target it body [] env → Γ₁.In A → (q → Clean Γ₁) → I n s → wpCode (model prog w) Γ₁ (fun r s' => match r with | .ok f => Q f s' | .error _ => False) p s := by
    intro n
    induction n using Nat.strongRecOn with
    | ind n ih =>
      intro s p Γ₁ hc hΓ₁ hC₁ hI
      refine wpCode_tree ?_
      rw [hc]
      show G _ _ ((forTurn target it body [] env).onRaise (fun x => do noteFrame x env; theTreesLotGoes x)) _ _ s
      refine G_onRaise (G_mono (E := fun _ _ => False) ?_ (fun _ _ x => x) fun _ _ x => x.elim)
      simp only [forTurn]
      refine G_bind (G_standAt (G_bind (G_onRaise (G_mono (turn n s Γ₁ hΓ₁ hC₁ hI) (fun r s₁ h₁ => ?_) fun _ _ x => x.elim))))
      cases r with
      | none =>
        refine G_pure ⟨rfl, fun p' => ?_⟩
        have hb : codeAny (model prog w) A (.block [] env) (fun r s' => match r with | .ok f => Q f s' | .error _ => False) s₁ := codeAny_block (wpAny_execs_nil h₁)
        exact hb _ p' rfl (loop_below hc hΓ₁ _)
      | some v =>
        refine G_bind (G_mono h₁ (fun _ s₀ h₀ => ?_) fun _ _ x => x)
        refine G_bind (G_mono h₀ (fun _ s₂ h₂ => ?_) fun _ _ x => x)
        refine G_bind (G_mono h₂ (fun f s₃ h₃ => ?_) fun _ _ x => x)
        have again : (∃ m, m < n ∧ I m s₃) → (Code.forLoop target it body [] env).quiet = true ∧ ∀ p', wpCode (model prog w) (Γ₁.goto (.forLoop target it body [] env)) (fun r s' => match r with | .ok f => Q f s' | .error _ => False) p' s₃ := fun hm => by
          obtain ⟨m, hm, hI'⟩ := hm
          exact ⟨rfl, fun p' => ih m hm s₃ p' _ rfl (loop_below hc hΓ₁ _).in (fun z => (hC₁ z).goto rfl) hI'⟩
        cases f with
        | next => exact G_pure (again h₃)
        | cont => exact G_pure (again h₃)
        | brk => exact G_pure h₃
        | ret v => exact G_pure h₃
  intro p
  unfold runOwn
  rw [Sem.wp_onRaise, Sem.wp_run]
  refine wpCode_mono (fun r s' hr => ?_) (key n s p _ rfl (loop_in hΓ) (fun z => (hC z).enter rfl none p) h)
  cases r with
  | ok f => exact hr
  | error e => exact hr.elim
end
section
variable {w : World} {K : Frag} {F : Fn} {n : Nat} {b : Bool} {c : Cx w K F n b} {E : Value → Shared → Prop} {m : AM} {l : AL}
structure ItrK (c : Cx w K F n b) (kp : List (Addr × Obj)) (I : Addr) (items : List AV) (fp : List Addr) (P : Nat → Value → Prop) (S : Nat → Heap → Prop) : Prop where
  W : Walks prog w c.A I fp [I] items.length P S
  real : ∀ i v, i < items.length → P i v → ∃ a, items[i]? = some a ∧ Real a v
  fp : ∀ a ∈ fp, a = I ∨ (∃ o, c.h₀.get? a = some o) ∨ ∃ o, (a, o) ∈ kp
  at_ : ∀ i h, S i h → ∃ o, h.get? I = some o
noncomputable abbrev Itr (c : Cx w K F n b) := ItrK c []
noncomputable def IterK (c : Cx w K F n b) (E : Value → Shared → Prop) (m : AM) (l : AL) (e : PySem.Expr) (items : List AV) (RK : List (Addr × Obj) → AL → Prop) : Prop := ∀ (Q : Value → Shared → Prop) (h : Heap) (tk : Nat), St c h m l →
  (∀ h' tk' I o kp l' fp P S, RK kp l' → St c h' m ((I, .raw o) :: l') → ItrK c kp I items fp P S → S 0 h' → Q (.ref I) (c.at h' tk')) → G (model prog w) c.Γ (eval e c.env) (fun x s₁ => G (model prog w) c.Γ (pyIter x) Q E s₁) E (c.at h tk)
noncomputable def Iter (c : Cx w K F n b) (E : Value → Shared → Prop) (m : AM) (l : AL) (e : PySem.Expr) (items : List AV) : Prop := ∀ (Q : Value → Shared → Prop) (h : Heap) (tk : Nat), St c h m l →
  (∀ h' tk' I o fp P S, St c h' m ((I, .raw o) :: l) → Itr c I items fp P S → S 0 h' → Q (.ref I) (c.at h' tk')) → G (model prog w) c.Γ (eval e c.env) (fun x s₁ => G (model prog w) c.Γ (pyIter x) Q E s₁) E (c.at h tk)
theorem St.pushRaw {h : Heap} (S : St c h m l) (o : Obj) (hf : o.isFreed = false := by rfl) : St c (h.push o) m ((h.objs.size, .raw o) :: l) := by
  obtain ⟨mm, news, Fr, M, N, RL, nd⟩ := S
  refine ⟨mm, _, Fr.push o, M, News.push Fr N o hf, .raw RL, ?_⟩
  rw [List.map_cons, List.nodup_cons]
  refine ⟨fun q => ?_, nd⟩
  (refine El.eaxx (List.mem_map.mp q) fun p hp e => ?_)
  have := Heap.lt_size (N p hp).1
  rw [e] at this
  exact Nat.lt_irrefl _ this
theorem St.turnRaw {h h' : Heap} {I : Addr} {o o' : Obj} (S : St c h m ((I, .raw o) :: l)) (hk : ∀ a x, a ≠ I → h.get? a = some x → h'.get? a = some x) (hI : h'.get? I = some o') : St c h' m ((I, .raw o') :: l) := by
  obtain ⟨mm, news, Fr, M, N, RL, nd⟩ := S
  cases RL with
  | raw RL =>
    rename_i ns
    have hI0 := N (I, o) (.head _)
    rw [List.map_cons, List.nodup_cons] at nd
    refine ⟨mm, _, ⟨Fr.ns.at' fun x e => hk _ x (Ne.symm hI0.2.1) e, fun a x e => hk a x (fun q => ?_) (Fr.keep a x e), Fr.above⟩, M, fun p hp => ?_, .raw RL, ?_⟩
    · rw [q, hI0.2.2] at e; cases e
    · rcases List.mem_cons.mp hp with rfl | hp
      · exact ⟨hI, hI0.2⟩
      · refine ⟨hk _ _ (fun q => nd.1 (List.mem_map.mpr ⟨p, hp, q⟩)) (N p (.tail _ hp)).1, (N p (.tail _ hp)).2⟩
    · rw [List.map_cons, List.nodup_cons]; exact nd
theorem St.raw_at {h : Heap} {I : Addr} {o : Obj} (S : St c h m ((I, .raw o) :: l)) : h.get? I = some o ∧ I ≠ c.L ∧ c.h₀.get? I = none := by
  obtain ⟨mm, news, Fr, M, N, RL, nd⟩ := S
  cases RL with
  | raw RL => exact N (I, o) (.head _)
theorem St.keep {h : Heap} (S : St c h m l) : ∀ a x, c.h₀.get? a = some x → h.get? a = some x := by
  obtain ⟨mm, news, Fr, _⟩ := S; exact Fr.keep
theorem St.drop {h : Heap} {p : Addr × AO} (S : St c h m (p :: l)) : St c h m l := by
  obtain ⟨mm, news, Fr, M, N, RL, nd⟩ := S
  cases RL with
  | raw RL => exact ⟨mm, _, Fr, M, fun q hq => N q (.tail _ hq), RL, (List.nodup_cons.mp nd).2⟩
  | list _ _ RL => exact ⟨mm, _, Fr, M, fun q hq => N q (.tail _ hq), RL, (List.nodup_cons.mp nd).2⟩
  | tup _ RL => exact ⟨mm, _, Fr, M, fun q hq => N q (.tail _ hq), RL, (List.nodup_cons.mp nd).2⟩
  | cell _ _ RL => exact ⟨mm, _, Fr, M, fun q hq => N q (.tail _ hq), RL, (List.nodup_cons.mp nd).2⟩
  | inst _ _ RL => exact ⟨mm, _, Fr, M, fun q hq => N q (.tail _ (.tail _ hq)), RL, (List.nodup_cons.mp (List.nodup_cons.mp nd).2).2⟩
noncomputable def isSet : PySem.Expr → Bool
  | .Set .. => true
  | _ => false
theorem set_plain {e : PySem.Expr} {env : Env} {v : Value} (h : isSet e = false) : foldedSetIterable e env v = pure v := by
  cases e <;> first | rfl | cases h
noncomputable def Tn (c : Cx w K F n b) (E : Value → Shared → Prop) (rest : List Stmt) (P : Fl → AM → AL → Prop) (I : Addr) (o : Obj) (H : Prop) (m0 : AM) (l0 : AL) (f : Fl) (m' : AM) (l' : AL) : Prop :=
  match f with
  | .next | .cont => l' = (I, .raw o) :: l0 ∧ Sub m0 m' ∧ H
  | .brk => Wb c E m' l' rest P
  | .ret v => P (.ret v) m' l'
noncomputable def TnJ (c : Cx w K F n b) (E : Value → Shared → Prop) (rest : List Stmt) (P : Fl → AM → AL → Prop) (I : Addr) (o : Obj) (J : AM → AL → Prop) (f : Fl) (m' : AM) (l' : AL) : Prop :=
  match f with
  | .next | .cont => ∃ l0, l' = (I, .raw o) :: l0 ∧ J m' l0
  | .brk => Wb c E m' l' rest P
  | .ret v => P (.ret v) m' l'
theorem RealL.rawM {l : AL} {ns : List (Addr × Obj)} (R : RealL w l ns) : ∀ {D : Addr} {ob : Obj}, (D, AO.raw ob) ∈ l → (D, ob) ∈ ns := by
  induction R with
  | nil => intro D v h; cases h
  | raw _ ih =>
    intro D v h
    rcases List.mem_cons.mp h with e | h
    · cases e; exact .head _
    · exact .tail _ (ih h)
  | inst n r _ ih =>
    intro D v h
    rcases List.mem_cons.mp h with e | h
    · cases e
    · exact .tail _ (.tail _ (ih h))
  | list n r _ ih =>
    intro D v h
    rcases List.mem_cons.mp h with e | h
    · cases e
    · exact .tail _ (ih h)
  | tup r _ ih =>
    intro D v h
    rcases List.mem_cons.mp h with e | h
    · cases e
    · exact .tail _ (ih h)
  | cell r _ _ ih =>
    intro D v h
    rcases List.mem_cons.mp h with e | h
    · cases e
    · exact .tail _ (ih h)
theorem St.rawM' {h : Heap} {D : Addr} {ob : Obj} (S : St c h m l) (hm : (D, AO.raw ob) ∈ l) : h.get? D = some ob := by
  obtain ⟨mm, news, Fr, M, N, RL, nd⟩ := S
  exact (N _ (RL.rawM hm)).1
theorem Wb.forK {RK : List (Addr × Obj) → AL → Prop} {x : Str} {px pos : Pos} {iter : PySem.Expr} {body rest : List Stmt} {items : List AV} {P : Fl → AM → AL → Prop} (J : List (Addr × Obj) → Nat → AM → AL → Prop) (hit : IterK c E m l iter items RK) (h0 : ∀ kp l', RK kp l' → J kp 0 m l') (hkp : ∀ kp i m1 l1, J kp i m1 l1 → ∀ p ∈ kp, (p.1, AO.raw p.2) ∈ l1)
    (turn : ∀ (c₁ : Cx w K F n b) (E₁ : Value → Shared → Prop) kp i v I o m1 l1, items[i]? = some v → J kp i m1 l1 → Wb c₁ E₁ ((x, v) :: m1) ((I, .raw o) :: l1) body (TnJ c E rest P I o (J kp (i + 1)))) (done : ∀ kp m1 l1, J kp items.length m1 l1 → Wb c E m1 l1 rest P) (hx : (isLoc F x && !isSet iter) = true) : Wb c E m l (.For (.Name x px) iter body [] pos :: rest) P := Wb.cons fun Q h tk S k => by
  simp only [Bool.and_eq_true, Bool.not_eq_true'] at hx
  obtain ⟨hx, hset⟩ := hx
  have hs : ∀ v, foldedSetIterable iter c.env v = pure v := fun v => set_plain hset
  refine G_For (hit _ h tk S fun h' tk' I o kp l0 fp P₀ S₀ hRK St₀ it s₀ => ?_) hs
  refine G_forLoopQ (A := c.A) (q := b = true) c.hΓ c.clean
    (fun j s' => ∃ h₁ tk₁ m₁ l₁ o₁ i, s' = c.at h₁ tk₁ ∧ St c h₁ m₁ ((I, .raw o₁) :: l₁) ∧ S₀ i h₁ ∧ J kp i m₁ l₁ ∧ i ≤ items.length ∧ j = items.length + 1 - i) ?_ (items.length + 1) ⟨h', tk', m, l0, o, 0, rfl, St₀, s₀, h0 _ _ hRK, Nat.zero_le _, rfl⟩
  (intro j s' Γ₁ hΓ₁ hC₁ zr6; refine El.eeeeeex (zr6) fun h₁ tk₁ m₁ l₁ o₁ i zq40 => ?_; try clear zr6; refine El.axaxaxaxaxx (zq40) fun zz1 St₁ s₁ hH hi zz2 => ?_; try clear zq40; (first | subst zz1 | cases zz1); (first | subst zz2 | cases zz2))
  by_cases hlt : i < items.length
  · refine G_any hΓ₁ (it.W.item i _ _ _ hlt s₁ fun v h₂ tk₂ hP s₂ hk₂ => ?_)
    (refine El.eaxx (it.real i v hlt hP) fun a ha hr => ?_)
    (refine El.ex (it.at_ _ _ s₂) fun o₂ ho₂ => ?_)
    have St₂ := St₁.turnRaw (fun y z hy e => hk₂ y z (by simpa using hy) e) ho₂
    show G _ _ (letOwnedTupleGo _ _ _) _ _ _
    refine G_pure (G_any hΓ₁ (wpAny_assign_Name (St₂.store hr hx fun h₃ tk₃ St₃ => ?_)))
    have s₃ : S₀ (i + 1) h₃ := it.W.frame _ _ _ s₂ fun y hy z e => by
      rcases it.fp y hy with rfl | ⟨z', hz⟩ | ⟨z', hz⟩
      · have := St₃.raw_at.1
        rw [ho₂] at e; cases e; exact this
      · have e1 := St₂.keep _ _ hz
        rw [e1] at e; cases e
        exact St₃.keep _ _ hz
      · have hq := hkp _ _ _ _ hH _ hz
        have e1 := St₂.rawM' (.tail _ hq)
        rw [e1] at e; cases e
        exact St₃.rawM' (.tail _ hq)
    refine turn ⟨Γ₁, c.dp, c.un, c.gd, c.cl, c.outer, c.A₀, c.base, c.h₀, c.L, c.s, c.p, c.loose, c.mean, c.mg, c.mb, hΓ₁, hC₁, c.B, c.X, c.T, c.kind, c.hdp, c.hun⟩ _ kp i a I o₂ m₁ l₁ ha hH _ h₃ tk₃ St₃ fun f f' m₄ l₄ h₄ tk₄ hT St₄ hf => ?_
    have back : (∃ l0, l₄ = (I, .raw o₂) :: l0 ∧ J kp (i + 1) m₄ l0) → ∃ m, m < items.length + 1 - i ∧ ∃ h₁ tk₁ m₁ l₁ o₁ i, c.at h₄ tk₄ = c.at h₁ tk₁ ∧ St c h₁ m₁ ((I, .raw o₁) :: l₁) ∧ S₀ i h₁ ∧ J kp i m₁ l₁ ∧ i ≤ items.length ∧ m = items.length + 1 - i := by
      (intro zr1; refine El.eaxx (zr1) fun l0 zz1 hH' => ?_; try clear zr1; (first | subst zz1 | cases zz1))
      have St₅ : St c h₄ m₄ ((I, .raw o₂) :: l0) := St₄
      refine ⟨items.length + 1 - (i + 1), by omega, h₄, tk₄, m₄, _, o₂, i + 1, rfl, St₅, it.W.frame _ _ _ s₃ fun y hy z e => ?_, hH', hlt, rfl⟩
      rcases it.fp y hy with rfl | ⟨z', hz⟩ | ⟨z', hz⟩
      · rw [St₃.raw_at.1] at e; cases e; exact St₅.raw_at.1
      · rw [St₃.keep _ _ hz] at e; cases e; exact St₅.keep _ _ hz
      · rw [St₃.rawM' (.tail _ (hkp _ _ _ _ hH _ hz))] at e; cases e; exact St₅.rawM' (.tail _ (hkp _ _ _ _ hH' _ hz))
    cases f with
    | next => cases hf; exact back hT
    | cont => cases hf; exact back hT
    | brk => cases hf; exact k .next .next m₄ l₄ h₄ tk₄ hT St₄ rfl
    | ret v => (refine El.eaxx (hf) fun u zz1 r => ?_; try clear hf; (first | subst zz1 | cases zz1)); exact k (.ret v) (.ret u) m₄ l₄ h₄ tk₄ hT St₄ ⟨u, rfl, r⟩
  · obtain rfl : i = items.length := by omega
    refine G_any hΓ₁ (it.W.done _ _ _ s₁ fun h₂ tk₂ hk₂ => ?_)
    have St₂ : St c h₂ m₁ l₁ := by
      obtain ⟨mm, news, Fr, M, N, RL, nd⟩ := St₁
      cases RL with
      | raw RL =>
        rename_i ns
        have hI0 := N (I, o₁) (.head _)
        rw [List.map_cons, List.nodup_cons] at nd
        refine ⟨mm, _, ⟨Fr.ns.at' fun z e => hk₂ _ z (by simpa using Ne.symm hI0.2.1) e, fun y z e => hk₂ y z (fun q => ?_) (Fr.keep y z e), Fr.above⟩, M, fun p hp => ⟨hk₂ _ _ (fun q => ?_) (N p (.tail _ hp)).1, (N p (.tail _ hp)).2⟩, RL, nd.2⟩
        · rw [List.mem_singleton.mp q, hI0.2.2] at e; cases e
        · exact nd.1 (List.mem_map.mpr ⟨p, hp, List.mem_singleton.mp q⟩)
    exact k .next .next m₁ _ h₂ tk₂ (done _ _ _ hH) St₂ rfl
theorem Wb.forJ {x : Str} {px pos : Pos} {iter : PySem.Expr} {body rest : List Stmt} {items : List AV} {P : Fl → AM → AL → Prop} (J : Nat → AM → AL → Prop) (hit : Iter c E m l iter items) (h0 : J 0 m l)
    (turn : ∀ (c₁ : Cx w K F n b) (E₁ : Value → Shared → Prop) i v I o m1 l1, items[i]? = some v → J i m1 l1 → Wb c₁ E₁ ((x, v) :: m1) ((I, .raw o) :: l1) body (TnJ c E rest P I o (J (i + 1)))) (done : ∀ m1 l1, J items.length m1 l1 → Wb c E m1 l1 rest P) (hx : (isLoc F x && !isSet iter) = true) : Wb c E m l (.For (.Name x px) iter body [] pos :: rest) P :=
  Wb.forK (RK := fun kp l' => kp = [] ∧ l' = l) (fun kp i m1 l1 => kp = [] ∧ J i m1 l1) (fun Q h tk S k => hit Q h tk S fun h' tk' I o fp P S' St' it s0 => k h' tk' I o [] l fp P S' ⟨rfl, rfl⟩ St' it s0) (fun _ _ ⟨a, b⟩ => ⟨a, b ▸ h0⟩) (fun _ _ _ _ ⟨a, _⟩ p hp => by rw [a] at hp; cases hp)
    (fun c₁ E₁ kp i v I o m1 l1 hv ⟨a, hJ⟩ => (turn c₁ E₁ i v I o m1 l1 hv hJ).mono fun f m' l' hT => by
      cases f with
      | next => (refine El.eaxx (hT) fun l0 e hJ' => ?_; try clear hT); exact ⟨l0, e, a, hJ'⟩
      | cont => (refine El.eaxx (hT) fun l0 e hJ' => ?_; try clear hT); exact ⟨l0, e, a, hJ'⟩
      | brk => exact hT
      | ret v => exact hT) (fun _ m1 l1 ⟨_, hJ⟩ => done m1 l1 hJ) hx
theorem Wb.for {x : Str} {px pos : Pos} {iter : PySem.Expr} {body rest : List Stmt} {items : List AV} {P : Fl → AM → AL → Prop} (H : Nat → Prop) (M : Nat → AM) (L : Nat → AL) (hit : Iter c E m l iter items) (h0 : l = L 0 ∧ Sub (M 0) m ∧ H 0)
    (turn : ∀ (c₁ : Cx w K F n b) (E₁ : Value → Shared → Prop) i v I o, items[i]? = some v → H i → Wb c₁ E₁ ((x, v) :: M i) ((I, .raw o) :: L i) body (Tn c E rest P I o (H (i + 1)) (M (i + 1)) (L (i + 1)))) (done : H items.length → Wb c E (M items.length) (L items.length) rest P) (hx : (isLoc F x && !isSet iter) = true) : Wb c E m l (.For (.Name x px) iter body [] pos :: rest) P :=
  Wb.forJ (fun i m1 l1 => l1 = L i ∧ Sub (M i) m1 ∧ H i) hit h0 (fun c₁ E₁ i v I o m1 l1 hv hJ => by
    (refine El.axaxx (hJ) fun zz1 hm hH => ?_; try clear hJ; (first | subst zz1 | cases zz1))
    refine ((turn c₁ E₁ i v I o hv hH).sub hm.up).mono fun f m' l' hT => ?_
    cases f with
    | next => (refine El.axaxx (hT) fun zz1 h1 h2 => ?_; try clear hT; (first | subst zz1 | cases zz1)); exact ⟨_, rfl, rfl, h1, h2⟩
    | cont => (refine El.axaxx (hT) fun zz1 h1 h2 => ?_; try clear hT; (first | subst zz1 | cases zz1)); exact ⟨_, rfl, rfl, h1, h2⟩
    | brk => exact hT
    | ret v => exact hT) (fun m1 l1 hJ => by (refine El.axaxx (hJ) fun zz1 hm hH => ?_; try clear hJ; (first | subst zz1 | cases zz1)); exact (done hH).sub hm) hx
noncomputable def TnW (c : Cx w K F n b) (E : Value → Shared → Prop) (rest : List Stmt) (P : Fl → AM → AL → Prop) (k : Nat) (J : Nat → AM → AL → Prop) (f : Fl) (m' : AM) (l' : AL) : Prop :=
  match f with
  | .next | .cont => ∃ k', k' < k ∧ J k' m' l'
  | .brk => Wb c E m' l' rest P
  | .ret v => P (.ret v) m' l'
theorem Wb.while {test : PySem.Expr} {body rest : List Stmt} {pos : Pos} {P : Fl → AM → AL → Prop} (J : Nat → AM → AL → Prop) (T : Nat → AM → AL → Prop) (k : Nat) (h0 : J k m l)
    (turn : ∀ (c₁ : Cx w K F n false) (E₁ : Value → Shared → Prop) k m1 l1, J k m1 l1 → Te c₁ E₁ m1 l1 test (T k m1 l1)) (step : ∀ (c₁ : Cx w K F n false) (E₁ : Value → Shared → Prop) k m1 l1, J k m1 l1 → T k m1 l1 → Wb c₁ E₁ m1 l1 body (TnW c E rest P k J)) (done : ∀ k m1 l1, J k m1 l1 → ¬ T k m1 l1 → Wb c E m1 l1 rest P) : Wb c E m l (.While test body [] pos :: rest) P := Wb.cons fun Q h tk S kk => by
  refine G_any c.hΓ (wpAny_While (codeAny_whileLoop (fun j s' => ∃ h₁ tk₁ m₁ l₁, s' = c.at h₁ tk₁ ∧ St c h₁ m₁ l₁ ∧ J j m₁ l₁) ?_ k ⟨h, tk, m, l, rfl, S, h0⟩))
  (intro j s' zr3 Γ₁ p₁ hΓ₁; refine El.eeeex (zr3) fun h₁ tk₁ m₁ l₁ zq41 => ?_; try clear zr3; refine El.axaxx (zq41) fun zz1 St₁ hJ => ?_; try clear zq41; (first | subst zz1 | cases zz1))
  let c₁ : Cx w K F n false := ⟨Γ₁, c.dp, c.un, c.gd, c.cl, c.outer, c.A₀, c.base, c.h₀, c.L, c.s, c.p, c.loose, c.mean, c.mg, c.mb, hΓ₁, (fun z => nomatch z), c.B, c.X, c.T, c.kind, c.hdp, c.hun⟩
  refine turn c₁ _ j m₁ l₁ hJ _ h₁ tk₁ St₁ (fun h' tk' S' => ⟨fun z => ?_, fun z => ?_⟩) p₁
  · rw [if_pos rfl]
    intro Γ₂ p₂ hΓ₂
    let c₂ : Cx w K F n false := ⟨Γ₂, c.dp, c.un, c.gd, c.cl, c.outer, c.A₀, c.base, c.h₀, c.L, c.s, c.p, c.loose, c.mean, c.mg, c.mb, hΓ₂, (fun z => nomatch z), c.B, c.X, c.T, c.kind, c.hdp, c.hun⟩
    refine step c₂ _ j m₁ l₁ hJ z _ h' tk' S' (fun f f' m₂ l₂ h₂ tk₂ hP S₂ hf => ?_) p₂
    cases f with
    | next => cases hf; (refine El.eaxx (hP) fun k' hk hJ' => ?_; try clear hP); exact ⟨k', hk, h₂, tk₂, m₂, l₂, rfl, S₂, hJ'⟩
    | cont => cases hf; (refine El.eaxx (hP) fun k' hk hJ' => ?_; try clear hP); exact ⟨k', hk, h₂, tk₂, m₂, l₂, rfl, S₂, hJ'⟩
    | brk => cases hf; exact kk .next .next m₂ l₂ h₂ tk₂ hP S₂ rfl
    | ret v => (refine El.eaxx (hf) fun u zz1 r => ?_; try clear hf; (first | subst zz1 | cases zz1)); exact kk (.ret v) (.ret u) m₂ l₂ h₂ tk₂ hP S₂ ⟨u, rfl, r⟩
  · rw [if_neg (by decide)]
    exact wpAny_execs_nil (kk .next .next m₁ l₁ h' tk' (done j m₁ l₁ hJ z) S' rfl)
theorem Iter.bytes {e : PySem.Expr} {ks : List Int} (H : Ev c E m l e (.bytes ks)) : Iter c E m l e (ks.map .int) := fun Q h tk S k =>
  H _ h tk S fun h' tk' u S' r => by
    (refine El.eeaxx (r) fun b t zz1 hb => ?_; try clear r; (first | subst zz1 | cases zz1))
    have hz : (ks.map AV.int).length = b.size := by rw [← hb]; simp [KBw.bInts]
    refine G_any c.hΓ (KBw.pyIter_bytes (k _ _ h'.objs.size _ [h'.objs.size] _ _ (S'.pushRaw _) ⟨hz ▸ KBw.walks rfl h'.objs.size b t, fun i v hi hp => ?_, fun a ha => .inl (List.mem_singleton.mp ha), fun i h ⟨o, ho, _⟩ => ⟨o, ho⟩⟩ ⟨_, Heap.get?_push_size _ rfl, rfl, rfl⟩))
    (refine El.eeaxx (hp) fun x u hx zz1 => ?_; try clear hp; (first | subst zz1 | cases zz1))
    refine ⟨.int (x.toNat : Int), ?_, u, rfl⟩
    have hz2 := (Array.getElem?_eq_some_iff.mp hx)
    rw [← hb, List.getElem?_map]
    simp [KBw.bInts, hx]
end
end Mine

end
section
open PySem PySem.W PySem.Spec PySem.Calls PyProof.Rows
namespace Mine
set_option maxRecDepth 100000
set_option linter.unusedVariables false
theorem RealL.tupM {w : World} {l : AL} {ns : List (Addr × Obj)} (R : RealL w l ns) : ∀ {D : Addr} {vs : List AV}, (D, AO.tup vs) ∈ l → ∃ us : List Value, (D, tupObj us.toArray) ∈ ns ∧ Reals vs us := by
  induction R with
  | nil => intro D vs h; cases h
  | tup r _ ih =>
    intro D vs h
    rcases List.mem_cons.mp h with e | h
    · cases e; exact ⟨_, .head _, r⟩
    · (refine El.eaxx (ih h) fun us a b => ?_); exact ⟨us, .tail _ a, b⟩
  | inst n r _ ih =>
    intro D vs h
    rcases List.mem_cons.mp h with e | h
    · cases e
    · (refine El.eaxx (ih h) fun us a b => ?_); exact ⟨us, .tail _ (.tail _ a), b⟩
  | list n r _ ih =>
    intro D vs h
    rcases List.mem_cons.mp h with e | h
    · cases e
    · (refine El.eaxx (ih h) fun us a b => ?_); exact ⟨us, .tail _ a, b⟩
  | cell r _ _ ih =>
    intro D vs h
    rcases List.mem_cons.mp h with e | h
    · cases e
    · (refine El.eaxx (ih h) fun us a b => ?_); exact ⟨us, .tail _ a, b⟩
  | raw _ ih =>
    intro D vs h
    rcases List.mem_cons.mp h with e | h
    · cases e
    · (refine El.eaxx (ih h) fun us a b => ?_); exact ⟨us, .tail _ a, b⟩
theorem RealL.listM {w : World} {l : AL} {ns : List (Addr × Obj)} (R : RealL w l ns) : ∀ {D : Addr} {vs : List AV}, (D, AO.list vs) ∈ l → ∃ (us : List Value) (n : Nat), (D, W.listOf us.toArray n) ∈ ns ∧ Reals vs us := by
  induction R with
  | nil => intro D vs h; cases h
  | list n r _ ih =>
    intro D vs h
    rcases List.mem_cons.mp h with e | h
    · cases e; exact ⟨_, n, .head _, r⟩
    · (refine El.eeaxx (ih h) fun us k a b => ?_); exact ⟨us, k, .tail _ a, b⟩
  | inst n r _ ih =>
    intro D vs h
    rcases List.mem_cons.mp h with e | h
    · cases e
    · (refine El.eeaxx (ih h) fun us k a b => ?_); exact ⟨us, k, .tail _ (.tail _ a), b⟩
  | tup r _ ih =>
    intro D vs h
    rcases List.mem_cons.mp h with e | h
    · cases e
    · (refine El.eeaxx (ih h) fun us k a b => ?_); exact ⟨us, k, .tail _ a, b⟩
  | cell r _ _ ih =>
    intro D vs h
    rcases List.mem_cons.mp h with e | h
    · cases e
    · (refine El.eeaxx (ih h) fun us k a b => ?_); exact ⟨us, k, .tail _ a, b⟩
  | raw _ ih =>
    intro D vs h
    rcases List.mem_cons.mp h with e | h
    · cases e
    · (refine El.eeaxx (ih h) fun us k a b => ?_); exact ⟨us, k, .tail _ a, b⟩
inductive Upd (a : Addr) (o o' : AO) : AL → AL → Prop
  | head {l : AL} : Upd a o o' ((a, o) :: l) ((a, o') :: l)
  | tail {p : Addr × AO} {l l' : AL} : Upd a o o' l l' → Upd a o o' (p :: l) (p :: l')
theorem RealL.one {w : World} {p : Addr × AO} {l : AL} {n0 n2 : List (Addr × Obj)} (R0 : RealL w [p] n0) (R : RealL w l n2) : RealL w (p :: l) (n0 ++ n2) := by
  cases R0 with
  | list n r z => cases z; exact .list n r R
  | tup r z => cases z; exact .tup r R
  | inst n r z => cases z; exact .inst n r R
  | cell r q z => cases z; exact .cell r q R
  | raw z => cases z; exact .raw R
theorem RealL.un {w : World} {p : Addr × AO} {l : AL} {ns : List (Addr × Obj)} (R : RealL w (p :: l) ns) : ∃ n0 n2, ns = n0 ++ n2 ∧ RealL w [p] n0 ∧ RealL w l n2 := by
  cases R with
  | list n r z => exact ⟨[_], _, rfl, .list n r .nil, z⟩
  | tup r z => exact ⟨[_], _, rfl, .tup r .nil, z⟩
  | inst n r z => exact ⟨[_, _], _, rfl, .inst n r .nil, z⟩
  | cell r q z => exact ⟨[_], _, rfl, .cell r q .nil, z⟩
  | raw z => exact ⟨[_], _, rfl, .raw .nil, z⟩
theorem RealL.split {w : World} {a : Addr} {o o' : AO} {l l' : AL} (U : Upd a o o' l l') : ∀ {ns : List (Addr × Obj)}, RealL w l ns → ∃ n1 n0 n2, ns = n1 ++ (n0 ++ n2) ∧ RealL w [(a, o)] n0 ∧ ∀ n0', RealL w [(a, o')] n0' → RealL w l' (n1 ++ (n0' ++ n2)) := by
  induction U with
  | @head l =>
    intro ns R
    (refine El.eeaxaxx (R.un) fun n0 n2 zz1 h0 h2 => ?_; (first | subst zz1 | cases zz1))
    exact ⟨[], n0, n2, rfl, h0, fun n0' h => h.one h2⟩
  | tail U ih =>
    intro ns R
    (refine El.eeaxaxx (R.un) fun m0 m2 zz1 g0 g2 => ?_; (first | subst zz1 | cases zz1))
    (refine El.eeeaxaxx (ih g2) fun n1 n0 n2 zz1 h0 h1 => ?_; (first | subst zz1 | cases zz1))
    exact ⟨m0 ++ n1, n0, n2, (List.append_assoc ..).symm, h0, fun n0' h => by rw [List.append_assoc]; exact g0.one (h1 n0' h)⟩
section
variable {w : World} {K : Frag} {F : Fn} {n : Nat} {b : Bool} {c : Cx w K F n b} {E : Value → Shared → Prop} {m : AM} {l : AL}
theorem St.tup {h : Heap} {D : Addr} {vs : List AV} (S : St c h m l) (hm : (D, AO.tup vs) ∈ l) : ∃ us : List Value, IsTup h D us.toArray ∧ Reals vs us := by
  obtain ⟨mm, news, Fr, M, N, RL, nd⟩ := S
  (refine El.eaxx (RL.tupM hm) fun us a r => ?_)
  exact ⟨us, News.isTup N a, r⟩
theorem St.list {h : Heap} {D : Addr} {vs : List AV} (S : St c h m l) (hm : (D, AO.list vs) ∈ l) : ∃ (us : List Value) (n : Nat), h.get? D = some (W.listOf us.toArray n) ∧ Reals vs us := by
  obtain ⟨mm, news, Fr, M, N, RL, nd⟩ := S
  (refine El.eeaxx (RL.listM hm) fun us k a r => ?_)
  exact ⟨us, k, (N _ a).1, r⟩
theorem St.turn {h h' : Heap} {a : Addr} {o o' : AO} {l' : AL} (S : St c h m l) (U : Upd a o o' l l') (k : ∀ n0, RealL w [(a, o)] n0 → (∀ p ∈ n0, h.get? p.1 = some p.2) → ∃ d n0', RealL w [(a, o')] n0' ∧ n0'.map (·.1) = n0.map (·.1) ∧ d ∈ n0.map (·.1) ∧ Heap.SameBut d h h' ∧ ∀ p ∈ n0', h'.get? p.1 = some p.2) : St c h' m l' := by
  obtain ⟨mm, news, F₁, M, N, RL, nd⟩ := S
  (refine El.eeeaxaxx (RL.split U) fun n1 n0 n2 zz1 h0 h1 => ?_; (first | subst zz1 | cases zz1))
  (refine El.eex (k n0 h0 fun p hp => (N p (List.mem_append_right _ (List.mem_append_left _ hp))).1) fun d n0' zq124 => ?_; refine El.axaxaxaxx (zq124) fun hR hA hd hs hg => ?_; try clear zq124)
  (refine El.eaxx (List.mem_map.mp hd) fun pd hpd zz1 => ?_; (first | subst zz1 | cases zz1))
  have hND := N pd (List.mem_append_right _ (List.mem_append_left _ hpd))
  have nd' : ((n1 ++ (n0' ++ n2)).map (·.1)).Nodup := by simpa only [List.map_append, hA] using nd
  have out : ∀ p : Addr × Obj, p ∈ n1 ∨ p ∈ n2 → p.1 ≠ pd.1 := fun p hp q => by
    simp only [List.map_append] at nd
    rcases hp with hp | hp
    · exact (List.nodup_append.mp nd).2.2 _ (List.mem_map_of_mem hp) _ (List.mem_append_left _ (List.mem_map_of_mem hpd)) q
    · exact (List.nodup_append.mp (List.nodup_append.mp nd).2.1).2.2 _ (List.mem_map_of_mem hpd) _ (List.mem_map_of_mem hp) q.symm
  refine ⟨mm, _, ⟨F₁.ns.sameBut hs (Ne.symm hND.2.1), fun x ob e => (hs.2 x fun q => ?_).trans (F₁.keep x ob e), F₁.above⟩, M, fun p hp => ?_, h1 n0' hR, nd'⟩
  · rw [q, hND.2.2] at e; cases e
  · rcases List.mem_append.mp hp with hp | hp
    · have := N p (List.mem_append_left _ hp)
      exact ⟨(hs.2 _ (out p (.inl hp))).trans this.1, this.2⟩
    · rcases List.mem_append.mp hp with hp | hp
      · have hx : p.1 ∈ n0.map (·.1) := hA ▸ List.mem_map_of_mem hp
        (refine El.eaxx (List.mem_map.mp hx) fun p0 hp0 e => ?_)
        have := N p0 (List.mem_append_right _ (List.mem_append_left _ hp0))
        exact ⟨hg p hp, e ▸ this.2⟩
      · have := N p (List.mem_append_right _ (List.mem_append_right _ hp))
        exact ⟨(hs.2 _ (out p (.inr hp))).trans this.1, this.2⟩
theorem St.setList {h h' : Heap} {D : Addr} {vs vs' : List AV} {us' : List Value} {k : Nat} {l' : AL} (S : St c h m l) (U : Upd D (.list vs) (.list vs') l l') (hs : Heap.SameBut D h h') (hr : Reals vs' us') (hD : h'.get? D = some (W.listOf us'.toArray k)) : St c h' m l' :=
  S.turn U fun n0 R0 _ => by
    cases R0 with
    | list n r z => cases z; exact ⟨D, [(D, W.listOf us'.toArray k)], .list k hr .nil, rfl, .head _, hs, fun p hp => by rw [List.mem_singleton.mp hp]; exact hD⟩
theorem St.pushTup {h : Heap} {vs : List AV} {us : List Value} (S : St c h m l) (r : Reals vs us) : St c (h.push (tupObj us.toArray)) m ((h.objs.size, .tup vs) :: l) := by
  obtain ⟨mm, news, Fr, M, N, RL, nd⟩ := S.pushRaw (tupObj us.toArray) (by rfl)
  cases RL with
  | raw RL => exact ⟨mm, _, Fr, M, N, .tup r RL, nd⟩
theorem St.pushList {h : Heap} {vs : List AV} {us : List Value} (k : Nat) (S : St c h m l) (r : Reals vs us) : St c (h.push (W.listOf us.toArray k)) m ((h.objs.size, .list vs) :: l) := by
  obtain ⟨mm, news, Fr, M, N, RL, nd⟩ := S.pushRaw (W.listOf us.toArray k) (by rfl)
  cases RL with
  | raw RL => exact ⟨mm, _, Fr, M, N, .list k r RL, nd⟩
end
end Mine

end
section
open PySem PySem.W PySem.Spec PySem.Calls PyProof.Rows
namespace Mine
set_option maxRecDepth 100000
set_option linter.unusedVariables false
section
variable {w : World} {K : Frag} {F : Fn} {n : Nat} {b : Bool} {c : Cx w K F n b} {E : Value → Shared → Prop} {m : AM} {l : AL}
noncomputable def Keeps (K : Frag) (f : Value) : Prop := ∀ {M : Model} (h : Heap), K.In h → ∃ k, (k = Keeper.frame ∨ k = Keeper.machine ∨ k = Keeper.boundFrame) ∧ Looks M h (keeperOf f) k
theorem keeps_builtin {id : String} : Keeps K (.builtin id) := fun _ _ => ⟨.machine, .inr (.inl rfl), Looks.of_pure rfl⟩
theorem keeps_type {id : String} : Keeps K (.type id) := fun _ _ => ⟨.machine, .inr (.inl rfl), Looks.of_pure rfl⟩
theorem keeps_of {f : Value} (h : keepIn K f = true) : Keeps K f := fun hh X => keeps_K h hh X
noncomputable def Bw (c : Cx w K F n b) (E : Value → Shared → Prop) (m : AM) (f : Value) (vs : List AV) (l : AL) (R : AV → AL → Prop) : Prop := ∀ (Q : Value → Shared → Prop) (h : Heap) (tk : Nat) (us : List Value), St c h m l → Reals vs us →
  (∀ h' tk' u v l', R v l' → St c h' m l' → Real v u → Q u (c.at h' tk')) → G (model prog w) c.Γ (call f us) Q E (c.at h tk)
theorem Cw.toB {f : Addr} {d : Nat} {b2 : Bool} {vs : List AV} {R : AV → AL → Prop} (C : Cw w K f d b2 vs l R) (hd : d ≤ n) (hb : b2 = true → b = true) : Bw c E m (.ref f) vs l R := fun Q h tk us S r k => C _ _ _ c E m Q h tk us hd hb S r k
theorem Ex.callB {x : Str} {np pos : Pos} {f : Value} {e0 : PySem.Expr} {es : List PySem.Expr} {RA : List AV → AL → Prop} {R : AV → AL → Prop} (hf : Ev c E m l (.Name x np) (.raw f)) (hk : Keeps K f)
    (ha : Exs c E m l (e0 :: es) RA) (C : ∀ vs l', RA vs l' → Bw c E m f vs l' R) (hs : noStar (e0 :: es) = true) : Ex c E m l (.Call (.Name x np) (e0 :: es) [] pos) R := fun Q h tk S k => by
  simp only [noStar, List.all_cons, Bool.and_eq_true, Bool.not_eq_true'] at hs
  refine G_Call (hf _ h tk S fun h' tk' u S' r => ?_)
  cases r
  exact G_callWith (P := K.In) (fun h X => hk h X) (ha _ h' tk' pos S' fun h'' tk'' us vs l' hR S'' rs => ⟨S''.in, C vs l' hR Q h'' tk'' us S'' rs k⟩) (star_cons hs.1) (star_plain hs.2)
theorem Ex.callE {x : Str} {np pos : Pos} {f : Value} {e0 : PySem.Expr} {es : List PySem.Expr} {vs : List AV} {R : AV → AL → Prop} (hf : Ev c E m l (.Name x np) (.raw f)) (hk : Keeps K f)
    (ha : Evs c E m l (e0 :: es) vs) (C : Bw c E m f vs l R) (hs : noStar (e0 :: es) = true) : Ex c E m l (.Call (.Name x np) (e0 :: es) [] pos) R :=
  Ex.callB hf hk ha.x (fun _ _ h => by (refine El.axx (h) fun zz1 zz2 => ?_; try clear h; (first | subst zz1 | cases zz1); (first | subst zz2 | cases zz2)); exact C) hs
theorem Ev.callE {x : Str} {np pos : Pos} {f : Value} {e0 : PySem.Expr} {es : List PySem.Expr} {vs : List AV} {v : AV} (hf : Ev c E m l (.Name x np) (.raw f)) (hk : Keeps K f)
    (ha : Evs c E m l (e0 :: es) vs) (C : Bw c E m f vs l (Is v l)) (hs : noStar (e0 :: es) = true) : Ev c E m l (.Call (.Name x np) (e0 :: es) [] pos) v := (Ex.callE hf hk ha C hs).v
theorem Bw.len_bytes {ks : List Int} (hz : ks.length ≤ 100000) : Bw c E m (.builtin "len") [.bytes ks] l (Is (.int (ks.length : Nat)) l) := fun Q h tk us S r k => by
  obtain _ | ⟨⟨b, t, rfl, hb⟩, _ | _⟩ := r
  exact G_any c.hΓ (KBw.len_K hb (by omega) (k h _ _ _ _ ⟨rfl, rfl⟩ S ⟨_, rfl⟩))
theorem Bw.len_list {D : Addr} {vs : List AV} (hm : (D, AO.list vs) ∈ l) (hz : vs.length ≤ 100000) : Bw c E m (.builtin "len") [.ref D] l (Is (.int (vs.length : Nat)) l) := fun Q h tk us S r k => by
  obtain _ | ⟨rfl, _ | _⟩ := r
  (refine El.eeaxx (S.list hm) fun us n hD rs => ?_)
  have hl : h.IsList D us.toArray := ⟨_, hD, rfl, _, rfl⟩
  refine G_any c.hΓ (Calls.call_len_list hl (by have := rs.length; simp only [List.size_toArray]; omega) ?_)
  have e : us.toArray.size = vs.length := by rw [List.size_toArray]; exact rs.length
  rw [e]
  exact k h _ _ _ _ ⟨rfl, rfl⟩ S ⟨_, rfl⟩
theorem Bw.len_tup {D : Addr} {vs : List AV} (hm : (D, AO.tup vs) ∈ l) (hz : vs.length ≤ 10000) : Bw c E m (.builtin "len") [.ref D] l (Is (.int (vs.length : Nat)) l) := fun Q h tk us S r k => by
  obtain _ | ⟨rfl, _ | _⟩ := r
  (refine El.eaxx (S.tup hm) fun us hD rs => ?_)
  have e : us.toArray.size = vs.length := by rw [List.size_toArray]; exact rs.length
  exact G_any c.hΓ (kun_lenT hD (by rw [e]) (by omega) (k h _ _ _ _ ⟨rfl, rfl⟩ S ⟨_, rfl⟩))
theorem ints_of : ∀ {ks : List Int} {us : List Value}, Reals (ks.map AV.int) us → IntsAre us ks
  | [], _, .nil => .nil
  | k :: ks, _, .cons ⟨t, e⟩ r => by cases e; exact .cons _ _ (ints_of r)
theorem Bw.bytes_list {D : Addr} {ks : List Int} (hm : (D, AO.list (ks.map .int)) ∈ l) (hi : KBa.In ks) (hz : ks.length ≤ 100000) : Bw c E m (.type "bytes") [.ref D] l (Is (.bytes ks) l) := fun Q h tk us S r k => by
  obtain _ | ⟨rfl, _ | _⟩ := r
  (refine El.eeaxx (S.list hm) fun us n hD rs => ?_)
  have hl : h.IsList D us.toArray := ⟨_, hD, rfl, _, rfl⟩
  obtain ⟨mm, news, Fr, M, N, RL, nd⟩ := S
  exact G_any c.hΓ (KBa.make_K Fr N rfl hl (ints_of rs) hi (by omega) fun h' t' k' F' N' hI => k h' k' _ _ _ ⟨rfl, rfl⟩ ⟨mm, news, F', M, N', RL, nd⟩ ⟨_, _, rfl, KBa.ints_make hI⟩)
theorem Bw.bytes_int {x : Int} (h0 : 0 ≤ x) (h1 : x ≤ 100000) : Bw c E m (.type "bytes") [.int x] l (Is (.bytes (List.replicate x.toNat 0)) l) := fun Q h tk us S r k => by
  obtain _ | ⟨⟨t, rfl⟩, _ | _⟩ := r
  exact G_any c.hΓ (bytes_of_int h0 (by omega) fun t k' => k h k' _ _ _ ⟨rfl, rfl⟩ S ⟨_, _, rfl, by simp [KBw.bInts, bInts_zero]⟩)
noncomputable abbrev New (o : AO) (l : AL) : AV → AL → Prop := fun v l' => ∃ D, v = .ref D ∧ l' = (D, o) :: l
theorem Ex.list {es : List PySem.Expr} {pos : Pos} {vs : List AV} (H : Evs c E m l es vs) (hz : vs.length ≤ 10000) : Ex c E m l (.List es pos) (New (.list vs) l) := fun Q h tk S k => by
  show G _ _ (do standAt pos; newList (← spliced (backTo pos (starEach es c.env)))) Q E _
  refine G_bind (G_standAt (G_bind (H _ h tk pos S fun h' tk' us S' rs => G_any c.hΓ (wpAny_newObj_type ?_ ?_))))
  · exact k _ tk' _ _ _ ⟨h'.objs.size, rfl, rfl⟩ (S'.pushList 0 rs) rfl
  · show us.toArray.size ≤ sizeLine
    rw [List.size_toArray, rs.length, sizeLine_eq]; omega
theorem Ex.tup {es : List PySem.Expr} {k0 : Nat} {pos : Pos} {vs : List AV} (H : Evs c E m l es vs) (hz : vs.length ≤ 10000) : Ex c E m l (.Tuple es k0 pos) (New (.tup vs) l) := fun Q h tk S k => by
  show G _ _ (do standAt pos; newTuple (← spliced (backTo pos (starEach es c.env)))) Q E _
  refine G_bind (G_standAt (G_bind (H _ h tk pos S fun h' tk' us S' rs => G_any c.hΓ (wpAny_newObj_type ?_ ?_))))
  · exact k _ tk' _ _ _ ⟨h'.objs.size, rfl, rfl⟩ (S'.pushTup rs) rfl
  · show us.toArray.size ≤ sizeLine
    rw [List.size_toArray, rs.length, sizeLine_eq]; omega
theorem Ex.tupX {es : List PySem.Expr} {k0 : Nat} {pos : Pos} {RL : List AV → AL → Prop} (H : Exs c E m l es RL) (hz : ∀ vs l', RL vs l' → vs.length ≤ 10000) : Ex c E m l (.Tuple es k0 pos) (fun v l' => ∃ D vs l0, v = .ref D ∧ l' = (D, .tup vs) :: l0 ∧ RL vs l0) := fun Q h tk S k => by
  show G _ _ (do standAt pos; newTuple (← spliced (backTo pos (starEach es c.env)))) Q E _
  refine G_bind (G_standAt (G_bind (H _ h tk pos S fun h' tk' us vs l' hR S' rs => G_any c.hΓ (wpAny_newObj_type ?_ ?_))))
  · exact k _ tk' _ _ _ ⟨h'.objs.size, vs, l', rfl, rfl, hR⟩ (S'.pushTup rs) rfl
  · show us.toArray.size ≤ sizeLine
    have := hz vs l' hR
    rw [List.size_toArray, rs.length, sizeLine_eq]; omega
theorem Ev.bytes_of (H : KOk K) {x : Str} {np pos lp : Pos} {es : List PySem.Expr} {ks : List Int} (hx : (x == Str.ofString "bytes" && isGlo F x && noStar [.List es lp]) = true) (ha : Evs c E m l es (ks.map .int)) (hi : KBa.In ks) (hz : ks.length ≤ 10000) :
    Ev c E m l (.Call (.Name x np) [.List es lp] [] pos) (.bytes ks) := by
  simp only [Bool.and_eq_true, beq_iff_eq] at hx
  (refine El.aaxxx (hx) fun zz1 hg hs => ?_; try clear hx; (first | subst zz1 | cases zz1))
  refine fun Q h tk S k => Ex.callB (R := fun v l' => v = .bytes ks ∧ ∃ p, l' = p :: l) (Ev.bt H (u := .type "bytes") (by kernel_rfl) (by kernel_rfl) hg) keeps_type (Exs.cons (R := fun vs l' => ∃ D, vs = [.ref D] ∧ l' = (D, .list (ks.map .int)) :: l) (Ex.list ha (by rw [List.length_map]; exact hz)) (fun v l' hv => ?_) rfl) (fun vs l' hv => ?_) hs Q h tk S
    fun h' tk' u v l' hR S' r => ?_
  · (refine El.eaxx (hv) fun D zz1 zz2 => ?_; try clear hv; (first | subst zz1 | cases zz1); (first | subst zz2 | cases zz2))
    exact fun Q h tk pos S k => G_args_nil (k h tk [] [] _ ⟨D, rfl, rfl⟩ S .nil)
  · (refine El.eaxx (hv) fun D zz1 zz2 => ?_; try clear hv; (first | subst zz1 | cases zz1); (first | subst zz2 | cases zz2))
    exact fun Q h tk us S r k => Bw.bytes_list (List.mem_cons_self ..) hi (by omega) Q h tk us S r fun h' tk' u v l' hv S' r' => k h' tk' u v l' (by (refine El.axx (hv) fun zz1 zz2 => ?_; try clear hv; (first | subst zz1 | cases zz1); (first | subst zz2 | cases zz2)); exact ⟨rfl, _, rfl⟩) S' r'
  · (refine El.axex (hR) fun zz1 p zz2 => ?_; try clear hR; (first | subst zz1 | cases zz1); (first | subst zz2 | cases zz2))
    exact k h' tk' u S'.drop r
theorem Ev.bytes1 (H : KOk K) {x : Str} {np pos lp : Pos} {e : PySem.Expr} {k : Int} (hx : (x == Str.ofString "bytes" && isGlo F x && noStar [.List [e] lp]) = true) (hs : isStar e = false) (ha : Ev c E m l e (.int k)) (h0 : 0 ≤ k) (h1 : k < 256) :
    Ev c E m l (.Call (.Name x np) [.List [e] lp] [] pos) (.bytes [k]) := Ev.bytes_of H hx (Evs.cons ha .nil hs) (fun y hy => by rw [List.mem_singleton.mp hy]; exact ⟨h0, h1⟩) (by simp)
theorem Ev.len_b (H : KOk K) {x : Str} {np pos : Pos} {e : PySem.Expr} {ks : List Int} (hx : (x == Str.ofString "len" && isGlo F x && noStar [e]) = true) (ha : Ev c E m l e (.bytes ks)) (hz : ks.length ≤ 100000) : Ev c E m l (.Call (.Name x np) [e] [] pos) (.int (ks.length : Nat)) := by
  simp only [Bool.and_eq_true, beq_iff_eq] at hx
  (refine El.aaxxx (hx) fun zz1 hg hs => ?_; try clear hx; (first | subst zz1 | cases zz1))
  have hs' : isStar e = false := by simpa [noStar] using hs
  exact Ev.callE (Ev.bt H (u := .builtin "len") (by kernel_rfl) (by kernel_rfl) hg) keeps_builtin (.cons ha .nil hs') (Bw.len_bytes hz) hs
theorem Ev.len_l (H : KOk K) {x : Str} {np pos : Pos} {e : PySem.Expr} {D : Addr} {vs : List AV} (hx : (x == Str.ofString "len" && isGlo F x && noStar [e]) = true) (ha : Ev c E m l e (.ref D)) (hm : (D, AO.list vs) ∈ l) (hz : vs.length ≤ 100000) : Ev c E m l (.Call (.Name x np) [e] [] pos) (.int (vs.length : Nat)) := by
  simp only [Bool.and_eq_true, beq_iff_eq] at hx
  (refine El.aaxxx (hx) fun zz1 hg hs => ?_; try clear hx; (first | subst zz1 | cases zz1))
  have hs' : isStar e = false := by simpa [noStar] using hs
  exact Ev.callE (Ev.bt H (u := .builtin "len") (by kernel_rfl) (by kernel_rfl) hg) keeps_builtin (.cons ha .nil hs') (Bw.len_list hm hz) hs
theorem Ev.len_t (H : KOk K) {x : Str} {np pos : Pos} {e : PySem.Expr} {D : Addr} {vs : List AV} (hx : (x == Str.ofString "len" && isGlo F x && noStar [e]) = true) (ha : Ev c E m l e (.ref D)) (hm : (D, AO.tup vs) ∈ l) (hz : vs.length ≤ 10000) : Ev c E m l (.Call (.Name x np) [e] [] pos) (.int (vs.length : Nat)) := by
  simp only [Bool.and_eq_true, beq_iff_eq] at hx
  (refine El.aaxxx (hx) fun zz1 hg hs => ?_; try clear hx; (first | subst zz1 | cases zz1))
  have hs' : isStar e = false := by simpa [noStar] using hs
  exact Ev.callE (Ev.bt H (u := .builtin "len") (by kernel_rfl) (by kernel_rfl) hg) keeps_builtin (.cons ha .nil hs') (Bw.len_tup hm hz) hs
theorem Ev.bytes_n (H : KOk K) {x : Str} {np pos : Pos} {e : PySem.Expr} {k : Int} (hx : (x == Str.ofString "bytes" && isGlo F x && noStar [e]) = true) (ha : Ev c E m l e (.int k)) (h0 : 0 ≤ k) (h1 : k ≤ 100000) : Ev c E m l (.Call (.Name x np) [e] [] pos) (.bytes (List.replicate k.toNat 0)) := by
  simp only [Bool.and_eq_true, beq_iff_eq] at hx
  (refine El.aaxxx (hx) fun zz1 hg hs => ?_; try clear hx; (first | subst zz1 | cases zz1))
  have hs' : isStar e = false := by simpa [noStar] using hs
  exact Ev.callE (Ev.bt H (u := .type "bytes") (by kernel_rfl) (by kernel_rfl) hg) keeps_type (.cons ha .nil hs') (Bw.bytes_int h0 h1) hs
theorem Ev.bytes_l (H : KOk K) {x : Str} {np pos : Pos} {e : PySem.Expr} {D : Addr} {ks : List Int} (hx : (x == Str.ofString "bytes" && isGlo F x && noStar [e]) = true) (ha : Ev c E m l e (.ref D)) (hm : (D, AO.list (ks.map .int)) ∈ l) (hi : KBa.In ks) (hz : ks.length ≤ 100000) : Ev c E m l (.Call (.Name x np) [e] [] pos) (.bytes ks) := by
  simp only [Bool.and_eq_true, beq_iff_eq] at hx
  (refine El.aaxxx (hx) fun zz1 hg hs => ?_; try clear hx; (first | subst zz1 | cases zz1))
  have hs' : isStar e = false := by simpa [noStar] using hs
  exact Ev.callE (Ev.bt H (u := .type "bytes") (by kernel_rfl) (by kernel_rfl) hg) keeps_type (.cons ha .nil hs') (Bw.bytes_list hm hi hz) hs
noncomputable def isSlice : PySem.Expr → Bool
  | .Slice .. => true
  | _ => false
theorem subs_plain {e : PySem.Expr} {o i : Value} (h : isSlice e = false) : subscripted e false o i = operate [o, i] (getItem o i) := by
  cases e <;> first | rfl | cases h
theorem go_bytes {e : PySem.Expr} {b : Array UInt8} {t : Tok} {r : Value} : letTemporaryGo e (.bytes b t) r = pure () := by
  cases e <;> rfl
theorem Ev.item_b {e1 e2 : PySem.Expr} {pos : Pos} {ks : List Int} {i : Int} (h1 : Ev c E m l e1 (.bytes ks)) (h2 : Ev c E m l e2 (.int i)) (h0 : 0 ≤ i) (hi : i < ks.length) (hz : ks.length ≤ 100000) (hs : isSlice e2 = false) : Ev c E m l (.Subscript e1 e2 pos) (.int (ks.getD i.toNat 0)) := fun Q h tk S k =>
  G_Subscript (h1 _ h tk S fun h' tk' u S' r => h2 _ h' tk' S' fun h'' tk'' u' S'' r' => by
    (refine El.eeaxx (r) fun b t zz1 hb => ?_; try clear r; (first | subst zz1 | cases zz1))
    (refine El.ex (r') fun t' zz1 => ?_; try clear r'; (first | subst zz1 | cases zz1))
    exact G_any c.hΓ (KBw.item_K hb (by omega) h0 hi (fun t'' k' _ _ => k h'' k' _ S'' ⟨_, rfl⟩) (subs_plain hs) fun _ => go_bytes))
theorem Ev.item_t {e1 e2 : PySem.Expr} {pos : Pos} {D : Addr} {vs : List AV} {i : Int} {j : Nat} {v : AV} (h1 : Ev c E m l e1 (.ref D)) (h2 : Ev c E m l e2 (.int i)) (hm : (D, AO.tup vs) ∈ l) (hj : seqIndex? i vs.length = some j) (hv : vs[j]? = some v) (hi : -100000 ≤ i ∧ i ≤ 100000) (hs : isSlice e2 = false) : Ev c E m l (.Subscript e1 e2 pos) v := fun Q h tk S k =>
  G_Subscript (h1 _ h tk S fun h' tk' u S' r => h2 _ h' tk' S' fun h'' tk'' u' S'' r' => by
    cases r
    (refine El.ex (r') fun t' zz1 => ?_; try clear r'; (first | subst zz1 | cases zz1))
    (refine El.eaxx (S''.tup hm) fun us hD rs => ?_)
    (refine El.eaxx (rs.get hv) fun u hu hr => ?_)
    exact G_any c.hΓ (item_tupleT (l := us) hD (by omega) (by omega) (by rw [rs.length]; exact hj) hu (k h'' tk'' u S'' hr) (subs_plain hs)))
theorem Ev.item_l {e1 e2 : PySem.Expr} {pos : Pos} {D : Addr} {vs : List AV} {i : Int} {v : AV} (h1 : Ev c E m l e1 (.ref D)) (h2 : Ev c E m l e2 (.int i)) (hm : (D, AO.list vs) ∈ l) (h0 : 0 ≤ i ∧ i ≤ 100000) (hv : vs[i.toNat]? = some v) (hs : isSlice e2 = false) : Ev c E m l (.Subscript e1 e2 pos) v := fun Q h tk S k =>
  G_Subscript (h1 _ h tk S fun h' tk' u S' r => h2 _ h' tk' S' fun h'' tk'' u' S'' r' => by
    cases r
    (refine El.ex (r') fun t' zz1 => ?_; try clear r'; (first | subst zz1 | cases zz1))
    (refine El.eeaxx (S''.list hm) fun us n hD rs => ?_)
    (refine El.eaxx (rs.get hv) fun u hu hr => ?_)
    have hl : h''.IsList D us.toArray := ⟨_, hD, rfl, _, rfl⟩
    exact G_any c.hΓ (PyProof.Rows.tail_any hl.typeIs slot_list_getitem.lookup (wpAny_getItem_list hl h0.1 (by omega) (by simpa using hu) (k h'' tk'' u S'' hr)) (subs_plain hs)))
end
end Mine

end
section
open PySem PySem.W PySem.Spec PySem.Calls PyProof.Rows
namespace Mine
set_option maxRecDepth 100000
set_option linter.unusedVariables false
section
variable {w : World} {K : Frag} {F : Fn} {n : Nat} {b : Bool} {c : Cx w K F n b} {E : Value → Shared → Prop} {m : AM} {l : AL}
theorem Cop.is_none : Cop .Is .none .none True := by
  rintro w A E Q s _ _ rfl rfl k
  exact wpAny_is_plain rfl ((k s.toks).1 trivial)
theorem Cop.is_int {x : Int} : Cop .Is (.int x) .none False := by
  (intro w A E Q s zr6 zr7 zr8 zr9 k; refine El.ex (zr8) fun t zz1 => ?_; try clear zr8; (first | subst zz1 | cases zz1); subst zr9)
  exact wpAny_is_other rfl (by simp) ((k s.toks).2 id)
theorem Cop.is_bytes {x : List Int} : Cop .Is (.bytes x) .none False := by
  (intro w A E Q s zr6 zr7 zr8 zr9 k; refine El.eeaxx (zr8) fun b t zz1 zz2 => ?_; try clear zr8; (first | subst zz1 | cases zz1); subst zr9)
  exact wpAny_is_other rfl (by simp) ((k s.toks).2 id)
theorem Cop.is_ref {x : Addr} : Cop .Is (.ref x) .none False := by
  rintro w A E Q s _ _ rfl rfl k
  exact wpAny_is_other rfl (by simp) ((k s.toks).2 id)
theorem G_Slice {M : Model} {Γ : PySem.Ctx} {s : Shared} {env : Env} {lo hi : Option PySem.Expr} {pos : Pos} {Q : Value → Shared → Prop} {A : Around} (hΓ : Γ.In A)
    (h : G M Γ (evalPart lo env) (fun a s₁ => G M Γ (evalPart hi env) (fun u s₂ => Q (.ref s₂.heap.objs.size) { s₂ with heap := s₂.heap.push { cls := .type "slice", data := .fields #[a, u, .none] } }) E s₁) E s) :
    G M Γ (eval (.Slice lo hi none pos) env) Q E s := by
  rw [arm_eval_Slice]
  refine G_bind (G_mono h (fun a s₁ h₁ => G_bind (G_holding (G_mono h₁ (fun u s₂ h₂ => G_bind (G_holding ?_)) fun _ _ x => x))) fun _ _ x => x)
  show G _ _ (pure Value.none) _ _ _
  exact G_pure (G_any hΓ (wpAny_newObj_type h₂))
noncomputable def Pt (c : Cx w K F n b) (E : Value → Shared → Prop) (m : AM) (l : AL) (e : Option PySem.Expr) (i : Option Int) : Prop := ∀ (Q : Value → Shared → Prop) (h : Heap) (tk : Nat), St c h m l → (∀ h' tk' u, St c h' m l → IsPart u i → Q u (c.at h' tk')) → G (model prog w) c.Γ (evalPart e c.env) Q E (c.at h tk)
theorem Pt.no : Pt c E m l none none := fun Q h tk S k => G_any c.hΓ (evalPart_none_step (env := c.env) (k h tk _ S .none))
theorem Pt.at {e : PySem.Expr} {i : Int} (H : Ev c E m l e (.int i)) : Pt c E m l (some e) (some i) := fun Q h tk S k => by
  have := H Q h tk S fun h' tk' u S' r => by (refine El.ex (r) fun t zz1 => ?_; try clear r; (first | subst zz1 | cases zz1)); exact k h' tk' _ S' (.int _ _)
  exact this
theorem Ev.slice {e1 : PySem.Expr} {lo hi : Option PySem.Expr} {sp pos : Pos} {ks : List Int} {i j : Option Int} (h1 : Ev c E m l e1 (.bytes ks)) (h2 : Pt c E m l lo i) (h3 : Pt c E m l hi j) (hz : ks.length ≤ 100000) :
    Ev c E m l (.Subscript e1 (.Slice lo hi none sp) pos) (.bytes ((ks.drop (i.elim 0 (clipAt ks.length))).take (j.elim ks.length (clipAt ks.length) - i.elim 0 (clipAt ks.length)))) := fun Q h tk S k =>
  G_Subscript (h1 _ h tk S fun h' tk' u S' r => G_Slice c.hΓ (h2 _ h' tk' S' fun h₂ tk₂ a S₂ ha => h3 _ h₂ tk₂ S₂ fun h₃ tk₃ u' S₃ hu => by
    (refine El.eeaxx (r) fun bb t zz1 hb => ?_; try clear r; (first | subst zz1 | cases zz1))
    obtain ⟨mm, news, Fr, M, N, RL, nd⟩ := S₃
    exact G_any c.hΓ (KBc.slice_K Fr N hb ha hu (by omega) (fun h₄ t₄ k₄ F₄ N₄ e => k h₄ k₄ _ ⟨mm, news, F₄, M, N₄, RL, nd⟩ ⟨_, _, rfl, e⟩) rfl fun _ => go_bytes)))
theorem cut_both {ks : List Int} {i j : Int} (h0 : 0 ≤ i) (h1 : i ≤ j) (h2 : j ≤ ks.length) : (ks.drop ((some i).elim 0 (clipAt ks.length))).take ((some j).elim ks.length (clipAt ks.length) - (some i).elim 0 (clipAt ks.length)) = (ks.drop i.toNat).take (j - i).toNat := by
  simp only [Option.elim]
  rw [clipAt_in (by omega) (by omega), clipAt_in (by omega) (by omega), show (j - i).toNat = j.toNat - i.toNat by omega]
theorem cut_from {ks : List Int} {i : Int} (h0 : 0 ≤ i) (h1 : i ≤ ks.length) : (ks.drop ((some i).elim 0 (clipAt ks.length))).take ((none : Option Int).elim ks.length (clipAt ks.length) - (some i).elim 0 (clipAt ks.length)) = ks.drop i.toNat := by
  simp only [Option.elim]
  rw [clipAt_in (by omega) (by omega)]
  exact List.take_of_length_le (by rw [List.length_drop]; omega)
theorem cut_to {ks : List Int} {j : Int} (h0 : 0 ≤ j) (h1 : j ≤ ks.length) : (ks.drop ((none : Option Int).elim 0 (clipAt ks.length))).take ((some j).elim ks.length (clipAt ks.length) - (none : Option Int).elim 0 (clipAt ks.length)) = ks.take j.toNat := by
  simp only [Option.elim]
  rw [clipAt_in (by omega) (by omega), List.drop_zero, Nat.sub_zero]
theorem Ev.cut {e1 e2 e3 : PySem.Expr} {sp pos : Pos} {ks : List Int} {i j : Int} (h1 : Ev c E m l e1 (.bytes ks)) (h2 : Ev c E m l e2 (.int i)) (h3 : Ev c E m l e3 (.int j)) (hz : ks.length ≤ 100000) (h0 : 0 ≤ i) (hij : i ≤ j) (hj : j ≤ ks.length) :
    Ev c E m l (.Subscript e1 (.Slice (some e2) (some e3) none sp) pos) (.bytes ((ks.drop i.toNat).take (j - i).toNat)) := cut_both h0 hij hj ▸ Ev.slice h1 (.at h2) (.at h3) hz
theorem Ev.cutF {e1 e2 : PySem.Expr} {sp pos : Pos} {ks : List Int} {i : Int} (h1 : Ev c E m l e1 (.bytes ks)) (h2 : Ev c E m l e2 (.int i)) (hz : ks.length ≤ 100000) (h0 : 0 ≤ i) (hij : i ≤ ks.length) :
    Ev c E m l (.Subscript e1 (.Slice (some e2) none none sp) pos) (.bytes (ks.drop i.toNat)) := cut_from h0 hij ▸ Ev.slice h1 (.at h2) .no hz
theorem Ev.cutT {e1 e3 : PySem.Expr} {sp pos : Pos} {ks : List Int} {j : Int} (h1 : Ev c E m l e1 (.bytes ks)) (h3 : Ev c E m l e3 (.int j)) (hz : ks.length ≤ 100000) (h0 : 0 ≤ j) (hj : j ≤ ks.length) :
    Ev c E m l (.Subscript e1 (.Slice none (some e3) none sp) pos) (.bytes (ks.take j.toNat)) := cut_to h0 hj ▸ Ev.slice h1 .no (.at h3) hz
theorem KOk.t75 (H : KOk K) {h : Heap} (X : K.In h) : ∃ us : List Value, IsTup h 75 us.toArray ∧ Reals [.int 1, .int 2, .int 4, .int 8] us ∧ ∃ sl, h.get? 75 = some ⟨.type "tuple", none, .seq us.toArray 0, sl⟩ := by
  (refine El.eeaxx (H.tup75) fun us sl e r => ?_)
  exact ⟨us, ⟨_, X _ _ e, rfl, _, rfl⟩, r, sl, X _ _ e⟩
theorem KOk.l167 (H : KOk K) {h : Heap} (X : K.In h) : ∃ (us : List Value) (k : Nat), h.get? 167 = some (W.listOf us.toArray k) ∧ Reals [.str (Str.ofString "initial"), .str (Str.ofString "zero"), .str (Str.ofString "handshake"), .str (Str.ofString "retry")] us := by
  (refine El.eeaxx (H.lst167) fun us k e r => ?_)
  exact ⟨us, k, X _ _ e, r⟩
theorem Ev.item75 (H : KOk K) {e1 e2 : PySem.Expr} {pos : Pos} {i : Int} {v : AV} (h1 : Ev c E m l e1 (.ref 75)) (h2 : Ev c E m l e2 (.int i)) (h0 : 0 ≤ i ∧ i < 4) (hv : [AV.int 1, .int 2, .int 4, .int 8][i.toNat]? = some v) (hs : isSlice e2 = false) : Ev c E m l (.Subscript e1 e2 pos) v := fun Q h tk S k =>
  G_Subscript (h1 _ h tk S fun h' tk' u S' r => h2 _ h' tk' S' fun h'' tk'' u' S'' r' => by
    cases r
    (refine El.ex (r') fun t' zz1 => ?_; try clear r'; (first | subst zz1 | cases zz1))
    (refine El.eaxaxx (H.t75 S''.in) fun us hD rs zz1 => ?_)
    (refine El.eaxx (rs.get hv) fun u hu hr => ?_)
    have hl := rs.length
    exact G_any c.hΓ (item_tupleT (l := us) hD (by omega) (by omega) (seqIndex_of h0.1 (by rw [hl]; exact h0.2)) hu (k h'' tk'' u S'' hr) (subs_plain hs)))
theorem Ev.item167 (H : KOk K) {e1 e2 : PySem.Expr} {pos : Pos} {i : Int} {v : AV} (h1 : Ev c E m l e1 (.ref 167)) (h2 : Ev c E m l e2 (.int i)) (h0 : 0 ≤ i ∧ i < 4) (hv : [AV.str (Str.ofString "initial"), .str (Str.ofString "zero"), .str (Str.ofString "handshake"), .str (Str.ofString "retry")][i.toNat]? = some v) (hs : isSlice e2 = false) : Ev c E m l (.Subscript e1 e2 pos) v := fun Q h tk S k =>
  G_Subscript (h1 _ h tk S fun h' tk' u S' r => h2 _ h' tk' S' fun h'' tk'' u' S'' r' => by
    cases r
    (refine El.ex (r') fun t' zz1 => ?_; try clear r'; (first | subst zz1 | cases zz1))
    (refine El.eeaxx (H.l167 S''.in) fun us n hD rs => ?_)
    (refine El.eaxx (rs.get hv) fun u hu hr => ?_)
    have hl : h''.IsList 167 us.toArray := ⟨_, hD, rfl, _, rfl⟩
    exact G_any c.hΓ (PyProof.Rows.tail_any hl.typeIs slot_list_getitem.lookup (wpAny_getItem_list hl h0.1 (by omega) (by simpa using hu) (k h'' tk'' u S'' hr)) (subs_plain hs)))
theorem Iter.tup75 (H : KOk K) {e : PySem.Expr} (h1 : Ev c E m l e (.ref 75)) : Iter c E m l e [.int 1, .int 2, .int 4, .int 8] := fun Q h tk S k =>
  h1 _ h tk S fun h' tk' u S' r => by
    cases r
    (refine El.eeaxx (H.tup75) fun us sl e0 rs => ?_)
    have hD : IsTup h' 75 us.toArray := ⟨_, S'.in _ _ e0, rfl, _, rfl⟩
    have hT : h'.IsTuple 75 us.toArray := hD
    have hz := rs.length
    have e : us.toArray.size = [AV.int 1, .int 2, .int 4, .int 8].length := by rw [List.size_toArray, hz]
    have W := Walks.tuple (prog := prog) (w := w) (A := c.A) rfl h'.objs.size 75 (Nat.ne_of_lt (Heap.lt_size (S'.in _ _ e0))) us.toArray
    rw [e] at W
    refine G_any c.hΓ (wpAny_pyIter_tuple hT (k _ tk' h'.objs.size _ _ _ _ (S'.pushRaw _) ⟨W, fun i v hi hp => ?_, fun a ha => ?_, fun i h ⟨⟨o, ho, _⟩, _⟩ => ⟨o, ho⟩⟩ ⟨⟨_, Heap.get?_push_size _ rfl, rfl, rfl⟩, ?_⟩))
    · obtain ⟨a, ha⟩ : ∃ a, [AV.int 1, .int 2, .int 4, .int 8][i]? = some a := ⟨_, List.getElem?_eq_getElem hi⟩
      (refine El.eaxx (rs.get ha) fun u hu hr => ?_)
      refine ⟨a, ha, ?_⟩
      have : us[i]? = some v := by simpa using hp
      rw [hu] at this; cases this; exact hr
    · rcases List.mem_cons.mp ha with rfl | ha
      · exact .inl rfl
      · exact .inr (.inl ⟨_, List.mem_singleton.mp ha ▸ c.X _ _ e0⟩)
    · (refine El.ex (hT) fun o zq15 => ?_; try clear hT; refine El.axaxx (zq15) fun ho hc zq16 => ?_; try clear zq15; refine El.ex (zq16) fun k0 hd => ?_; try clear zq16)
      exact ⟨o, Heap.get?_push_of_some _ ho, hc, k0, hd⟩
end
end Mine

end
section
open PySem PySem.W PySem.Spec PySem.Calls PyProof.Rows
namespace Mine
set_option maxRecDepth 100000
set_option linter.unusedVariables false
inductive Rem (p : Addr × AO) : AL → AL → Prop
  | head {l : AL} : Rem p (p :: l) l
  | tail {q : Addr × AO} {l l' : AL} : Rem p l l' → Rem p (q :: l) (q :: l')
inductive Pick : AL → AL → Prop
  | nil {l : AL} : Pick [] l
  | refl {l : AL} : Pick l l
  | skip {q : Addr × AO} {t l : AL} : Pick t l → Pick t (q :: l)
  | cons {p : Addr × AO} {t l l' : AL} : Rem p l l' → Pick t l' → Pick (p :: t) l
theorem RealL.rem {w : World} {p : Addr × AO} {l l' : AL} (H : Rem p l l') : ∀ {ns : List (Addr × Obj)}, RealL w l ns → ∃ n1 n0 n2, ns = n1 ++ (n0 ++ n2) ∧ RealL w [p] n0 ∧ RealL w l' (n1 ++ n2) := by
  induction H with
  | head =>
    intro ns R
    (refine El.eeaxaxx (R.un) fun n0 n2 zz1 a b => ?_; (first | subst zz1 | cases zz1))
    exact ⟨[], n0, n2, rfl, a, b⟩
  | tail _ ih =>
    intro ns R
    (refine El.eeaxaxx (R.un) fun k0 k2 zz1 a b => ?_; (first | subst zz1 | cases zz1))
    (refine El.eeeaxaxx (ih b) fun n1 n0 n2 zz1 h0 h1 => ?_; (first | subst zz1 | cases zz1))
    exact ⟨k0 ++ n1, n0, n2, by simp only [List.append_assoc], h0, by rw [List.append_assoc]; exact a.one h1⟩
theorem RealL.pick {w : World} {t l : AL} (H : Pick t l) : ∀ {ns : List (Addr × Obj)}, RealL w l ns → (ns.map (·.1)).Nodup → ∃ ns', RealL w t ns' ∧ (∀ q ∈ ns', q ∈ ns) ∧ (ns'.map (·.1)).Nodup := by
  induction H with
  | nil => intro ns R nd; exact ⟨[], .nil, (fun q hq => by cases hq), List.nodup_nil⟩
  | refl => intro ns R nd; exact ⟨ns, R, fun _ h => h, nd⟩
  | skip _ ih =>
    intro ns R nd
    (refine El.eeaxaxx (R.un) fun n0 n2 zz1 a b => ?_; (first | subst zz1 | cases zz1))
    (refine El.eaxaxx (ih b (by rw [List.map_append] at nd; exact (List.nodup_append.mp nd).2.1)) fun ns' h1 h2 h3 => ?_)
    exact ⟨ns', h1, fun q hq => List.mem_append_right _ (h2 q hq), h3⟩
  | cons hr _ ih =>
    intro ns R nd
    (refine El.eeeaxaxx (R.rem hr) fun n1 n0 n2 zz1 h0 h1 => ?_; (first | subst zz1 | cases zz1))
    simp only [List.map_append] at nd
    (refine El.axaxx (List.nodup_append.mp nd) fun d1 d2 d3 => ?_)
    (refine El.axaxx (List.nodup_append.mp d2) fun d4 d5 d6 => ?_)
    (refine El.eaxaxx (ih h1 (by rw [List.map_append]; exact List.nodup_append.mpr ⟨d1, d5, fun a ha b hb => d3 a ha b (List.mem_append_right _ hb)⟩)) fun ns' g1 g2 g3 => ?_)
    refine ⟨n0 ++ ns', h0.one g1, fun q hq => ?_, ?_⟩
    · rcases List.mem_append.mp hq with hq | hq
      · exact List.mem_append_right _ (List.mem_append_left _ hq)
      · rcases List.mem_append.mp (g2 q hq) with h | h
        · exact List.mem_append_left _ h
        · exact List.mem_append_right _ (List.mem_append_right _ h)
    · rw [List.map_append]
      refine List.nodup_append.mpr ⟨d4, g3, fun a ha b hb => ?_⟩
      (refine El.eaxx (List.mem_map.mp hb) fun q hq zz1 => ?_; (first | subst zz1 | cases zz1))
      rcases List.mem_append.mp (g2 q hq) with h | h
      · exact fun e => d3 _ (List.mem_map_of_mem h) _ (List.mem_append_left _ ha) e.symm
      · exact d6 _ ha _ (List.mem_map_of_mem h)
section
variable {w : World} {K : Frag} {F : Fn} {n : Nat} {b : Bool} {c : Cx w K F n b} {E : Value → Shared → Prop} {m : AM} {l : AL}
theorem St.pick {h : Heap} {t : AL} (S : St c h m l) (H : Pick t l) : St c h m t := by
  obtain ⟨mm, news, Fr, M, N, RL, nd⟩ := S
  (refine El.eaxaxx (RL.pick H nd) fun ns' a b d => ?_)
  exact ⟨mm, ns', Fr, M, fun q hq => N q (b q hq), a, d⟩
theorem Wb.pick {ss : List Stmt} {P : Fl → AM → AL → Prop} {t : AL} (H : Wb c E m t ss P) (hp : Pick t l) : Wb c E m l ss P := fun Q h tk S k => H Q h tk (S.pick hp) k
theorem Wb.retQ {e : PySem.Expr} {pos : Pos} {R : AV → AL → Prop} {rest : List Stmt} {P : Fl → AM → AL → Prop} (H : Ex c E m l e R) (k : ∀ v l', R v l' → ∃ l0, Pick l0 l' ∧ P (.ret v) m l0) : Wb c E m l (.Return (some e) pos :: rest) P :=
  Wb.cons fun Q h tk S kk => G_Return (H _ h tk S fun h' tk' u v l' hR S' r => by
    (refine El.eaxx (k v l' hR) fun l0 hp hP => ?_)
    exact kk _ _ _ _ _ _ (show Beh c E rest P (.ret v) m l0 from hP) (S'.pick hp) ⟨u, rfl, r⟩)
theorem Wb.retP {e : PySem.Expr} {pos : Pos} {v : AV} {l0 : AL} {rest : List Stmt} {P : Fl → AM → AL → Prop} (H : Ev c E m l e v) (hp : Pick l0 l) (k : P (.ret v) m l0) : Wb c E m l (.Return (some e) pos :: rest) P :=
  Wb.retQ H.x fun _ _ hv => by (refine El.axx (hv) fun zz1 zz2 => ?_; try clear hv; (first | subst zz1 | cases zz1); (first | subst zz2 | cases zz2)); exact ⟨l0, hp, k⟩
theorem Wb.ret_tup {es : List PySem.Expr} {k0 : Nat} {tp pos : Pos} {vs : List AV} {rest : List Stmt} {P : Fl → AM → AL → Prop} (H : Evs c E m l es vs) (hz : Nat.ble vs.length 10000 = true) (k : ∀ D, P (.ret (.ref D)) m ((D, .tup vs) :: l)) : Wb c E m l (.Return (some (.Tuple es k0 tp)) pos :: rest) P :=
  Wb.retQ (Ex.tup H (Nat.le_of_ble_eq_true hz)) fun _ _ hv => by (refine El.eaxx (hv) fun D zz1 zz2 => ?_; try clear hv; (first | subst zz1 | cases zz1); (first | subst zz2 | cases zz2)); exact ⟨_, .refl, k D⟩
noncomputable abbrev rngObj (a z st : Int) (t u v : Tok) : Obj := { cls := .type "range", data := .fields #[.int a t, .int z u, .int st v] }
noncomputable def Rng (a z st : Int) (l : AL) : AV → AL → Prop := fun v l' => ∃ r t u x, v = .ref r ∧ l' = (r, .raw (rngObj a z st t u x)) :: l
theorem Bw.range1 {z : Int} : Bw c E m (.type "range") [.int z] l (Rng 0 z 1 l) := fun Q h tk us S r k => by
  obtain _ | ⟨⟨t, rfl⟩, _ | _⟩ := r
  exact G_any c.hΓ (call_range_1 (k _ _ _ _ _ ⟨h.objs.size, _, _, _, rfl, rfl⟩ (S.pushRaw _) rfl))
theorem Bw.range2 {a z : Int} : Bw c E m (.type "range") [.int a, .int z] l (Rng a z 1 l) := fun Q h tk us S r k => by
  obtain _ | ⟨⟨t, rfl⟩, _ | ⟨⟨t', rfl⟩, _ | _⟩⟩ := r
  exact G_any c.hΓ (call_range_2 (k _ _ _ _ _ ⟨h.objs.size, _, _, _, rfl, rfl⟩ (S.pushRaw _) rfl))
theorem Bw.range3 {a z st : Int} (hc : st ≠ 0) (hp : st.natAbs.log2 < 9000) : Bw c E m (.type "range") [.int a, .int z, .int st] l (Rng a z st l) := fun Q h tk us S r k => by
  obtain _ | ⟨⟨t, rfl⟩, _ | ⟨⟨t', rfl⟩, _ | ⟨⟨t'', rfl⟩, _ | _⟩⟩⟩ := r
  exact G_any c.hΓ (call_range_3 hc (k _ _ _ _ _ ⟨h.objs.size, _, _, _, rfl, rfl⟩ (S.pushRaw _) rfl) (Or.inl (PyProof.noPylong_of_log2 hp)))
theorem Iter.of_rng {e : PySem.Expr} {a z st : Int} {k : Nat} (H : Ex c E m l e (Rng a z st l)) (hs : Builtin.Range.small a z st = true) (hn : Builtin.Range.rangeSize a z st = (k : Int)) : Iter c E m l e ((List.range k).map fun i => .int (a + (i : Nat) * st)) := fun Q h tk S kk =>
  H _ h tk S fun h' tk' u v l' hR S' r => by
    (refine El.eeeex (hR) fun rr t u' x zq33 => ?_; try clear hR; refine El.axx (zq33) fun zz1 zz2 => ?_; try clear zq33; (first | subst zz1 | cases zz1); (first | subst zz2 | cases zz2))
    cases r
    have hr : IsRange h' rr a z st t u' x := S'.raw_at.1
    have hl : ((List.range k).map fun i => AV.int (a + (i : Nat) * st)).length = k := by simp
    refine G_any c.hΓ (wpAny_pyIter_range hr hs (kk _ tk' h'.objs.size _ [h'.objs.size] _ _ ((S'.pushRaw _).pick (.cons .head (.skip .refl))) ⟨hl ▸ Walks.range rfl h'.objs.size a st k, fun i v hi hp => ?_, fun a ha => .inl (List.mem_singleton.mp ha), fun i h e => ⟨_, e⟩⟩ ?_))
    · (refine El.ex (hp) fun t zz1 => ?_; try clear hp; (first | subst zz1 | cases zz1))
      rw [hl] at hi
      exact ⟨.int (a + (i : Nat) * st), by simp [hi], t, rfl⟩
    · rw [hn]
      simpa using Heap.get?_push_size _ rfl
end
end Mine

end
section
open PySem PySem.W PySem.Spec PySem.Calls PyProof.Rows
namespace Mine
set_option maxRecDepth 100000
set_option linter.unusedVariables false
section
variable {w : World} {K : Frag} {F : Fn} {n : Nat} {b : Bool} {c : Cx w K F n b} {E : Value → Shared → Prop} {m : AM} {l : AL}
theorem stores_names {Q : Unit → Shared → Prop} : ∀ {xs : List Str} {vs : List AV} {us : List Value} {m : AM} {h : Heap} {tk : Nat}, St c h m l → Reals vs us → xs.all (isLoc F) = true → vs.length = xs.length → (∀ h' tk', St c h' ((xs.zip vs).reverse ++ m) l → Q () (c.at h' tk')) →
    wpAny (model prog w) c.A (assignInOrder (xs.map fun x => bindName c.env x) us) Q E (c.at h tk)
  | [], [], _, _, h, tk, S, .nil, _, _, k => assignInOrder_nil (k h tk S)
  | [], _ :: _, _, _, _, _, _, _, _, hl, _ => by cases hl
  | _ :: _, [], _, _, _, _, _, _, _, hl, _ => by cases hl
  | x :: xs, v :: vs, _, m, h, tk, S, .cons r rs, hx, hl, k => by
    simp only [List.all_cons, Bool.and_eq_true] at hx
    refine assignInOrder_cons (bindName_ (S.store r hx.1 fun h' tk' S' => ?_))
    refine stores_names S' rs hx.2 (by simpa using hl) fun h'' tk'' S'' => k h'' tk'' ?_
    rw [List.zip_cons_cons, List.reverse_cons, List.append_assoc]
    exact S''
theorem Reals.reverse {vs : List AV} {us : List Value} (r : Reals vs us) : Reals vs.reverse us.reverse := by
  have app : ∀ {a b : List AV} {x y : List Value}, Reals a x → Reals b y → Reals (a ++ b) (x ++ y) := fun ha hb => by
    induction ha with
    | nil => exact hb
    | cons r _ ih => exact .cons r ih
  induction r with
  | nil => exact .nil
  | cons r _ ih => rw [List.reverse_cons, List.reverse_cons]; exact app ih (.cons r .nil)
theorem G_rule {M : Model} {Γ : PySem.Ctx} {s : Shared} {x : String} {Q : Unit → Shared → Prop} (h : Q () s) : G M Γ (rule x) Q E s := fun _ => h
theorem G_Assign_swapped {M : Model} {Γ : PySem.Ctx} {s : Shared} {env : Env} {elts : List PySem.Expr} {k : Nat} {tpos pos : Pos} {value : PySem.Expr} {names : List Str} {Q : Flow → Shared → Prop}
    (h : G M Γ (eval value env) (fun v s₁ => G M Γ (unpackItems v names.length none) (fun items s₂ => G M Γ (assignInOrder (names.reverse.map fun n => bindName env n) items.reverse) (fun _ => Q .next) E s₂) E s₁) E s)
    (hs : swapsWithSole [.Tuple elts k tpos] value pos.line env = pure false) (hw : swappedStores [.Tuple elts k tpos] value env = pure (some names)) : G M Γ (exec (.Assign [.Tuple elts k tpos] value pos) env) Q E s := by
  rw [exec_Assign]
  refine G_bind (G_standAt ?_)
  rw [hs]
  refine G_bind (G_pure ?_)
  rw [if_neg (by decide)]
  refine G_bind (G_mono h (fun v s₁ h₁ => ?_) fun _ _ x => x)
  rw [hw]
  refine G_bind (G_pure ?_)
  show G M Γ (do rule "assign.swapped-stores"; let items ← unpackItems v names.length none; assignInOrder (names.reverse.map fun n => bindName env n) items.reverse; pure .next) Q E s₁
  exact G_bind (G_rule (G_bind (G_mono h₁ (fun items s₂ h₂ => G_bind (G_mono h₂ (fun _ _ x => G_pure x) fun _ _ x => x)) fun _ _ x => x)))
theorem G_Assign_Tuple {M : Model} {Γ : PySem.Ctx} {s : Shared} {env : Env} {elts : List PySem.Expr} {k : Nat} {tpos pos : Pos} {value : PySem.Expr} {Q : Flow → Shared → Prop}
    (h : G M Γ (eval value env) (fun v s₁ => G M Γ (assign (.Tuple elts k tpos) env v) (fun _ => Q .next) E s₁) E s)
    (hs : swapsWithSole [.Tuple elts k tpos] value pos.line env = pure false) (hw : swappedStores [.Tuple elts k tpos] value env = pure none) : G M Γ (exec (.Assign [.Tuple elts k tpos] value pos) env) Q E s := by
  rw [exec_Assign]
  refine G_bind (G_standAt ?_)
  rw [hs]
  refine G_bind (G_pure ?_)
  rw [if_neg (by decide)]
  refine G_bind (G_mono h (fun v s₁ h₁ => ?_) fun _ _ x => x)
  rw [hw]
  refine G_bind (G_pure ?_)
  show G M Γ (do assignAll v [assign (.Tuple elts k tpos) env]; pure .next) Q E s₁
  exact G_bind (G_mono h₁ (fun _ _ x => G_pure x) fun _ _ x => x)
theorem Wb.swap {elts es : List PySem.Expr} {k0 k1 : Nat} {tpos vpos pos : Pos} {rest : List Stmt} {P : Fl → AM → AL → Prop} (xs : List Str) {RL : List AV → AL → Prop} (H : Exs c E m l es RL) (hz : ∀ vs l0, RL vs l0 → vs.length = xs.length)
    (hx : (xs.all (isLoc F) && decide (xs.length ≤ 100)) = true) (hw : swappedStores [.Tuple elts k0 tpos] (.Tuple es k1 vpos) c.env = pure (some xs)) (k : ∀ vs l0, RL vs l0 → Wb c E (xs.zip vs ++ m) l0 rest P) : Wb c E m l (.Assign [.Tuple elts k0 tpos] (.Tuple es k1 vpos) pos :: rest) P := Wb.cons fun Q h tk S kk => by
  simp only [Bool.and_eq_true, decide_eq_true_eq] at hx
  refine G_Assign_swapped (names := xs) (Ex.tupX H (fun vs l0 hR => by have := hz vs l0 hR; omega) _ h tk S fun h' tk' u v l' hR S' r => ?_) rfl hw
  (refine El.eeeaxaxx (hR) fun D vs l0 zz1 zz2 hRL => ?_; try clear hR; (first | subst zz1 | cases zz1); (first | subst zz2 | cases zz2))
  cases r
  have hvl := hz vs l0 hRL
  (refine El.eaxx (S'.tup (List.mem_cons_self ..)) fun us hD rs => ?_)
  have S0 := S'.drop
  obtain ⟨mm, news, Fr, M, N, RL', nd⟩ := S0
  refine G_any c.hΓ (unpackItemsN_ Fr N hD rfl (by rw [List.size_toArray, rs.length, hvl]) fun h'' F'' N'' => G_any c.hΓ ?_)
  have S'' : St c h'' m l0 := ⟨mm, news, F'', M, N'', RL', nd⟩
  refine stores_names (xs := xs.reverse) (vs := vs.reverse) S'' rs.reverse (by rw [List.all_reverse]; exact hx.1) (by simp [hvl]) fun h3 tk3 S3 => kk .next .next _ _ h3 tk3 (k vs l0 hRL) ?_ rfl
  have e : (xs.reverse.zip vs.reverse).reverse = xs.zip vs := by
    rw [List.zip, List.reverse_zipWith (by simp [hvl]), List.reverse_reverse, List.reverse_reverse]
  rw [e] at S3
  exact S3
theorem Exs.done {R : List AV → AL → Prop} (h : R [] l) : Exs c E m l [] R := fun Q hh tk pos S k => G_args_nil (k hh tk [] [] l h S .nil)
theorem Exs.vcons {e : PySem.Expr} {es : List PySem.Expr} {v : AV} {R : List AV → AL → Prop} (h1 : Ev c E m l e v) (h2 : Exs c E m l es (fun vs l'' => R (v :: vs) l'')) (hs : isStar e = false) : Exs c E m l (e :: es) R := Exs.cons h1.x (fun _ _ h => by (refine El.axx (h) fun zz1 zz2 => ?_; try clear h; (first | subst zz1 | cases zz1); (first | subst zz2 | cases zz2)); exact h2) hs
theorem Exs.ofv {es : List PySem.Expr} {vs : List AV} {R : List AV → AL → Prop} (h : Evs c E m l es vs) (k : R vs l) : Exs c E m l es R := fun Q hh tk pos S kk => h Q hh tk pos S fun h' tk' us S' r => kk h' tk' us vs l k S' r
noncomputable def Asgs (c : Cx w K F n b) (E : Value → Shared → Prop) (m : AM) (l : AL) (elts : List PySem.Expr) (vs : List AV) (m' : AM) (l' : AL) : Prop := ∀ (Q : Unit → Shared → Prop) (h : Heap) (tk : Nat) (us : List Value), St c h m l → Reals vs us →
  (∀ h' tk', St c h' m' l' → Q () (c.at h' tk')) → G (model prog w) c.Γ (assignInOrder ((assignEach elts c.env).map (·.2)) us) Q E (c.at h tk)
theorem G_assignInOrder_cons {M : Model} {Γ : PySem.Ctx} {s : Shared} {t : Value → Sem Unit} {ts : List (Value → Sem Unit)} {x : Value} {xs : List Value} {Q : Unit → Shared → Prop}
    (h : G M Γ (t x) (fun _ s₁ => G M Γ (assignInOrder ts xs) Q E s₁) E s) : G M Γ (assignInOrder (t :: ts) (x :: xs)) Q E s := by
  show G M Γ (do holding xs (t x); assignInOrder ts xs) Q E s
  exact G_bind (G_holding h)
theorem Asgs.nil : Asgs c E m l [] [] m l := fun Q h tk us S r k => by
  cases r
  exact G_any c.hΓ (assignInOrder_nil (k h tk S))
theorem Asgs.name {x : Str} {p : Pos} {elts : List PySem.Expr} {v : AV} {vs : List AV} {m' : AM} {l' : AL} (hx : isLoc F x = true) (H : Asgs c E ((x, v) :: m) l elts vs m' l') : Asgs c E m l (.Name x p :: elts) (v :: vs) m' l' := fun Q h tk us S r k => by
  obtain _ | ⟨r, rs⟩ := r
  exact G_assignInOrder_cons (G_any c.hΓ (wpAny_assign_Name (S.store r hx fun h' tk' S' => H Q h' tk' _ S' rs k)))
noncomputable def plainEach (elts : List PySem.Expr) : Bool := elts.all fun e => !isStar e
theorem each_cons {e : PySem.Expr} {rest : List PySem.Expr} {env : Env} (h : isStar e = false) : assignEach (e :: rest) env = (false, assign e env) :: assignEach rest env := by
  cases e <;> first | rfl | cases h
theorem each_plain (env : Env) : ∀ {elts : List PySem.Expr}, plainEach elts = true → (assignEach elts env).length = elts.length ∧ (assignEach elts env).findIdx? (·.1) = none
  | [], _ => ⟨rfl, rfl⟩
  | e :: r, h => by
    simp only [plainEach, List.all_cons, Bool.and_eq_true, Bool.not_eq_true'] at h
    (refine El.axx (each_plain env (elts := r) h.2) fun a b => ?_)
    rw [each_cons h.1]
    refine ⟨by rw [List.length_cons, List.length_cons, a], ?_⟩
    rw [List.findIdx?_cons, b]
    rfl
theorem Wb.unpack {elts : List PySem.Expr} {value : PySem.Expr} {k0 : Nat} {tpos pos : Pos} {rest : List Stmt} {P : Fl → AM → AL → Prop} {R : AV → AL → Prop} (H : Ex c E m l value R) (hx : (plainEach elts && !isComp value) = true) (hw : swappedStores [.Tuple elts k0 tpos] value c.env = pure none)
    (k : ∀ v l', R v l' → ∃ D vs m2 l2, v = .ref D ∧ (D, AO.tup vs) ∈ l' ∧ vs.length = elts.length ∧ Asgs c E m l' elts vs m2 l2 ∧ Wb c E m2 l2 rest P) : Wb c E m l (.Assign [.Tuple elts k0 tpos] value pos :: rest) P := Wb.cons fun Q h tk S kk => by
  simp only [Bool.and_eq_true, Bool.not_eq_true'] at hx
  (refine El.axx (each_plain c.env hx.1) fun e1 e2 => ?_)
  refine G_Assign_Tuple (H _ h tk S fun h' tk' u v l' hR S' r => ?_) (show swapsWith value (some (.Tuple elts k0 tpos)) pos.line c.env = pure false from swaps_plain hx.2) hw
  (refine El.eeeeaxaxaxaxx (k v l' hR) fun D vs m2 l2 zz1 hm hl hA hW => ?_; (first | subst zz1 | cases zz1))
  cases r
  (refine El.eaxx (S'.tup hm) fun us hD rs => ?_)
  rw [assign_Tuple]
  refine G_bind (G_standAt ?_)
  unfold PySem.unpack
  rw [e1, e2]
  obtain ⟨mm, news, Fr, M, N, RL', nd⟩ := S'
  refine G_bind (G_holding (G_any c.hΓ (unpackItemsN_ Fr N hD rfl (by rw [List.size_toArray, rs.length, hl]) fun h'' F'' N'' => ?_)))
  have S'' : St c h'' m l' := ⟨mm, news, F'', M, N'', RL', nd⟩
  exact hA _ h'' tk' us S'' rs fun h3 tk3 S3 => kk .next .next _ _ h3 tk3 hW S3 rfl
theorem Wb.expr {e : PySem.Expr} {pos : Pos} {rest : List Stmt} {R : AV → AL → Prop} {P : Fl → AM → AL → Prop} (H : Ex c E m l e R) (hc : isComp e = false) (k : ∀ v l', R v l' → Wb c E m l' rest P) : Wb c E m l (.Expr e pos :: rest) P := Wb.cons fun Q h tk S kk => by
  rw [exec_Expr c.env e pos (by show (F.scope.kind == .module && _) = false; rw [c.kind]; rfl) (swaps_plain hc)]
  exact G_bind (G_standAt (G_bind (H _ h tk S fun h' tk' u v l' hR S' r => G_any c.hΓ (wpAny_dropValue (kk .next .next _ _ h' tk' (k v l' hR) S' rfl)))))
theorem G_callWithB {M : Model} {Γ : PySem.Ctx} {s : Shared} {pos : Pos} {f : Value} {first : List Value} {trees : List (Bool × Sem Value)} {P : Heap → Prop} {Q : Value → Shared → Prop}
    (hk : ∀ h, P h → ∃ k, (k = Keeper.frame ∨ k = Keeper.machine ∨ k = Keeper.boundFrame) ∧ Looks M h (keeperOf f) k) (hp : trees.any (·.1) = false)
    (h : G M Γ (evalArgs f true trees []) (fun a s₁ => P s₁.heap ∧ G M Γ (call f (first ++ a.pos) a.kw) Q E s₁) E s) : G M Γ (callWith pos f first trees []) Q E s := by
  have hp' : (trees.any (·.1) || ([] : List (Option Str × Sem Value)).any (·.1.isNone)) = false := by rw [hp]; rfl
  unfold callWith
  refine G_bind (G_holding (G_mono h (fun a s₁ h₁ => G_bind (G_standAt ?_)) fun _ _ x => x))
  (refine El.eaxx (hk _ h₁.1) fun k hk' L => ?_)
  simp only [hp']
  refine G_bind (G_looks L ?_)
  have tail : ∀ {t : Sem Value}, G M Γ t Q E s₁ → G M Γ (t >>= fun r => holding [r] point >>= fun _ => pure r) Q E s₁ :=
    fun ht => G_bind (G_mono ht (fun r s₂ hr => G_bind (G_holding (G_point (G_pure hr)))) fun _ _ x => x)
  have marked (mk : Value) : G M Γ (callMarked mk f (first ++ a.pos) a.kw) Q E s₁ := by unfold callMarked; exact G_keep h₁.2
  rcases hk' with rfl | rfl | rfl <;> dsimp only <;> first | exact tail h₁.2 | (split <;> first | exact tail h₁.2 | exact tail (marked _))
theorem evalArgs_G {M : Model} {Γ : PySem.Ctx} {s : Shared} {f : Value} {x : Sem Value} {rest : List (Bool × Sem Value)} {Q : Args → Shared → Prop}
    (h : G M Γ (spliced ((false, x) :: rest)) (fun vs s' => Q ⟨vs, []⟩ s') E s) : G M Γ (evalArgs f true ((false, x) :: rest) []) Q E s := by
  unfold evalArgs
  show G M Γ (spliced ((false, x) :: rest) >>= _) Q E s
  refine G_bind (G_mono h (fun vs s' h' => ?_) fun _ _ x => x)
  refine G_holding ?_
  exact G_bind (G_pure (G_bind (G_pure (G_pure h'))))
noncomputable def Mt (c : Cx w K F n b) (E : Value → Shared → Prop) (m : AM) (l : AL) (self : AV) (name : Str) (f : Value) : Prop := ∀ (pl : Sem Bool) (Q : Value × List Value → Shared → Prop) (h : Heap) (tk : Nat) (u : Value), St c h m l → Real self u →
  (∀ h' tk', St c h' m l → Q (f, [u]) (c.at h' tk')) → wpAny (model prog w) c.A (getMethod u name pl) Q E (c.at h tk)
theorem Ex.meth {o : PySem.Expr} {name : Str} {apos pos cpos : Pos} {e0 : PySem.Expr} {es : List PySem.Expr} {self : AV} {f : Value} {RA : List AV → AL → Prop} {R : AV → AL → Prop} {pl : Sem Bool} (ho : Ev c E m l o self)
    (hm : Mt c E m l self name f) (hk : Keeps K f) (ha : Exs c E m l (e0 :: es) RA) (C : ∀ vs l', RA vs l' → Bw c E m f (self :: vs) l' R) (hs : noStar (e0 :: es) = true)
    (he : eval (.Call (.Attribute o name apos) (e0 :: es) [] pos) c.env = (do
      let ov ← eval o c.env
      standAt apos.atName
      let (f, first) ← holding [ov] (getMethod ov name pl)
      callWith cpos f first (backTo pos (starEach (e0 :: es) c.env)) [])) : Ex c E m l (.Call (.Attribute o name apos) (e0 :: es) [] pos) R := fun Q h tk S k => by
  simp only [noStar, List.all_cons, Bool.and_eq_true, Bool.not_eq_true'] at hs
  rw [he]
  refine G_bind (ho _ h tk S fun h' tk' u S' r => G_bind (G_standAt (G_bind (G_holding (G_any c.hΓ (hm pl _ h' tk' u S' r fun h2 tk2 S2 => ?_))))))
  show G _ _ (callWith cpos f [u] (backTo pos (starEach (e0 :: es) c.env)) []) _ _ _
  have hpl := star_plain (pos := pos) (env := c.env) (es := e0 :: es) (by simp [noStar, hs.1, hs.2])
  have H := ha (fun us s => K.In s.heap ∧ G (model prog w) c.Γ (PySem.call f ([u] ++ us) []) Q E s) h2 tk2 pos S2 fun h3 tk3 us vs l' hR S3 rs => ⟨S3.in, C vs l' hR Q h3 tk3 (u :: us) S3 (.cons r rs) k⟩
  rw [star_cons hs.1] at H hpl ⊢
  exact G_callWithB (P := K.In) (fun h X => hk h X) hpl (evalArgs_G H)
theorem Ev.meth {o : PySem.Expr} {name : Str} {apos pos cpos : Pos} {e0 : PySem.Expr} {es : List PySem.Expr} {self v : AV} {f : Value} {vs : List AV} {pl : Sem Bool} (ho : Ev c E m l o self)
    (hm : Mt c E m l self name f) (hk : Keeps K f) (ha : Evs c E m l (e0 :: es) vs) (C : Bw c E m f (self :: vs) l (Is v l)) (hs : noStar (e0 :: es) = true)
    (he : eval (.Call (.Attribute o name apos) (e0 :: es) [] pos) c.env = (do
      let ov ← eval o c.env
      standAt apos.atName
      let (f, first) ← holding [ov] (getMethod ov name pl)
      callWith cpos f first (backTo pos (starEach (e0 :: es) c.env)) [])) : Ev c E m l (.Call (.Attribute o name apos) (e0 :: es) [] pos) v :=
  (Ex.meth ho hm hk ha.x (fun _ _ h => by (refine El.axx (h) fun zz1 zz2 => ?_; try clear h; (first | subst zz1 | cases zz1); (first | subst zz2 | cases zz2)); exact C) hs he).v
theorem Ex.meth0 {o : PySem.Expr} {name : Str} {apos pos cpos : Pos} {self : AV} {f : Value} {R : AV → AL → Prop} {pl : Sem Bool} (ho : Ev c E m l o self)
    (hm : Mt c E m l self name f) (hk : Keeps K f) (C : Bw c E m f [self] l R)
    (he : eval (.Call (.Attribute o name apos) [] [] pos) c.env = (do
      let ov ← eval o c.env
      standAt apos.atName
      let (f, first) ← holding [ov] (getMethod ov name pl)
      callWith cpos f first (backTo pos (starEach [] c.env)) [])) : Ex c E m l (.Call (.Attribute o name apos) [] [] pos) R := fun Q h tk S k => by
  rw [he]
  refine G_bind (ho _ h tk S fun h' tk' u S' r => G_bind (G_standAt (G_bind (G_holding (G_any c.hΓ (hm pl _ h' tk' u S' r fun h2 tk2 S2 => ?_))))))
  show G _ _ (callWith cpos f [u] [] []) _ _ _
  refine G_callWithB (P := K.In) (fun h X => hk h X) rfl ?_
  refine G_any c.hΓ (evalArgs_nil3 ?_)
  exact ⟨S2.in, C Q h2 tk2 [u] S2 (.cons r .nil) k⟩
theorem Mt.append {D : Addr} {vs : List AV} (hm : (D, AO.list vs) ∈ l) : Mt c E m l (.ref D) (Str.ofString "append") (.builtin "list.append") := fun pl Q h tk u S r k => by
  cases r
  (refine El.eeaxx (S.list hm) fun us n hD rs => ?_)
  exact method_at PySem.F.plainAttrs_list PySem.F.slot_list_append PySem.F.type_list_append hD rfl rfl (k h tk S)
theorem Reals.snoc {vs : List AV} {us : List Value} {v : AV} {u : Value} (r : Reals vs us) (r' : Real v u) : Reals (vs ++ [v]) (us ++ [u]) := by
  induction r with
  | nil => exact .cons r' .nil
  | cons r _ ih => exact .cons r ih
theorem Bw.append {D : Addr} {vs : List AV} {v : AV} {l' : AL} (U : Upd D (.list vs) (.list (vs ++ [v])) l l') (hm : (D, AO.list vs) ∈ l) (hz : vs.length ≤ 10000) : Bw c E m (.builtin "list.append") [.ref D, v] l (Is .none l') := fun Q h tk us S r k => by
  obtain _ | ⟨rfl, _ | ⟨rv, _ | _⟩⟩ := r
  rename_i u
  (refine El.eeaxx (S.list hm) fun us n hD rs => ?_)
  refine G_any c.hΓ (append_at (hsz := by rw [List.size_toArray, rs.length, sizeLine_eq]; omega) hD fun h' hs ho' => k h' tk _ _ _ ⟨rfl, rfl⟩ (S.setList U hs (rs.snoc rv) (k := n + 1) ?_) rfl)
  rw [← List.push_toArray]; exact ho'
end
end Mine

end
section
open PySem PySem.W PySem.Spec PySem.Calls PyProof.Rows
namespace Mine
set_option maxRecDepth 100000
set_option linter.unusedVariables false
noncomputable def putF (x : Str) (v : AV) : List (Str × AV) → List (Str × AV)
  | [] => [(x, v)]
  | (y, u) :: r => if y == x then (y, v) :: r else (y, u) :: putF x v r
theorem putF_len (x : Str) (v : AV) : ∀ fs : List (Str × AV), (putF x v fs).length ≤ fs.length + 1
  | [] => Nat.le_refl _
  | (y, u) :: r => by
    unfold putF
    split
    · simp
    · have := putF_len x v r; simp only [List.length_cons]; omega
section
variable {w : World}
theorem RealD.length {fs : List (Str × AV)} {es : List DictEntry} (R : RealD w fs es) : es.length = fs.length := by
  induction R with
  | nil => rfl
  | cons _ _ _ ih => simp only [List.length_cons, ih]
theorem RealD.hit {fs : List (Str × AV)} {es : List DictEntry} (R : RealD w fs es) : ∀ {x : Str} {a : AV}, fs.lookup x = some a → ∃ v, getL x es = some (some v) ∧ Real a v := by
  induction R with
  | nil => intro x a h; cases h
  | @cons y b fs es v t r _ ih =>
    intro x a h
    rw [List.lookup_cons] at h
    have hs : (Value.str y t).isStr x = (y == x) := rfl
    unfold getL
    rw [List.find?_cons]
    by_cases e : x = y
    · subst e
      rw [beq_self_eq_true] at h
      cases h
      have : (Value.str x t).isStr x = true := by rw [hs, beq_self_eq_true]
      simp only [this]
      exact ⟨v, rfl, r⟩
    · rw [beq_eq_false_iff_ne.mpr e] at h
      have : (Value.str y t).isStr x = false := by rw [hs, beq_eq_false_iff_ne.mpr (Ne.symm e)]
      simp only [this]
      (refine El.eaxx (ih h) fun v' h' r' => ?_)
      refine ⟨v', ?_, r'⟩
      unfold getL at h'
      split at h'
      · rename_i z hz; rw [hz]; exact h'
      · split at h' <;> cases h'
theorem RealD.noRef {fs : List (Str × AV)} {es : List DictEntry} (R : RealD w fs es) : es.any (·.refKey) = false := by
  induction R with
  | nil => rfl
  | cons t r _ ih => rw [List.any_cons, ih]; rfl
theorem RealD.isSome {fs : List (Str × AV)} {es : List DictEntry} (R : RealD w fs es) (x : Str) : (getL x es).isSome = true := by
  unfold getL
  split
  · rfl
  · rw [R.noRef]; rfl
theorem RealD.miss {fs : List (Str × AV)} {es : List DictEntry} (R : RealD w fs es) : ∀ {x : Str}, fs.lookup x = Option.none → getL x es = Option.some Option.none := by
  intro x h
  have hf : es.find? (·.key.isStr x) = none := by
    induction R with
    | nil => rfl
    | @cons y b fs es v t r _ ih =>
      rw [List.lookup_cons] at h
      have hs : (Value.str y t).isStr x = (y == x) := rfl
      rw [List.find?_cons]
      by_cases e : x = y
      · subst e; rw [beq_self_eq_true] at h; cases h
      · rw [beq_eq_false_iff_ne.mpr e] at h
        have : (Value.str y t).isStr x = false := by rw [hs, beq_eq_false_iff_ne.mpr (Ne.symm e)]
        simp only [this]
        exact ih h
  unfold getL
  rw [hf, R.noRef]
  rfl
theorem RealD.put {fs : List (Str × AV)} {es : List DictEntry} (R : RealD w fs es) (x : Str) (t : Tok) {a : AV} {v : Value} (r : Real a v) : RealD w (putF x a fs) (putL x (PyData.keyHash w.params x) (.str x t) v es) := by
  induction R with
  | nil => exact .cons t r .nil
  | @cons y b fs es u t' r' R' ih =>
    unfold putF putL
    have hs : (Value.str y t').isStr x = (y == x) := rfl
    simp only [hs]
    by_cases e : y = x
    · rw [beq_iff_eq.mpr e]
      exact .cons t' r R'
    · rw [beq_eq_false_iff_ne.mpr e]
      exact .cons t' r' ih
theorem RealL.instM {l : AL} {ns : List (Addr × Obj)} (R : RealL w l ns) : ∀ {I C : Addr} {fs : List (Str × AV)}, (I, AO.inst C fs) ∈ l → ∃ (d : Addr) (es : List DictEntry) (n : Nat), (I, instObj C d) ∈ ns ∧ (d, dictOf es n) ∈ ns ∧ RealD w fs es := by
  induction R with
  | nil => intro I C fs h; cases h
  | inst n r _ ih =>
    intro I C fs h
    rcases List.mem_cons.mp h with e | h
    · cases e; exact ⟨_, _, n, .head _, .tail _ (.head _), r⟩
    · (refine El.eeeaxaxx (ih h) fun d es k a b z => ?_); exact ⟨d, es, k, .tail _ (.tail _ a), .tail _ (.tail _ b), z⟩
  | list n r _ ih =>
    intro I C fs h
    rcases List.mem_cons.mp h with e | h
    · cases e
    · (refine El.eeeaxaxx (ih h) fun d es k a b z => ?_); exact ⟨d, es, k, .tail _ a, .tail _ b, z⟩
  | tup r _ ih =>
    intro I C fs h
    rcases List.mem_cons.mp h with e | h
    · cases e
    · (refine El.eeeaxaxx (ih h) fun d es k a b z => ?_); exact ⟨d, es, k, .tail _ a, .tail _ b, z⟩
  | cell r _ _ ih =>
    intro I C fs h
    rcases List.mem_cons.mp h with e | h
    · cases e
    · (refine El.eeeaxaxx (ih h) fun d es k a b z => ?_); exact ⟨d, es, k, .tail _ a, .tail _ b, z⟩
  | raw _ ih =>
    intro I C fs h
    rcases List.mem_cons.mp h with e | h
    · cases e
    · (refine El.eeeaxaxx (ih h) fun d es k a b z => ?_); exact ⟨d, es, k, .tail _ a, .tail _ b, z⟩
end
noncomputable def AV.handed : AV → Bool
  | .raw v => handedIn v
  | _ => true
theorem Real.handed {a : AV} {v : Value} (r : Real a v) (h : a.handed = true) : handedIn v = true := by
  cases a with
  | int n => (refine El.ex (r) fun t zz1 => ?_; try clear r; (first | subst zz1 | cases zz1)); rfl
  | str x => (refine El.ex (r) fun t zz1 => ?_; try clear r; (first | subst zz1 | cases zz1)); rfl
  | bytes ks => (refine El.eeaxx (r) fun b t zz1 zz2 => ?_; try clear r; (first | subst zz1 | cases zz1)); rfl
  | raw u => cases r; exact h
section
variable {w : World} {K : Frag} {F : Fn} {n : Nat} {b : Bool} {c : Cx w K F n b} {E : Value → Shared → Prop} {m : AM} {l : AL}
theorem cls_any {C : Addr} (h : clsTab.any (fun p => p.1 == C) = true) : ∃ fi, (C, fi) ∈ clsTab := by
  (refine El.eaxx (List.any_eq_true.mp h) fun zz1 hm e => ?_; obtain ⟨a, fi⟩ := zz1)
  rw [beq_iff_eq] at e
  exact ⟨fi, e ▸ hm⟩
theorem St.attr (H : KOk K) {h : Heap} {tk : Nat} {I C fi : Addr} {x : Str} {fs : List (Str × AV)} {v : AV} {ex : Bool} {Q : Value → Shared → Prop} (S : St c h m l) (hm : (I, AO.inst C fs) ∈ l) (hC : (C, fi) ∈ clsTab) (hx : (C, x) ∈ attrTab) (hv : fs.lookup x = some v) (hh : v.handed = true)
    (k : ∀ u, Real v u → Q u (c.at h (tk + 1))) : wpAny (model prog w) c.A (getAttr (.ref I) x ex) Q E (c.at h tk) := by
  obtain ⟨mm, news, Fr, M, N, RL, nd⟩ := S
  (refine El.eeeaxaxx (RL.instM hm) fun d es n h1 h2 R => ?_)
  (refine El.eaxx (R.hit hv) fun u hu r => ?_)
  have O := H.cls _ hC
  exact get_own (s := c.at h tk) Fr c.X (InstAt.of_news N h1 h2) O.get O.dict (H.attrs _ hx) rfl hu (r.handed hh) (k u r)
noncomputable def isCallE : PySem.Expr → Bool
  | .Call .. => true
  | _ => false
theorem base_plain {o : PySem.Expr} {x : Str} {env : Env} {t : Sem Value} (h : isCallE o = false) : attributeBase o x env t = t := by
  cases o <;> first | rfl | cases h
theorem G_Attribute {Γ : PySem.Ctx} {A : Around} {s : Shared} {env : Env} {o : PySem.Expr} {x : Str} {pos : Pos} {Q : Value → Shared → Prop} (hΓ : Γ.In A)
    (h : G (model prog w) Γ (eval o env) (fun ov s₁ => G (model prog w) Γ (getAttr ov x true) Q E s₁) E s) (ho : isCallE o = false) : G (model prog w) Γ (eval (.Attribute o x pos) env) Q E s := by
  rw [arm_eval_Attribute, base_plain ho]
  exact G_bind (G_mono h (fun ov s₁ h₁ => G_bind (G_standAt (G_bind (G_holding (G_mono h₁ (fun r s₂ h₂ => G_bind (G_any hΓ (wpAny_letTemporaryGo (G_pure h₂)))) fun _ _ x => x))))) fun _ _ x => x)
theorem Ev.attr (H : KOk K) {o : PySem.Expr} {x : Str} {pos : Pos} {I : Addr} {C : Addr} {fs : List (Str × AV)} {v : AV} (ho : Ev c E m l o (.ref I)) (hm : (I, AO.inst C fs) ∈ l) (hC : (clsTab.any (fun p => p.1 == C) && attrTab.contains (C, x) && v.handed && !isCallE o) = true) (hv : fs.lookup x = some v) :
    Ev c E m l (.Attribute o x pos) v := fun Q h tk S k => by
  simp only [Bool.and_eq_true, List.contains_iff_mem, Bool.not_eq_true'] at hC
  (refine El.ex (cls_any hC.1.1.1) fun fi hfi => ?_)
  refine G_Attribute c.hΓ (ho _ h tk S fun h' tk' u S' r => ?_) hC.2
  cases r
  exact G_any c.hΓ (S'.attr H hm hfi hC.1.1.2 hv hC.1.2 fun u r => k h' _ u S' r)
theorem RealL.instS {I C : Addr} {fs fs' : List (Str × AV)} {l l' : AL} {ns : List (Addr × Obj)} (U : Mine.Upd I (.inst C fs) (.inst C fs') l l') (R : RealL w l ns) (nd : (ns.map (·.1)).Nodup) :
    ∃ (d : Addr) (es : List DictEntry) (n : Nat), (I, instObj C d) ∈ ns ∧ (d, dictOf es n) ∈ ns ∧ RealD w fs es ∧ ∀ es' n', RealD w fs' es' → ∃ ns', PySem.W.Upd d (dictOf es n) (dictOf es' n') ns ns' ∧ RealL w l' ns' ∧ ns'.map (·.1) = ns.map (·.1) := by
  (refine El.eeeaxaxx (RealL.split U R) fun n1 n0 n2 zz1 h0 h1 => ?_; (first | subst zz1 | cases zz1))
  obtain _ | _ | _ | ⟨n, r, z⟩ | _ | _ := h0
  cases z
  rename_i d es
  have hne : (∀ p ∈ n1 ++ [(I, instObj C d)], p.1 ≠ d) ∧ ∀ p ∈ n2, p.1 ≠ d := by
    simp only [List.map_append, List.map_cons, List.map_nil, List.cons_append, List.nil_append] at nd
    have nd2 := List.nodup_append.mp nd
    have nd3 := List.nodup_cons.mp nd2.2.1
    have nd4 := List.nodup_cons.mp nd3.2
    refine ⟨fun p hp => ?_, fun p hp q => nd4.1 (q ▸ List.mem_map_of_mem hp)⟩
    rcases List.mem_append.mp hp with hp | hp
    · exact nd2.2.2 _ (List.mem_map_of_mem hp) _ (.tail _ (.head _))
    · rw [List.mem_singleton.mp hp]; exact fun q => nd3.1 (q ▸ .head _)
  refine ⟨d, es, n, by simp, by simp, r, fun es' n' r' => ⟨n1 ++ ([(I, instObj C d), (d, dictOf es' n')] ++ n2), ?_, h1 _ (.inst n' r' .nil), by simp⟩⟩
  have up : ∀ pre : List (Addr × Obj), (∀ p ∈ pre, p.1 ≠ d) → PySem.W.Upd d (dictOf es n) (dictOf es' n') (pre ++ ((d, dictOf es n) :: n2)) (pre ++ ((d, dictOf es' n') :: n2)) := by
    intro pre hp
    induction pre with
    | nil => exact .head hne.2
    | cons q pre ih => exact .tail (hp q (.head _)) (ih fun p h => hp p (.tail _ h))
  have := up _ hne.1
  simpa only [List.append_assoc, List.cons_append, List.nil_append] using this
theorem St.setattr (H : KOk K) {h : Heap} {tk : Nat} {I C fi : Addr} {x : Str} {fs : List (Str × AV)} {v : AV} {u : Value} {l' : AL} {Q : Unit → Shared → Prop} (S : St c h m l) (U : Mine.Upd I (.inst C fs) (.inst C (putF x v fs)) l l') (hC : (C, fi) ∈ clsTab) (hx : (C, x) ∈ attrTab) (r : Real v u)
    (hz : fs.length ≤ 100) (k : ∀ h' tk', St c h' m l' → Q () (c.at h' tk')) : wpAny (model prog w) c.A (setAttr (.ref I) x u) Q E (c.at h tk) := by
  obtain ⟨mm, news, Fr, M, N, RL, nd⟩ := S
  (refine El.eeeaxaxaxx (RL.instS U nd) fun d es n h1 h2 R up => ?_)
  have O := H.cls _ hC
  have R' := R.put x (tk + 1) r
  (refine El.eaxaxx (up _ (putN x es n) R') fun ns' U' RL' e => ?_)
  refine set_dict (s := c.at h tk) Fr c.X N (InstAt.of_news N h1 h2) rfl O.set O.plain (by unfold takerIn; rw [H.attrs _ hx]; rfl) O.dict (R.isSome x) rfl U' ?_ fun h' F' N' => k h' _ ⟨mm, ns', F', M, N', RL', e ▸ nd⟩
  exact Nat.le_trans (Nat.le_of_eq R'.length) (by have := putF_len x v fs; omega)
theorem G_Assign_Attribute {Γ : PySem.Ctx} {A : Around} {s : Shared} {env : Env} {o value : PySem.Expr} {x : Str} {pos' pos : Pos} {Q : Flow → Shared → Prop}
    (h : G (model prog w) Γ (eval value env) (fun v s₁ => G (model prog w) Γ (assign (.Attribute o x pos') env v) (fun _ => Q .next) E s₁) E s) (hs : swapsWith value (some (.Attribute o x pos')) pos.line env = pure false) : G (model prog w) Γ (exec (.Assign [.Attribute o x pos'] value pos) env) Q E s := by
  rw [plainObj_exec_Assign_Attribute o x pos' value pos hs]
  exact G_bind (G_standAt (G_bind (G_mono h (fun v s₁ h₁ => G_bind (G_mono h₁ (fun _ s₂ h₂ => G_pure h₂) fun _ _ x => x)) fun _ _ x => x)))
theorem G_assign_Attribute {Γ : PySem.Ctx} {s : Shared} {env : Env} {o : PySem.Expr} {x : Str} {pos : Pos} {v : Value} {Q : Unit → Shared → Prop} {A : Around} (hΓ : Γ.In A)
    (h : G (model prog w) Γ (eval o env) (fun ov s₁ => G (model prog w) Γ (setAttr ov x v) Q E s₁) E s) : G (model prog w) Γ (assign (.Attribute o x pos) env v) Q E s := by
  rw [assign_Attribute]
  exact G_bind (G_holding (G_mono h (fun ov s₁ h₁ => G_bind (G_standAt (G_bind (G_holding (G_mono h₁ (fun _ s₂ h₂ => G_any hΓ (wpAny_release h₂)) fun _ _ x => x))))) fun _ _ x => x))
theorem Asgs.attr (H : KOk K) {o : PySem.Expr} {x : Str} {p : Pos} {elts : List PySem.Expr} {v : AV} {vs : List AV} {m' : AM} {l1 l' : AL} {I : Addr} {C : Addr} {fs : List (Str × AV)} (ho : Ev c E m l o (.ref I)) (U : Mine.Upd I (.inst C fs) (.inst C (putF x v fs)) l l1) (hC : (clsTab.any (fun p => p.1 == C) && attrTab.contains (C, x)) = true) (hz : Nat.ble fs.length 100 = true)
    (k : Asgs c E m l1 elts vs m' l') : Asgs c E m l (.Attribute o x p :: elts) (v :: vs) m' l' := fun Q h tk us S r kk => by
  obtain _ | ⟨r, rs⟩ := r
  simp only [Bool.and_eq_true, List.contains_iff_mem] at hC
  (refine El.ex (cls_any hC.1) fun fi hfi => ?_)
  refine G_assignInOrder_cons (G_assign_Attribute c.hΓ (ho _ h tk S fun h' tk' u S' r' => ?_))
  cases r'
  exact G_any c.hΓ (S'.setattr H U hfi hC.2 r (Nat.le_of_ble_eq_true hz) fun h'' tk'' S'' => k Q h'' tk'' _ S'' rs kk)
theorem Wb.setattr (H : KOk K) {o value : PySem.Expr} {x : Str} {pos' pos : Pos} {rest : List Stmt} {I : Addr} {C : Addr} {fs : List (Str × AV)} {v : AV} {l' : AL} {P : Fl → AM → AL → Prop} (hv : Ev c E m l value v) (ho : Ev c E m l o (.ref I)) (U : Mine.Upd I (.inst C fs) (.inst C (putF x v fs)) l l')
    (hC : (clsTab.any (fun p => p.1 == C) && attrTab.contains (C, x) && !isComp value) = true) (hz : Nat.ble fs.length 100 = true) (k : Wb c E m l' rest P) : Wb c E m l (.Assign [.Attribute o x pos'] value pos :: rest) P := Wb.cons fun Q h tk S kk => by
  simp only [Bool.and_eq_true, List.contains_iff_mem, Bool.not_eq_true'] at hC
  (refine El.ex (cls_any hC.1.1) fun fi hfi => ?_)
  refine G_Assign_Attribute (A := c.A) (hv _ h tk S fun h' tk' u S' r => G_assign_Attribute c.hΓ (ho _ h' tk' S' fun h2 tk2 u' S2 r' => ?_)) (swaps_plain hC.2)
  cases r'
  exact G_any c.hΓ (S2.setattr H U hfi hC.1.2 r (Nat.le_of_ble_eq_true hz) fun h3 tk3 S3 => kk .next .next _ _ h3 tk3 k S3 rfl)
theorem G_operateT {M : Model} {Γ : PySem.Ctx} {s : Shared} {vs : List Value} {t : Sem Value} {Q : Value → Shared → Prop} (h : G M Γ t Q E s) : G M Γ (operate vs t) Q E s := fun p => by rw [Sem.wp_operate]; exact h p
theorem G_AugAssign_Attribute {Γ : PySem.Ctx} {A : Around} {s : Shared} {env : Env} {o value : PySem.Expr} {x : Str} {op : Operator} {tpos pos : Pos} {Q : Flow → Shared → Prop} (hΓ : Γ.In A)
    (h : G (model prog w) Γ (eval o env) (fun ov s₁ => G (model prog w) Γ (getAttr ov x true) (fun old s₂ => G (model prog w) Γ (eval value env) (fun v s₃ => G (model prog w) Γ (inplaceOp op old v) (fun new s₄ =>
      G (model prog w) Γ (setAttr ov x new) (fun _ => Q .next) E s₄) E s₃) E s₂) E s₁) E s) : G (model prog w) Γ (exec (.AugAssign (.Attribute o x tpos) op value pos) env) Q E s := by
  rw [arm_exec_AugAssign_2]
  refine G_bind (G_standAt (G_bind (G_mono h (fun ov s₁ h₁ => ?_) fun _ _ x => x)))
  refine G_bind (G_holding (G_bind (G_standAt (G_bind (G_mono h₁ (fun old s₂ h₂ => ?_) fun _ _ x => x)))))
  refine G_bind (G_holding (G_mono h₂ (fun v s₃ h₃ => ?_) fun _ _ x => x))
  refine G_bind (G_standAt (G_operateT (G_mono h₃ (fun new s₄ h₄ => ?_) fun _ _ x => x)))
  exact G_bind (G_standAt (G_bind (G_holding (G_mono h₄ (fun _ _ h₅ => G_bind (G_any hΓ (wpAny_release (G_pure h₅)))) fun _ _ x => x))))
theorem Wb.addattr (H : KOk K) {o value : PySem.Expr} {x : Str} {tpos pos : Pos} {rest : List Stmt} {I : Addr} {C : Addr} {fs : List (Str × AV)} {i j : Int} {l' : AL} {P : Fl → AM → AL → Prop} (ho : Ev c E m l o (.ref I)) (hm : (I, AO.inst C fs) ∈ l) (hi : fs.lookup x = some (.int i)) (hv : Ev c E m l value (.int j))
    (U : Mine.Upd I (.inst C fs) (.inst C (putF x (.int (i + j)) fs)) l l') (hC : (clsTab.any (fun p => p.1 == C) && attrTab.contains (C, x)) = true) (hz : Nat.ble fs.length 100 = true) (k : Wb c E m l' rest P) : Wb c E m l (.AugAssign (.Attribute o x tpos) .Add value pos :: rest) P := Wb.cons fun Q h tk S kk => by
  simp only [Bool.and_eq_true, List.contains_iff_mem] at hC
  (refine El.ex (cls_any hC.1) fun fi hfi => ?_)
  refine G_AugAssign_Attribute c.hΓ (ho _ h tk S fun h' tk' u S' r => ?_)
  cases r
  refine G_any c.hΓ (S'.attr H hm hfi hC.2 hi rfl fun u1 r1 => hv _ h' _ S' fun h2 tk2 u2 S2 r2 => ?_)
  (refine El.ex (r1) fun t1 zz1 => ?_; try clear r1; (first | subst zz1 | cases zz1))
  (refine El.ex (r2) fun t2 zz1 => ?_; try clear r2; (first | subst zz1 | cases zz1))
  refine G_any c.hΓ (wpAny_iadd_int (G_any c.hΓ (S2.setattr H U hfi hC.2 ⟨_, rfl⟩ (Nat.le_of_ble_eq_true hz) fun h3 tk3 S3 => kk .next .next _ _ h3 tk3 k S3 rfl)))
theorem Mt.inst (H : KOk K) {I : Addr} {C : Addr} (f : Addr) {fs : List (Str × AV)} {x : Str} (hm : (I, AO.inst C fs) ∈ l) (hC : (clsTab.any (fun p => p.1 == C) && mthTab.contains (C, x, f)) = true) (hx : fs.lookup x = none) : Mt c E m l (.ref I) x (.ref f) := fun pl Q h tk u S r k => by
  cases r
  simp only [Bool.and_eq_true, List.contains_iff_mem] at hC
  (refine El.ex (cls_any hC.1) fun fi hfi => ?_)
  have S' := S
  obtain ⟨mm, news, Fr, M, N, RL, nd⟩ := S
  (refine El.eeeaxaxx (RL.instM hm) fun d es n h1 h2 R => ?_)
  have O := H.cls _ hfi
  (refine El.axaxx (H.mths _ hC.2) fun a1 a2 a3 => ?_)
  exact method_inst (s := c.at h tk) Fr c.X (InstAt.of_news N h1 h2) O.get a1 a2 (R.miss hx) (k h tk S')
noncomputable def Ci (w : World) (K : Frag) (F : Fn) (d : Nat) (C : Addr) (body : List Stmt) (xs : List Str) (vs : List AV) (l : AL) (R : AV → AL → Prop) : Prop :=
  ∀ (I : Addr) (c : Cx w K F d false) (E : Value → Shared → Prop), Wb c E (xs.zip (.ref I :: vs)) ((I, .inst C []) :: l) body fun f m' l' => (match f with | .next => True | .ret v => v = .none | _ => False) ∧ R (.ref I) l'
theorem Bw.make (H : KOk K) {F' : Fn} {name : Str} {params : Arguments} {body : List Stmt} {xs : List Str} {d : Nat} {C : Addr} {vs : List AV} {R : AV → AL → Prop} (hC : (C, F'.addr) ∈ clsTab) (hF : FnIn K F' name params body) (hB : Binds F' name params body xs) (hp : plainFn F' xs = true) (hlen : vs.length + 1 = xs.length) (hd : d + 2 ≤ n)
    (hc : Ci w K F' d C body xs vs l R) : Bw c E m (.ref C) vs l R := fun Q h tk us S hr k => by
  have S0 := S
  obtain ⟨mm, news, Fr₀, M, N, RL, nd⟩ := S
  have hdp := c.hdp
  have hun := c.hun
  have O : ClsOk K C F'.addr := H.cls _ hC
  have hroom : (c.A.under (.builtin "type.__call__" ⟨.ref C :: us, []⟩)).depth < recursionLimit := by rw [depth_under_kw]; show c.dp + 1 < recursionLimit; omega
  (refine El.aeeeeeeexx (hF) fun doc pm an ct oc od osl hlk hcd => ?_; try clear hF)
  simp only [plainFn, Bool.and_eq_true, List.all_eq_true, decide_eq_true_eq, Bool.not_eq_true'] at hp
  (refine El.aaaaaxxxxxx (hp) fun hloc hkind hco hgen hcell hnd => ?_; try clear hp)
  refine G_any c.hΓ (call_cls (s := c.at h tk) Fr₀ c.X N O.makes O.init O.fn fun I dx h₁ F₁ N₁ hlt hlt' => ?_)
  have hul : (Value.ref I :: us).length = xs.length := by rw [List.length_cons, hr.length, hlen]
  have nd₁ : (((I, instObj C dx) :: (dx, dictOf [] 0) :: news).map (·.1)).Nodup := by
    rw [List.map_cons, List.map_cons]
    refine List.nodup_cons.mpr ⟨fun hh => ?_, List.nodup_cons.mpr ⟨fun hh => ?_, nd⟩⟩
    · rcases List.mem_cons.mp hh with e | hh
      · exact Nat.ne_of_gt hlt' e
      · (refine El.eaxx (List.mem_map.mp hh) fun p hp e => ?_); exact Nat.ne_of_lt (Nat.lt_trans (hlt p hp) hlt') e
    · (refine El.eaxx (List.mem_map.mp hh) fun p hp e => ?_); exact Nat.ne_of_lt (hlt p hp) e
  refine code_def (binds := xs.zip (.ref I :: us)) c.B F₁ c.X N₁ c.T rfl rfl c.kind hlk hcd hroom (BindsTo.of_eq (hB _ _ _ _ _ hul)) (fun y hy => hloc _ (List.of_mem_zip hy).1) (fun g L' h₂ F₂ F₃ N' B' X' T' Γ' p hΓ' => ?_) hco hgen hkind (fun x hx => by simpa using hcell x hx)
  refine hc I ⟨Γ', c.dp + 1 + 1, c.un + 1 + 3, c.gd, [], c.env :: c.outer, _, c.base, g, L', c.s, c.p, c.loose, c.mean, c.mg, c.mb, hΓ', (fun z => nomatch z), B', X', T', hkind, by omega, by omega⟩ _ _ h₂ _ ⟨_, _, F₃, fun x v hx => ?_, N', .inst 0 .nil RL, nd₁⟩ (fun f f' m' l' h' tk' hP S' hf => ?_) p
  · (refine El.eaxx (zip_lookup (us := .ref I :: us) (.cons (a := .ref I) rfl hr) x v hx) fun u hu r => ?_)
    exact ⟨u, rev_lookup (zip_fst_nodup hnd) hu, r⟩
  · obtain ⟨mm', news', F', M', N'', RL', nd'⟩ := S'
    refine ⟨L', mm', news', F', N'', fun F₄ N₄ => ?_⟩
    have S₄ : St c h' m l' := ⟨mm, news', F₄, M, N₄, RL', nd'⟩
    (refine El.axx (hP) fun hP1 hP2 => ?_; try clear hP)
    cases f with
    | next => cases hf; exact ⟨rfl, k h' tk' _ _ l' hP2 S₄ rfl⟩
    | ret v => (refine El.eaxx (hf) fun u zz1 r => ?_; try clear hf; (first | subst zz1 | cases zz1)); cases hP1; cases r; exact ⟨rfl, k h' tk' _ _ l' hP2 S₄ rfl⟩
    | brk => exact hP1.elim
    | cont => exact hP1.elim
end
end Mine

end
section
open PySem PySem.W PySem.Spec PySem.Calls PyProof.Rows
namespace Mine
set_option maxRecDepth 100000
set_option linter.unusedVariables false
section
variable {w : World} {K : Frag} {F : Fn} {n : Nat} {b : Bool} {c : Cx w K F n b} {E : Value → Shared → Prop} {m : AM} {l : AL}
noncomputable def Cp (c : Cx w K F n b) (E : Value → Shared → Prop) (m : AM) (l : AL) (op : CmpOp) (x y : AV) (p : Prop) : Prop := ∀ (Q : Value → Shared → Prop) (h : Heap) (tk : Nat) (u u' : Value), St c h m l → Real x u → Real y u' →
  (∀ h' tk', St c h' m l → (p → Q (.bool true) (c.at h' tk')) ∧ (¬ p → Q (.bool false) (c.at h' tk'))) → wpAny (model prog w) c.A (compareOp op u u') Q E (c.at h tk)
theorem Cop.p {op : CmpOp} {x y : AV} {p : Prop} (H : Cop op x y p) : Cp c E m l op x y p := fun Q h tk u u' S r r' k => H r r' fun t => k h t S
theorem Te.cmpX {op : CmpOp} {e1 e2 : PySem.Expr} {pos : Pos} {x : AV} {R : AV → AL → Prop} {p : Prop} (h1 : Ev c E m l e1 x) (h2 : Ex c E m l e2 R) (ho : ∀ y l', R y l' → Pick l l' ∧ Cp c E m l' op x y p) (hm : behindInMarks op e2 = false) :
    Te c E m l (.Compare e1 [op] [e2] pos) p := fun Q h tk S k =>
  G_isTrue_Compare (h1 _ h tk S fun h' tk' u S' r => h2 _ h' tk' S' fun h'' tk'' u' y l' hR S'' r' => by
    (refine El.axx (ho y l' hR) fun hp hc => ?_)
    exact G_any c.hΓ (hc _ h'' tk'' u u' S'' r r' fun h3 t S3 =>
      ⟨fun hp' => G_any c.hΓ (wpAny_truthy_bool ((k h3 t (S3.pick hp)).1 hp')), fun hp' => G_any c.hΓ (wpAny_truthy_bool ((k h3 t (S3.pick hp)).2 hp'))⟩)) hm
theorem Te.cmpP {op : CmpOp} {e1 e2 : PySem.Expr} {pos : Pos} {x y : AV} {p : Prop} (h1 : Ev c E m l e1 x) (h2 : Ev c E m l e2 y) (ho : Cp c E m l op x y p) (hm : behindInMarks op e2 = false) : Te c E m l (.Compare e1 [op] [e2] pos) p :=
  Te.cmpX h1 h2.x (fun _ _ h => by (refine El.axx (h) fun zz1 zz2 => ?_; try clear h; (first | subst zz1 | cases zz1); (first | subst zz2 | cases zz2)); exact ⟨.refl, ho⟩) hm
theorem G_Compare {M : Model} {Γ : PySem.Ctx} {s : Shared} {env : Env} {e1 e2 : PySem.Expr} {op : CmpOp} {pos : Pos} {Q : Value → Shared → Prop}
    (h : G M Γ (eval e1 env) (fun a s₁ => G M Γ (eval e2 env) (fun b s₂ => G M Γ (compareOp op a b) Q E s₂) E s₁) E s) (hm : behindInMarks op e2 = false) : G M Γ (eval (.Compare e1 [op] [e2] pos) env) Q E s := by
  rw [arm_eval_Compare]
  refine G_bind (G_mono h (fun a s₁ h₁ => ?_) fun _ _ x => x)
  have : markedEach [op] [e2] (evalEach [e2] env) = [eval e2 env] := markedEach_of_false _ _ _ (by simpa [lastMarks] using hm)
  rw [this]
  show G M Γ (do let rv ← holding [a] (eval e2 env); standAt pos; operate [a, rv] (compareOp op a rv)) Q E s₁
  exact G_bind (G_holding (G_mono h₁ (fun b s₂ h₂ => G_bind (G_standAt (G_operateT h₂))) fun _ _ x => x))
theorem Ev.cmp {op : CmpOp} {e1 e2 : PySem.Expr} {pos : Pos} {x y : AV} {p : Prop} [Decidable p] (h1 : Ev c E m l e1 x) (h2 : Ev c E m l e2 y) (ho : Cop op x y p) (hm : behindInMarks op e2 = false) : Ev c E m l (.Compare e1 [op] [e2] pos) (.bool (decide p)) := fun Q h tk S k =>
  G_Compare (h1 _ h tk S fun h' tk' u S' r => h2 _ h' tk' S' fun h'' tk'' u' S'' r' => G_any c.hΓ (ho r r' fun t =>
    ⟨fun hp => by rw [decide_eq_true hp] at k; exact k h'' t _ S'' rfl, fun hp => by rw [decide_eq_false hp] at k; exact k h'' t _ S'' rfl⟩)) hm
theorem G_chain2 {M : Model} {Γ : PySem.Ctx} {s : Shared} {env : Env} {e1 e2 e3 : PySem.Expr} {op op' : CmpOp} {pos : Pos} {whole : Sem Value} {Q : Bool → Shared → Prop} {A : Around} (hΓ : Γ.In A)
    (h : G M Γ (eval e1 env) (fun a s₁ => G M Γ (eval e2 env) (fun b s₂ => G M Γ (compareOp op a b) (fun v s₃ => G M Γ (truthy v) (fun t s₄ => if t then G M Γ (eval e3 env) (fun d s₅ => G M Γ (compareOp op' b d) (fun v' s₆ => G M Γ (truthy v') Q E s₆) E s₅) E s₄ else Q false s₄) E s₃) E s₂) E s₁) E s)
    (hm : behindInMarks op' e3 = false) : G M Γ (isTrue (.Compare e1 [op, op'] [e2, e3] pos) env whole) Q E s := by
  rw [arm_isTrue_Compare]
  refine G_bind (G_mono h (fun a s₁ h₁ => ?_) fun _ _ x => x)
  have : markedEach [op, op'] [e2, e3] (evalEach [e2, e3] env) = [eval e2 env, eval e3 env] := markedEach_of_false _ _ _ (by simpa [lastMarks] using hm)
  rw [this]
  show G M Γ (do
    let rv ← holding [a] (eval e2 env)
    standAt pos
    let v ← holding [a, rv] (compareOp op a rv)
    release [a, rv] [v]
    if ← holding [v, rv] (truthy v) then (do
      let rv' ← holding [rv] (eval e3 env)
      standAt pos
      let v' ← operate [rv, rv'] (compareOp op' rv rv')
      holding [v'] (truthy v')) else pure false) Q E s₁
  refine G_bind (G_holding (G_mono h₁ (fun b s₂ h₂ => G_bind (G_standAt (G_bind (G_holding (G_mono h₂ (fun v s₃ h₃ => G_bind (G_any hΓ (wpAny_release (G_bind (G_holding (G_mono h₃ (fun t s₄ h₄ => ?_) fun _ _ x => x)))))) fun _ _ x => x))))) fun _ _ x => x))
  cases t with
  | false => exact G_pure h₄
  | true => exact G_bind (G_holding (G_mono h₄ (fun d s₅ h₅ => G_bind (G_standAt (G_bind (G_operateT (G_mono h₅ (fun v' s₆ h₆ => G_holding h₆) fun _ _ x => x))))) fun _ _ x => x))
theorem Te.chain2 {op op' : CmpOp} {e1 e2 e3 : PySem.Expr} {pos : Pos} {x y z : AV} {p q : Prop} (h1 : Ev c E m l e1 x) (h2 : Ev c E m l e2 y) (ho : Cop op x y p) (h3 : p → Ev c E m l e3 z) (ho' : Cop op' y z q) (hm : behindInMarks op' e3 = false) :
    Te c E m l (.Compare e1 [op, op'] [e2, e3] pos) (p ∧ q) := fun Q h tk S k =>
  G_chain2 c.hΓ (h1 _ h tk S fun h' tk' u S' r => h2 _ h' tk' S' fun h'' tk'' u' S'' r' => G_any c.hΓ (ho r r' fun t =>
    ⟨fun hp => G_any c.hΓ (wpAny_truthy_bool (by rw [if_pos rfl]; exact h3 hp _ h'' t S'' fun h4 t4 u4 S4 r4 => G_any c.hΓ (ho' r' r4 fun t5 =>
        ⟨fun hq => G_any c.hΓ (wpAny_truthy_bool ((k h4 t5 S4).1 ⟨hp, hq⟩)), fun hq => G_any c.hΓ (wpAny_truthy_bool ((k h4 t5 S4).2 fun z => hq z.2))⟩))),
     fun hp => G_any c.hΓ (wpAny_truthy_bool (by rw [if_neg (by decide)]; exact (k h'' t S'').2 fun z => hp z.1))⟩)) hm
theorem Ev.and_one {e : PySem.Expr} {pos : Pos} {v : AV} (h : Ev c E m l e v) : Ev c E m l (.BoolOp .And [e] pos) v := h
theorem Ev.and {e e' : PySem.Expr} {rest : List PySem.Expr} {pos : Pos} {x y : Bool} (h1 : Ev c E m l e (.bool x)) (h2 : x = true → Ev c E m l (.BoolOp .And (e' :: rest) pos) (.bool y)) : Ev c E m l (.BoolOp .And (e :: e' :: rest) pos) (.bool (x && y)) := fun Q h tk S k => by
  show G _ _ (do
    let v ← eval e c.env
    standAt pos
    let t ← holding [v] (truthy v)
    match BoolOp.And, t with
    | .And, false | .Or, true => pure v
    | _, _ => boolOp pos .And (evalEach (e' :: rest) c.env)) _ _ _
  refine G_bind (h1 _ h tk S fun h' tk' u S' r => ?_)
  cases r
  refine G_bind (G_standAt (G_bind (G_holding (G_any c.hΓ (wpAny_truthy_bool ?_)))))
  cases x with
  | false => exact G_pure (k h' tk' _ S' rfl)
  | true => exact h2 rfl Q h' tk' S' k
theorem Te.not {e : PySem.Expr} {pos : Pos} {p : Prop} (H : Te c E m l e p) : Te c E m l (.UnaryOp .Not e pos) (¬ p) := fun Q h tk S k => by
  show G _ _ (do return !(← isTrue e c.env (eval e c.env))) _ _ _
  exact G_bind (H _ h tk S fun h' tk' S' => ⟨fun hp => G_pure ((k h' tk' S').2 fun q => q hp), fun hp => G_pure ((k h' tk' S').1 hp)⟩)
noncomputable def plainTest : PySem.Expr → Bool
  | .Call .. => true
  | .Name .. => true
  | _ => false
theorem Te.ofV {e : PySem.Expr} {x : Bool} (h : Ev c E m l e (.bool x)) (hp : plainTest e = true) : Te c E m l e (x = true) := fun Q h0 tk S k => by
  have key : G (model prog w) c.Γ (do let v ← eval e c.env; standAt e.pos; holding [v] (truthy v)) Q E (c.at h0 tk) := G_bind (h _ h0 tk S fun h' tk' u S' r => by
    cases r
    refine G_bind (G_standAt (G_holding (G_any c.hΓ (wpAny_truthy_bool ?_))))
    cases x with
    | true => exact (k h' tk' S').1 rfl
    | false => exact (k h' tk' S').2 fun q => nomatch q)
  cases e <;> first | exact key | cases hp
theorem eqAt_ints {A : Around} {s : Shared} {x : Int} {t : Tok} {ys : List Int} {us : List Value} (r : Reals (ys.map AV.int) us) : ∀ y ∈ us.toArray, SeqAt.EqAt A s y (.int x t) (match y with | .int k _ => k == x | _ => false) := fun y hy => by
  have hy' : y ∈ us := by simpa using hy
  clear hy
  induction ys generalizing us with
  | nil => cases r; cases hy'
  | cons k ys ih =>
    obtain _ | ⟨⟨t', rfl⟩, r⟩ := r
    rcases List.mem_cons.mp hy' with rfl | hy'
    · exact (MeetsSeq.EqGives.int _ _ _ _).at _ _
    · exact ih r hy'
theorem any_ints {x : Int} {ys : List Int} {us : List Value} (r : Reals (ys.map AV.int) us) : us.toArray.any (fun y => match y with | .int k _ => k == x | _ => false) = decide (x ∈ ys) := by
  rw [List.any_toArray]
  induction ys generalizing us with
  | nil => cases r; rfl
  | cons k ys ih =>
    obtain _ | ⟨⟨t', rfl⟩, r⟩ := r
    rw [List.any_cons, ih r]
    by_cases h : k = x
    · subst h; simp
    · have h' : x ≠ k := fun q => h q.symm
      simp [h, h']
theorem Cp.notin75 (H : KOk K) {x : Int} : Cp c E m l .NotIn (.int x) (.ref 75) (x ∉ [1, 2, 4, 8]) := fun Q h tk u u' S r r' k => by
  (refine El.ex (r) fun t zz1 => ?_; try clear r; (first | subst zz1 | cases zz1))
  cases r'
  (refine El.eaxaxx (H.t75 S.in) fun us hD rs zz1 => ?_)
  refine SeqAt.notIn_tupleAt (fun y => match y with | .int k _ => k == x | _ => false) hD (eqAt_ints (ys := [1, 2, 4, 8]) rs) ?_
  rw [any_ints (ys := [1, 2, 4, 8]) rs]
  by_cases hp : x ∈ [1, 2, 4, 8]
  · rw [decide_eq_true hp]; exact (k h tk S).2 fun q => q hp
  · rw [decide_eq_false hp]; exact (k h tk S).1 hp
theorem eqAt_strs {A : Around} {s : Shared} {x : Str} {t : Tok} {ys : List Str} {us : List Value} (r : Reals (ys.map AV.str) us) : ∀ y ∈ us.toArray, SeqAt.EqAt A s y (.str x t) (match y with | .str k _ => k == x | _ => false) := fun y hy => by
  have hy' : y ∈ us := by simpa using hy
  clear hy
  induction ys generalizing us with
  | nil => cases r; cases hy'
  | cons k ys ih =>
    obtain _ | ⟨⟨t', rfl⟩, r⟩ := r
    rcases List.mem_cons.mp hy' with rfl | hy'
    · exact MeetsSeq.EqGives.at (fun _ _ _ _ _ _ h => eqBool_str h) _ _
    · exact ih r hy'
theorem any_strs {x : Str} {ys : List Str} {us : List Value} (r : Reals (ys.map AV.str) us) : us.toArray.any (fun y => match y with | .str k _ => k == x | _ => false) = decide (x ∈ ys) := by
  rw [List.any_toArray]
  induction ys generalizing us with
  | nil => cases r; rfl
  | cons k ys ih =>
    obtain _ | ⟨⟨t', rfl⟩, r⟩ := r
    rw [List.any_cons, ih r]
    by_cases h : k = x
    · subst h; simp
    · have h' : x ≠ k := fun q => h q.symm
      simp [h, h']
theorem Cp.in_strs {x : Str} {D : Addr} {ys : List Str} (hm : (D, AO.tup (ys.map AV.str)) ∈ l) : Cp c E m l .In (.str x) (.ref D) (x ∈ ys) := fun Q h tk u u' S r r' k => by
  (refine El.ex (r) fun t zz1 => ?_; try clear r; (first | subst zz1 | cases zz1))
  cases r'
  (refine El.eaxx (S.tup hm) fun us hD rs => ?_)
  refine SeqAt.in_tupleAt (fun y => match y with | .str k _ => k == x | _ => false) hD (eqAt_strs rs) ?_
  rw [any_strs rs]
  by_cases hp : x ∈ ys
  · rw [decide_eq_true hp]; exact (k h tk S).1 hp
  · rw [decide_eq_false hp]; exact (k h tk S).2 hp
end
end Mine

end
section
open PySem PySem.W PySem.Spec PySem.Calls PyProof.Rows
namespace Mine
set_option maxRecDepth 100000
set_option linter.unusedVariables false
section
variable {w : World} {K : Frag} {F : Fn} {n : Nat} {b : Bool} {c : Cx w K F n b} {E : Value → Shared → Prop} {m : AM} {l : AL}
theorem Mt.index75 (H : KOk K) : Mt c E m l (.ref 75) (Str.ofString "index") (.builtin "tuple.index") := fun pl Q h tk u S r k => by
  cases r
  (refine El.ex (H.t75 S.in) fun us zq105 => ?_; refine El.axaxx (zq105) fun zz1 zz2 zq106 => ?_; try clear zq105; refine El.ex (zq106) fun sl e => ?_; try clear zq106)
  exact method_at PySem.F.plainAttrs_tuple PySem.F.slot_tuple_index PySem.F.type_tuple_index e rfl rfl (k h tk S)
theorem Bw.index75 (H : KOk K) : Bw c E m (.builtin "tuple.index") [.ref 75, .int 1] l (Is (.int 0) l) := fun Q h tk us S r k => by
  obtain _ | ⟨rfl, _ | ⟨⟨t, rfl⟩, _ | _⟩⟩ := r
  (refine El.ex (H.t75 S.in) fun vs zq107 => ?_; refine El.axaxx (zq107) fun hD rs zq108 => ?_; try clear zq107; refine El.ex (zq108) fun sl e => ?_; try clear zq108)
  obtain _ | ⟨⟨t', rfl⟩, rs⟩ := rs
  exact G_any c.hΓ (tuple_index_first (v := t') hD rfl (k h _ _ _ _ ⟨rfl, rfl⟩ S ⟨_, rfl⟩))
theorem Mt.index167 (H : KOk K) : Mt c E m l (.ref 167) (Str.ofString "index") (.builtin "list.index") := fun pl Q h tk u S r k => by
  cases r
  (refine El.eeaxx (H.lst167) fun us n e zz1 => ?_)
  exact method_at PySem.F.plainAttrs_list PySem.F.slot_list_index PySem.F.type_list_index (S.in _ _ e) rfl rfl (k h tk S)
theorem Mt.index_l {D : Addr} {vs : List AV} (hm : (D, AO.list vs) ∈ l) : Mt c E m l (.ref D) (Str.ofString "index") (.builtin "list.index") := fun pl Q h tk u S r k => by
  cases r
  (refine El.eeaxx (S.list hm) fun us n hD rs => ?_)
  exact method_at PySem.F.plainAttrs_list PySem.F.slot_list_index PySem.F.type_list_index hD rfl rfl (k h tk S)
theorem strsAre_of {ys : List Str} {us : List Value} (r : Reals (ys.map AV.str) us) : StrsAre us ys := by
  induction ys generalizing us with
  | nil => cases r; exact .nil
  | cons y ys ih => obtain _ | ⟨⟨t, rfl⟩, r⟩ := r; exact .cons y t (ih r)
theorem list_index {prog : Program} {w : World} {A : Around} {E : Value → Shared → Prop} {s : Shared} {D : Addr} {us : List Value} {n : Nat} {x : Str} {t : Tok} {ys : List Str} {j : Nat} {Q : Value → Shared → Prop} (ha : s.heap.get? D = some (W.listOf us.toArray n)) (r : Reals (ys.map AV.str) us) (hz : ys.length ≤ 100)
    (hj : ys[j]? = some x) (hno : ∀ i, i < j → ys[i]? ≠ some x) (h : Q (.int j s.toks) { s with toks := s.toks + 1 }) : wpAny (model prog w) A (call (.builtin "list.index") [.ref D, .str x t]) Q E s := by
  have hl : us.length = ys.length := by rw [r.length, List.length_map]
  have hj' : j < ys.length := (List.getElem?_eq_some_iff.mp hj).1
  have at_ : ∀ i (hi : i < us.toArray.size), ∃ t', us.toArray[i] = .str (ys[i]'(by rw [List.size_toArray, hl] at hi; exact hi)) t' := fun i hi => by
    have hi' : i < ys.length := by rw [List.size_toArray, hl] at hi; exact hi
    (refine El.ex (r.get (i := i) (a := .str ys[i]) (by rw [List.getElem?_map, List.getElem?_eq_getElem hi']; rfl)) fun v zq109 => ?_; refine El.axex (zq109) fun hv t' zz1 => ?_; try clear zq109; (first | subst zz1 | cases zz1))
    refine ⟨t', ?_⟩
    have := (List.getElem?_eq_some_iff.mp hv).2
    simpa using this
  refine list_index_str j ha (by simpa using strsAre_of r) (by rw [List.size_toArray, hl]; exact hj') (by rw [List.size_toArray, hl]; exact hz) ?_ (fun i hi hij => ?_) h
  · (refine El.ex (at_ j (by rw [List.size_toArray, hl]; exact hj')) fun t' e => ?_)
    rw [e]
    have := (List.getElem?_eq_some_iff.mp hj).2
    simp [this]
  · (refine El.ex (at_ i hi) fun t' e => ?_)
    rw [e]
    have hi' : i < ys.length := by rw [List.size_toArray, hl] at hi; exact hi
    have hne := hno i hij
    rw [List.getElem?_eq_getElem hi'] at hne
    simpa using hne
theorem Bw.index_l {D : Addr} {ys : List Str} {x : Str} {j : Nat} (hm : (D, AO.list (ys.map AV.str)) ∈ l) (hz : ys.length ≤ 100) (hj : ys[j]? = some x) (hno : ∀ i, i < j → ys[i]? ≠ some x) : Bw c E m (.builtin "list.index") [.ref D, .str x] l (Is (.int (j : Nat)) l) := fun Q h tk us S r k => by
  obtain _ | ⟨rfl, _ | ⟨⟨t, rfl⟩, _ | _⟩⟩ := r
  (refine El.eeaxx (S.list hm) fun us n hD rs => ?_)
  exact G_any c.hΓ (list_index hD rs hz hj hno (k h _ _ _ _ ⟨rfl, rfl⟩ S ⟨_, rfl⟩))
theorem Bw.index167 (H : KOk K) {x : Str} {j : Nat} (hj : [Str.ofString "initial", Str.ofString "zero", Str.ofString "handshake", Str.ofString "retry"][j]? = some x) (hno : ∀ i, i < j → [Str.ofString "initial", Str.ofString "zero", Str.ofString "handshake", Str.ofString "retry"][i]? ≠ some x) :
    Bw c E m (.builtin "list.index") [.ref 167, .str x] l (Is (.int (j : Nat)) l) := fun Q h tk us' S r k => by
  obtain _ | ⟨rfl, _ | ⟨⟨t, rfl⟩, _ | _⟩⟩ := r
  (refine El.eeaxx (H.lst167) fun us q e rs => ?_)
  exact G_any c.hΓ (list_index (S.in _ _ e) (ys := [Str.ofString "initial", Str.ofString "zero", Str.ofString "handshake", Str.ofString "retry"]) rs (by decide) hj hno (k h _ _ _ _ ⟨rfl, rfl⟩ S ⟨_, rfl⟩))
noncomputable def Bar (k : Nat) (l : AL) : AV → AL → Prop := fun v l' => ∃ D, v = .ref D ∧ l' = (D, .raw (baObj (Array.replicate k 0))) :: l
theorem Bw.bytearray {k : Int} (hb : b = true) (h0 : 0 ≤ k) (h1 : k ≤ 1000000) : Bw c E m (.type "bytearray") [.int k] l (Bar k.toNat l) := fun Q h tk us S r kk => by
  obtain _ | ⟨⟨t, rfl⟩, _ | _⟩ := r
  obtain ⟨mm, news, Fr, M, N, RL, nd⟩ := S
  refine G_bytearray (s := c.at h tk) c.hΓ (c.clean hb) h0 h1 fun h' hk hD => kk h' tk _ (.ref h.objs.size) _ ⟨h.objs.size, rfl, rfl⟩ ⟨mm, _, Fr.keeps hk, M, news_pushed Fr N hk hD rfl, .raw RL, ?_⟩ rfl
  rw [List.map_cons]
  refine List.nodup_cons.mpr ⟨fun hh => ?_, nd⟩
  (refine El.eaxx (List.mem_map.mp hh) fun p hp e => ?_)
  exact Nat.ne_of_lt (Heap.lt_size (N p hp).1) e
theorem G_Assign_Subscript {Γ : PySem.Ctx} {A : Around} {s : Shared} {env : Env} {o i value : PySem.Expr} {pos' pos : Pos} {Q : Flow → Shared → Prop} (hΓ : Γ.In A)
    (h : G (model prog w) Γ (eval value env) (fun v s₁ => G (model prog w) Γ (eval o env) (fun ov s₂ => G (model prog w) Γ (eval i env) (fun iv s₃ => G (model prog w) Γ (setItem ov iv v) (fun _ => Q .next) E s₃) E s₂) E s₁) E s) (hs : swapsWith value (some (.Subscript o i pos')) pos.line env = pure false) :
    G (model prog w) Γ (exec (.Assign [.Subscript o i pos'] value pos) env) Q E s := by
  rw [exec_Assign_Subscript o i pos' value pos hs]
  refine G_bind (G_standAt (G_bind (G_mono h (fun v s₁ h₁ => ?_) fun _ _ x => x)))
  rw [assign_Subscript]
  exact G_bind (G_bind (G_holding (G_mono h₁ (fun ov s₂ h₂ => G_bind (G_holding (G_mono h₂ (fun iv s₃ h₃ => G_bind (G_standAt (G_bind (G_holding (G_mono h₃ (fun _ s₄ h₄ => G_any hΓ (wpAny_release (G_pure h₄))) fun _ _ x => x))))) fun _ _ x => x))) fun _ _ x => x)))
theorem St.setRaw {h h' : Heap} {D : Addr} {o o' : Obj} {l' : AL} (S : St c h m l) (U : Mine.Upd D (.raw o) (.raw o') l l') (hs : Heap.SameBut D h h') (hD : h'.get? D = some o') : St c h' m l' :=
  S.turn U fun n0 R0 _ => by
    cases R0 with
    | raw z => cases z; exact ⟨D, [(D, o')], .raw .nil, rfl, .head _, hs, fun p hp => by rw [List.mem_singleton.mp hp]; exact hD⟩
theorem St.rawAt {h : Heap} {D : Addr} {o' : AO} {ob : Obj} {l' : AL} (S : St c h m l) (U : Mine.Upd D (.raw ob) o' l l') : h.get? D = some ob := by
  obtain ⟨mm, news, Fr, M, N, RL, nd⟩ := S
  (refine El.eeeaxaxx (RL.split U) fun n1 n0 n2 zz1 h0 zz2 => ?_; (first | subst zz1 | cases zz1))
  cases h0 with
  | raw z => cases z; exact (N (D, ob) (by simp)).1
theorem Wb.setbyte {o i value : PySem.Expr} {pos' pos : Pos} {rest : List Stmt} {P : Fl → AM → AL → Prop} {D : Addr} {bs : Array UInt8} {k v : Int} {l' : AL} (hv : Ev c E m l value (.int v)) (ho : Ev c E m l o (.ref D)) (hi : Ev c E m l i (.int k)) (U : Mine.Upd D (.raw (baObj bs)) (.raw (baObj (bs.setIfInBounds k.toNat v.toNat.toUInt8))) l l')
    (h0 : 0 ≤ k) (hk : k < bs.size) (hz : bs.size ≤ 100000) (v0 : 0 ≤ v) (v1 : v < 256) (hc : isComp value = false) (kk : Wb c E m l' rest P) : Wb c E m l (.Assign [.Subscript o i pos'] value pos :: rest) P := Wb.cons fun Q h tk S kq => by
  refine G_Assign_Subscript c.hΓ (hv _ h tk S fun h1 tk1 u1 S1 r1 => ho _ h1 tk1 S1 fun h2 tk2 u2 S2 r2 => hi _ h2 tk2 S2 fun h3 tk3 u3 S3 r3 => ?_) (swaps_plain hc)
  (refine El.ex (r1) fun t1 zz1 => ?_; try clear r1; (first | subst zz1 | cases zz1))
  cases r2
  (refine El.ex (r3) fun t3 zz1 => ?_; try clear r3; (first | subst zz1 | cases zz1))
  exact G_any c.hΓ (wpAny_setItem_ba (s := c.at h3 tk3) (S3.rawAt U) h0 hk (by rw [sizeLine_eq]; omega) v0 v1 fun h4 hs hg => kq .next .next _ _ h4 tk3 kk (S3.setRaw U hs hg) rfl)
theorem St.rawM {h : Heap} {D : Addr} {ob : Obj} (S : St c h m l) (hm : (D, AO.raw ob) ∈ l) : h.get? D = some ob := by
  have : ∃ l', Mine.Upd D (.raw ob) (.raw ob) l l' := by
    clear S
    induction l with
    | nil => cases hm
    | cons p l ih =>
      rcases List.mem_cons.mp hm with rfl | hm
      · exact ⟨_, .head⟩
      · (refine El.ex (ih hm) fun l' U => ?_); exact ⟨_, .tail U⟩
  (refine El.ex (this) fun l' U => ?_; try clear this)
  exact S.rawAt U
theorem Bw.bytes_ba {D : Addr} {bs : Array UInt8} (hm : (D, AO.raw (baObj bs)) ∈ l) (hz : bs.size ≤ 100000) : Bw c E m (.type "bytes") [.ref D] l (Is (.bytes (KBw.bInts bs)) l) := fun Q h tk us S r k => by
  obtain _ | ⟨rfl, _ | _⟩ := r
  exact G_any c.hΓ (bytes_of_ba (s := c.at h tk) (S.rawM hm) (by rw [sizeLine_eq]; omega) fun t k' => k h k' _ _ _ ⟨rfl, rfl⟩ S ⟨bs, t, rfl, rfl⟩)
end
end Mine

end
section
open PySem PySem.W PySem.Spec PySem.Calls PyProof.Rows
namespace Mine
set_option maxRecDepth 100000
set_option linter.unusedVariables false
section
variable {w : World} {K : Frag} {F : Fn} {n : Nat} {b : Bool} {c : Cx w K F n b} {E : Value → Shared → Prop} {m : AM} {l : AL}
theorem G_attempt {M : Model} {Γ : PySem.Ctx} {α : Type} {t : Sem α} {s : Shared} {E' : Value → Shared → Prop} {Q : Except Value α → Shared → Prop} (h : G M Γ t (fun a s' => Q (.ok a) s') (fun e s' => Q (.error e) s') s) : G M Γ t.attempt Q E' s := fun p => by
  rw [Sem.wp_attempt]; exact h p
theorem G_Try {M : Model} {Γ : PySem.Ctx} {env : Env} {s : Shared} {body : List Stmt} {hs : List ExceptHandler} {pos : Pos} {Q : Flow → Shared → Prop}
    (h : G M Γ (execs body env) Q (fun _ _ => False) s) : G M Γ (exec (.Try body hs [] [] pos) env) Q E s := by
  rw [arm_exec_Try]
  refine G_bind (G_standAt ?_)
  unfold tryStmt
  simp only [List.isEmpty_nil, if_true]
  refine G_bind (G_attempt (G_mono h (fun f s₁ h₁ => ?_) fun _ _ x => x.elim))
  cases f with
  | next => exact G_execs_nil h₁
  | brk => exact G_pure h₁
  | cont => exact G_pure h₁
  | ret v => exact G_pure h₁
theorem Wb.try {body rest : List Stmt} {hs : List ExceptHandler} {pos : Pos} {P : Fl → AM → AL → Prop} (H : Wb c (fun _ _ => False) m l body (Beh c E rest P)) : Wb c E m l (.Try body hs [] [] pos :: rest) P := Wb.cons fun Q h tk S k => G_Try (H Q h tk S k)
theorem Wb.meet {test : PySem.Expr} {body rest : List Stmt} {pos : Pos} {p : Prop} {P : Fl → AM → AL → Prop} (m' : AM) (l' : AL) (H : Te c E m l test p) (h1 : p → Wb c E m l body fun f m1 l1 => f = .next ∧ Sub m' m1 ∧ l1 = l') (h2 : ¬ p → Sub m' m ∧ l = l') (k : Wb c E m' l' rest P) : Wb c E m l (.If test body [] pos :: rest) P :=
  Wb.if H (fun hp => (h1 hp).mono fun f m1 l1 hh => by (refine El.axaxx (hh) fun zz1 hs zz2 => ?_; try clear hh; (first | subst zz1 | cases zz1); (first | subst zz2 | cases zz2)); exact Wb.sub k hs) fun hp => by
    (refine El.axx (h2 hp) fun hs zz1 => ?_; (first | subst zz1 | cases zz1))
    exact Wb.beh (Wb.sub k hs)
theorem Ex.ifexp {test body orelse : PySem.Expr} {pos : Pos} {p : Prop} {R : AV → AL → Prop} (ht : Te c E m l test p) (h1 : p → Ex c E m l body R) (h2 : ¬ p → Ex c E m l orelse R) : Ex c E m l (.IfExp test body orelse pos) R := fun Q h tk S k =>
  G_IfExp (ht _ h tk S fun h' tk' S' => ⟨fun hp => by simpa using h1 hp Q h' tk' S' k, fun hp => by simpa using h2 hp Q h' tk' S' k⟩)
end
end Mine

end
section
open PySem PySem.W PySem.Spec PySem.Calls PyProof.Rows
namespace Mine
set_option maxRecDepth 100000
set_option linter.unusedVariables false
theorem Cw.defC1 {w : World} {K : Frag} {F : Fn} {name : Str} {params : Arguments} {body : List Stmt} {xs : List Str} {d : Nat} {args : List AV} {l : AL} {R : AV → AL → Prop} (y : Str) (v : AV) (m0 : AM)
    (hF : FnIn K F name params body) (hB : Binds F name params body xs) (hloc : xs.all (fun x => F.scope.names.lookup x == some .local || F.scope.names.lookup x == some .cell) = true) (hkind : F.scope.kind = .function) (hco : F.scope.isCoroutine = false) (hgen : F.scope.isGenerator = false)
    (hcl : ∀ n, cellsFrom n F.scope.names [] = [(y, n)]) (hlen : args.length = xs.length)
    (hm : ∀ us, Reals args us → MapOk m0 (bindL (fun x => F.scope.names.lookup x) (xs.zip us) fun _ => none) ∧ ∃ u, bindC (fun x => F.scope.names.lookup x) (xs.zip us) (fun _ => none) y = some u ∧ Real v u)
    (H : ∀ (c : Cx w K F d false) (E : Value → Shared → Prop) (a : Addr), c.cl = [(y, a)] → Wb c E m0 ((a, .cell v) :: l) body (Rt R)) : Cw w K F.addr (d + 1) false args l R := by
  intro F₀ n b' c E m Q h tk us hd hb S hr k
  obtain ⟨mm, news, Fr₀, M, N, RL, nd⟩ := S
  (refine El.aeeeeeeexx (hF) fun doc pm an ct oc od osl hlk hcd => ?_; try clear hF)
  have hul : us.length = xs.length := by rw [hr.length, hlen]
  have hdp := c.hdp
  have hun := c.hun
  (refine El.axeaxx (hm us hr) fun hm1 u hu hru => ?_)
  refine G_any c.hΓ (wpAny_call (code_defC (s := c.at h tk) (binds := xs.zip us) c.B Fr₀ c.X N c.T rfl rfl c.kind hlk hcd (by show c.dp < _; omega) (BindsTo.of_eq (hB _ _ _ _ _ hul)) ?_ ?_ (fun g L' h₁ tk₁ cells F₁ F₂ N' Y B' X' T' hlt Γ' p hΓ' => ?_) hco hgen hkind))
  · rw [List.all_eq_true]
    intro z hz
    exact List.all_eq_true.mp hloc _ (List.of_mem_zip hz).1
  · rw [hcl]; simp
  · rw [hcl] at Y
    (refine El.eaxx (Y.one) fun o zz1 ho => ?_; (first | subst zz1 | cases zz1))
    have ho' : o.data = .cell (some u) := by rw [ho]; exact congrArg Data.cell hu
    refine H ⟨Γ', c.dp + 1, c.un + 3, c.gd, cellsFrom (L' + 1) F.scope.names [], c.env :: c.outer, c.A, c.base, g, L', c.s, c.p, c.loose, c.mean, c.mg, c.mb, hΓ', (fun z => nomatch z), B', X', T', hkind, by omega, by omega⟩ _ (L' + 1) (hcl _) _ h₁ tk₁ ⟨_, _, F₂, hm1, N', .cell hru ho' RL, ?_⟩ (fun f f' m' l' h' tk' hP S' hf => Rt.leave (c := c) M hP S' hf k) p
    · rw [List.cons_append, List.nil_append, List.map_cons]
      refine List.nodup_cons.mpr ⟨fun hh => ?_, nd⟩
      (refine El.eaxx (List.mem_map.mp hh) fun q hq e => ?_)
      have h1 := hlt q hq
      rw [e] at h1
      exact Nat.lt_irrefl _ (Nat.lt_trans h1 (Nat.lt_succ_self _))
section
variable {w : World} {K : Frag} {F : Fn} {n : Nat} {b : Bool} {c : Cx w K F n b} {E : Value → Shared → Prop} {m : AM} {l : AL}
theorem RealL.cellM {l : AL} {ns : List (Addr × Obj)} (R : RealL w l ns) : ∀ {D : Addr} {v : AV}, (D, AO.cell v) ∈ l → ∃ (o : Obj) (u : Value), (D, o) ∈ ns ∧ o.data = .cell (some u) ∧ Real v u := by
  induction R with
  | nil => intro D v h; cases h
  | cell r hd _ ih =>
    intro D v h
    rcases List.mem_cons.mp h with e | h
    · cases e; exact ⟨_, _, .head _, hd, r⟩
    · (refine El.eeaxx (ih h) fun o u a b => ?_); exact ⟨o, u, .tail _ a, b⟩
  | inst n r _ ih =>
    intro D v h
    rcases List.mem_cons.mp h with e | h
    · cases e
    · (refine El.eeaxx (ih h) fun o u a b => ?_); exact ⟨o, u, .tail _ (.tail _ a), b⟩
  | list n r _ ih =>
    intro D v h
    rcases List.mem_cons.mp h with e | h
    · cases e
    · (refine El.eeaxx (ih h) fun o u a b => ?_); exact ⟨o, u, .tail _ a, b⟩
  | tup r _ ih =>
    intro D v h
    rcases List.mem_cons.mp h with e | h
    · cases e
    · (refine El.eeaxx (ih h) fun o u a b => ?_); exact ⟨o, u, .tail _ a, b⟩
  | raw _ ih =>
    intro D v h
    rcases List.mem_cons.mp h with e | h
    · cases e
    · (refine El.eeaxx (ih h) fun o u a b => ?_); exact ⟨o, u, .tail _ a, b⟩
theorem Ev.cel {x : Str} {pos : Pos} {v : AV} {a : Addr} (hm : (a, AO.cell v) ∈ l) (hc : c.cl.lookup x = some a) (hx : isCel F x = true) : Ev c E m l (.Name x pos) v := by
  intro Q h tk S k
  have S' := S
  obtain ⟨mm, news, Fr, M, N, RL, nd⟩ := S
  (refine El.eeaxaxx (RL.cellM hm) fun o u h1 h2 r => ?_)
  simp only [isCel, Bool.and_eq_true, decide_eq_true_eq, Bool.not_eq_true'] at hx
  exact G_any c.hΓ (nameX_C (s := c.at h tk) N hc h1 h2 (k h tk u S' r) c.kind hx.1 hx.2)
theorem G_callQ {x : Str} {np pos : Pos} {f : Value} {e0 : PySem.Expr} {es : List PySem.Expr} {vs : List AV} {Q : Value → Shared → Prop} {h : Heap} {tk : Nat} (S : St c h m l) (hf : Ev c E m l (.Name x np) (.raw f)) (hk : Keeps K f) (ha : Evs c E m l (e0 :: es) vs) (hs : noStar (e0 :: es) = true)
    (k : ∀ h' tk' us, St c h' m l → Reals vs us → G (model prog w) c.Γ (call f us) Q E (c.at h' tk')) : G (model prog w) c.Γ (eval (.Call (.Name x np) (e0 :: es) [] pos) c.env) Q E (c.at h tk) := by
  simp only [noStar, List.all_cons, Bool.and_eq_true, Bool.not_eq_true'] at hs
  refine G_Call (hf _ h tk S fun h' tk' u S' r => ?_)
  cases r
  exact G_callWith (P := K.In) (fun h X => hk h X) (ha _ h' tk' pos S' fun h'' tk'' us S'' rs => ⟨S''.in, k h'' tk'' us S'' rs⟩) (star_cons hs.1) (star_plain hs.2)
theorem Exs.one {e : PySem.Expr} {R1 : AV → AL → Prop} (h : Ex c E m l e R1) (hs : isStar e = false) : Exs c E m l [e] (fun vs l' => ∃ v, vs = [v] ∧ R1 v l') := Exs.cons h (fun v l' hR => Exs.done ⟨v, rfl, hR⟩) hs
theorem Reals.two {a1 a2 : AV} {us : List Value} (r : Reals [a1, a2] us) : ∃ u1 u2, us = [u1, u2] ∧ Real a1 u1 ∧ Real a2 u2 := by
  cases r with
  | cons r1 r => cases r with | cons r2 r => cases r; exact ⟨_, _, rfl, r1, r2⟩
theorem reals_ints {ys : List Value} {ns : List Int} (h : IntsAre ys ns) : Reals (ns.map .int) ys := by
  induction h with
  | nil => exact .nil
  | cons x t _ ih => exact .cons ⟨t, rfl⟩ ih
theorem Ex.enum (H : KOk K) {c : Cx w K F n false} {a bb y : Str} {pa pb tp cp np p1 p2 p3 p4 p5 p6 p7 pos : Pos} {kk k1 : Nat} {scope : Scope} {x : Str} {px : Pos} {ks mk : List Int} {A : Addr} (hcl : c.cl = [(y, A)]) (hm : (A, AO.cell (.bytes mk)) ∈ l) (h0 : ks.length + 1 ≤ mk.length) (h1 : mk.length ≤ 1000)
    (hclos : closureFor scope (envX F.qual F.scope c.L F.addr F.cd [(y, A)]) = pure [(y, A)]) (hcell : ∀ z ∈ scope.names, z.2 ≠ .cell) (hkind : scope.kind = .function) (hnames : ∀ z ∈ scope.names, z.2 = .local → scope.names.lookup z.1 = some .local) (hxa : scope.names.lookup a = some .local) (hxb : scope.names.lookup bb = some .local) (hab : ¬ a = bb)
    (hy : (relabel scope (envX F.qual F.scope c.L F.addr F.cd [(y, A)])).names.lookup y = some .cell) (ha' : (relabel scope (envX F.qual F.scope c.L F.addr F.cd [(y, A)])).names.lookup a = some .local) (hb' : (relabel scope (envX F.qual F.scope c.L F.addr F.cd [(y, A)])).names.lookup bb = some .local)
    (hd : ((a == ("__debug__" : Str)) || (bb == ("__debug__" : Str)) || (y == ("__debug__" : Str))) = false)
    (hg : isGlo F (Str.ofString "enumerate") = true) (hx : isLoc F x = true) (hv : m.lookup x = some (.bytes ks)) :
    Ex c E m l (.ListComp (.BinOp (.Name bb p1) .BitXor (.Subscript (.Name y p2) (.BinOp (.Constant (.int 1) k1 p3) .Add (.Name a p4) p5) p6) p7) [⟨.Tuple [.Name a pa, .Name bb pb] kk tp, .Call (.Name (Str.ofString "enumerate") np) [.Name x px] [] cp, [], 0⟩] scope pos) (New (.list ((turnedNumber ks mk).map .int)) l) := fun Q h tk S k => by
  simp only [Bool.or_eq_false_iff] at hd
  (refine El.aaxxx (hd) fun hd1 hd2 hd3 => ?_; try clear hd)
  obtain ⟨mm, news, F0, M, N, RL, nd⟩ := S
  have henv : c.env = envX F.qual F.scope c.L F.addr F.cd [(y, A)] := by show envX _ _ _ _ _ c.cl = _; rw [hcl]
  (refine El.eex (RL.cellM hm) fun o um zq36 => ?_; refine El.axaxx (zq36) fun hm1 hm2 zq37 => ?_; try clear zq36; refine El.eeaxx (zq37) fun bm tm zz1 hbm => ?_; try clear zq37; (first | subst zz1 | cases zz1))
  simp only [isGlo, isLoc, Bool.and_eq_true, decide_eq_true_eq, Bool.not_eq_true'] at hg hx
  (refine El.ex (M x _ hv) fun u zq38 => ?_; refine El.axx (zq38) fun hu zq39 => ?_; try clear zq38; refine El.eeaxx (zq39) fun bs t zz1 hbs => ?_; try clear zq39; (first | subst zz1 | cases zz1))
  have ok : Oct ks := hbs ▸ oct_bInts bs
  have om : Oct mk := hbm ▸ oct_bInts bm
  refine G_any c.hΓ (ListComp_enumB (s := c.at h tk) (env := c.env) (a := a) (b := bb) (cl := [(y, A)]) (fun i o => Builtin.bitXor o (mk.getD (1 + i) 0)) F0 rfl (by rw [henv]; exact hclos) hcell hkind hnames hxa hxb hab ?_ (fun v => rfl))
  intro Γ p hΓ
  refine (G_Call (G_any hΓ (nameX_B (s := c.at h tk) F0 c.X (topRead_of c.T) (H.bts _ (by decide)) (v := .type "enumerate") (by kernel_rfl) (by decide) ?_ c.kind hg.1 hg.2)) : G _ _ _ _ _ _) p
  refine G_callWith (P := fun _ => True) (fun _ _ => ⟨_, .inr (.inl rfl), Looks.of_pure rfl⟩) (G_args_cons (G_any hΓ (nameX_L (s := c.at h tk) F0 hu (G_args_nil ⟨trivial, ?_⟩) c.kind hx.1 hx.2)) rfl) rfl rfl
  refine G_any hΓ (call_enumerate_bytes (s := c.at h tk) fun h2 hE hB hsz hk2 => ?_)
  refine ⟨_, _, bs, t, ks, news, rfl, rfl, hbs, by omega, hE, hB, F0.keeps hk2, N.grown hk2, F0.ns.lt, fresh_of F0 (Nat.le_refl _), fresh_of F0 (Nat.le_succ _), fun p hp => Heap.lt_size (N p hp).1, ?_, ?_⟩
  · intro i j t9 u9 C oC D m₂ rest h3 tk3 E3 hk3 k0 k1 ha hbb hC F3 N3
    have hi := (List.getElem?_eq_some_iff.mp hk3).1
    have ei : (1 + (i : Int)).toNat = 1 + i := by omega
    have NsC : h3.Ns C m₂ := LCg.NsObj.ns hC (N3 _ (.head _)).1
    have hcm : h3.IsCell A (some (.bytes bm tm)) := ⟨o, (N3 _ (.tail _ (.tail _ hm1))).1, hm2⟩
    rw [henv]
    refine wpAny_BinOp (ldVarK NsC hbb (fun Γ p hΓ => G_Subscript (G_any hΓ (ldCellK (by simp) hcm (G_any hΓ (wpAny_BinOp (wpAny_Constant_int (ldVarK NsC ha (add_int (G_any hΓ ?_)) hkind ha' hd1)))) hkind hy hd3)) p) hkind hb' hd2)
    refine KBw.item_K hbm (by omega) (by omega) (by omega) (fun t' k' m0 m1 => ?_) rfl (fun _ => rfl)
    rw [ei]
    exact xor_int ⟨_, _, rfl, rfl⟩
  · intro D h4 tk4 ys hI F4 N4 off
    have hR : Reals ((turnedNumber ks mk).map .int) ys := reals_ints hI
    exact k h4 tk4 _ (.ref D) _ ⟨D, rfl, rfl⟩ ⟨mm, _, F4, M, N4, .list ys.length hR RL, by
      rw [List.map_cons]
      refine List.nodup_cons.mpr ⟨fun hh => ?_, nd⟩
      (refine El.eaxx (List.mem_map.mp hh) fun q hq e => ?_)
      exact off q hq e⟩ rfl
end
end Mine

end
section
open PySem PySem.W PySem.Spec PySem.Calls PyProof.Rows
namespace Mine
set_option maxRecDepth 100000
set_option linter.unusedVariables false
section
variable {w : World} {K : Frag} {F : Fn} {n : Nat} {b : Bool} {c : Cx w K F n b} {E : Value → Shared → Prop} {m : AM} {l : AL}
theorem updMid {D : Addr} {o o' : Obj} {n1 n2 : List (Addr × Obj)} (h1 : ∀ p ∈ n1, p.1 ≠ D) (h2 : ∀ p ∈ n2, p.1 ≠ D) : PySem.W.Upd D o o' (n1 ++ ((D, o) :: n2)) (n1 ++ ((D, o') :: n2)) := by
  induction n1 with
  | nil => exact .head h2
  | cons q n1 ih => exact .tail (h1 q (.head _)) (ih fun p h => h1 p (.tail _ h))
theorem RealL.listS {D : Addr} {vs vs' : List AV} {l l' : AL} {ns : List (Addr × Obj)} (U : Mine.Upd D (.list vs) (.list vs') l l') (R : RealL w l ns) (nd : (ns.map (·.1)).Nodup) :
    ∃ (us : List Value) (n : Nat), Reals vs us ∧ ∀ us' n', Reals vs' us' → ∃ ns', PySem.W.Upd D (W.listOf us.toArray n) (W.listOf us'.toArray n') ns ns' ∧ RealL w l' ns' ∧ ns'.map (·.1) = ns.map (·.1) := by
  (refine El.eeeaxaxx (RealL.split U R) fun n1 n0 n2 zz1 h0 h1 => ?_; (first | subst zz1 | cases zz1))
  cases h0 with
  | list n r z =>
    cases z
    rename_i us
    simp only [List.map_append, List.map_cons, List.cons_append, List.nil_append] at nd
    have nd2 := List.nodup_append.mp nd
    have nd3 := List.nodup_cons.mp nd2.2.1
    refine ⟨us, n, r, fun us' n' r' => ⟨n1 ++ ([(D, W.listOf us'.toArray n')] ++ n2), ?_, h1 _ (.list n' r' .nil), by simp⟩⟩
    exact updMid (fun p hp => nd2.2.2 _ (List.mem_map_of_mem hp) _ (.head _)) (fun p hp q => nd3.1 (q ▸ List.mem_map_of_mem hp))
theorem Reals.set {as : List AV} {us : List Value} (r : Reals as us) {a : AV} {u : Value} (ra : Real a u) : ∀ i, Reals (as.set i a) (us.set i u) := by
  induction r with
  | nil => intro i; cases i <;> exact .nil
  | cons r' rs ih =>
    intro i
    cases i with
    | zero => exact .cons ra rs
    | succ i => exact .cons r' (ih i)
theorem setL_at {v : Value} : ∀ {us : List Value} {i : Nat}, i < us.length → ki_setL us i v = some (us.set i v)
  | [], i, h => by cases h
  | u :: us, 0, h => rfl
  | u :: us, i + 1, h => by
    have := setL_at (v := v) (us := us) (i := i) (by simpa using h)
    show (match ki_setL us i v with | some q => some (u :: q) | none => none) = _
    rw [this]; rfl
theorem Wb.setitem {o i value : PySem.Expr} {pos' pos : Pos} {rest : List Stmt} {P : Fl → AM → AL → Prop} {D : Addr} {vs : List AV} {k : Int} {v : AV} {l' : AL} (hv : Ev c E m l value v) (ho : Ev c E m l o (.ref D)) (hi : Ev c E m l i (.int k)) (U : Mine.Upd D (.list vs) (.list (vs.set k.toNat v)) l l')
    (h0 : 0 ≤ k) (hk : k < vs.length) (hz : vs.length ≤ 100000) (hc : isComp value = false) (kk : Wb c E m l' rest P) : Wb c E m l (.Assign [.Subscript o i pos'] value pos :: rest) P := Wb.cons fun Q h tk S kq => by
  refine G_Assign_Subscript c.hΓ (hv _ h tk S fun h1 tk1 u1 S1 r1 => ho _ h1 tk1 S1 fun h2 tk2 u2 S2 r2 => hi _ h2 tk2 S2 fun h3 tk3 u3 S3 r3 => ?_) (swaps_plain hc)
  cases r2
  (refine El.ex (r3) fun t3 zz1 => ?_; try clear r3; (first | subst zz1 | cases zz1))
  obtain ⟨mm, news, Fr, M, N, RL, nd⟩ := S3
  (refine El.eeaxx (RL.listS U nd) fun us q r up => ?_)
  (refine El.eaxaxx (up (us.set k.toNat u1) q (r.set r1 _)) fun ns' U' RL' e => ?_)
  have hl := r.length
  exact G_any c.hΓ (ki_set (s := c.at h3 tk3) Fr N h0 (by omega) (show ki_setL us _ _ = _ from setL_at (by omega)) U' fun h4 F4 N4 => kq .next .next _ _ h4 tk3 kk ⟨mm, ns', F4, M, N4, RL', e ▸ nd⟩ rfl)
theorem Mt.pop {D : Addr} {vs : List AV} (hm : (D, AO.list vs) ∈ l) : Mt c E m l (.ref D) (Str.ofString "pop") (.builtin "list.pop") := fun pl Q h tk u S r k => by
  cases r
  (refine El.eeaxx (S.list hm) fun us n hD rs => ?_)
  exact method_at PySem.F.plainAttrs_list PySem.F.slot_list_pop PySem.F.type_list_pop hD rfl rfl (k h tk S)
theorem Bw.pop0 {D : Addr} {a : AV} {vs : List AV} {l' : AL} (U : Mine.Upd D (.list (a :: vs)) (.list vs) l l') (hz : vs.length ≤ 10000) : Bw c E m (.builtin "list.pop") [.ref D, .int 0] l (Is a l') := fun Q h tk us S r k => by
  obtain _ | ⟨rfl, _ | ⟨⟨t, rfl⟩, _ | _⟩⟩ := r
  obtain ⟨mm, news, Fr, M, N, RL, nd⟩ := S
  (refine El.eeaxx (RL.listS U nd) fun us q r up => ?_)
  obtain _ | ⟨ra, r⟩ := r
  rename_i u us
  (refine El.eaxaxx (up us (q + 1) r) fun ns' U' RL' e => ?_)
  have hl := r.length
  refine G_any c.hΓ (kl_popAt (s := c.at h tk) (k := 0) (p := []) (q := us) (y := u) Fr N (by decide) (seqIndex_of (by decide) (by simp)) rfl U' (by rw [sizeLine_eq]; simp; omega) fun h9 F9 N9 => k h9 tk _ _ _ ⟨rfl, rfl⟩ ⟨mm, ns', F9, M, N9, RL', e ▸ nd⟩ ra)
end
end Mine

end
section
open PySem PySem.W PySem.Spec PySem.Calls PyProof.Rows
namespace Mine
set_option maxRecDepth 100000
set_option linter.unusedVariables false
section
variable {w : World} {K : Frag} {F : Fn} {n : Nat} {b : Bool} {c : Cx w K F n b} {E : Value → Shared → Prop} {m : AM} {l : AL}
theorem Cp.ne_nil {r D : Addr} {vs : List AV} (h1 : (r, AO.list vs) ∈ l) (h2 : (D, AO.list []) ∈ l) : Cp c E m l .NotEq (.ref r) (.ref D) (vs ≠ []) := fun Q h tk u u' S ru ru' k => by
  cases ru
  cases ru'
  (refine El.eeaxx (S.list h1) fun us q hD rs => ?_)
  (refine El.eeaxx (S.list h2) fun us' q' hD' rs' => ?_)
  cases rs'
  have hl : h.IsList r us.toArray := ⟨_, hD, rfl, _, rfl⟩
  have hl' : h.IsList D ([] : List Value).toArray := ⟨_, hD', rfl, _, rfl⟩
  have hu : c.A.units < cLine := by have := c.hun; show c.un < cLine; omega
  cases rs with
  | nil =>
    refine SeqAt.RcNeAt.lists (s := c.at h tk) (e := fun _ => true) hl hl' rfl hu (fun j a b => absurd a (by simp)) prog w E Q ?_
    exact (k h tk S).2 fun q => q rfl
  | cons r rs =>
    refine SeqAt.RcNeAt.lists_lengths (s := c.at h tk) hl hl' (by simp) hu prog w E Q ?_
    exact (k h tk S).1 (by simp)
theorem Upd.mid {a : Addr} {o o' : AO} {post : AL} : ∀ {pre : AL}, Mine.Upd a o o' (pre ++ (a, o) :: post) (pre ++ (a, o') :: post)
  | [] => .head
  | _ :: _ => .tail Upd.mid
theorem Upd.mid2 {a : Addr} {o o' : AO} {q : Addr × AO} {post : AL} : ∀ {pre : AL}, Mine.Upd a o o' (pre ++ q :: (a, o) :: post) (pre ++ q :: (a, o') :: post)
  | [] => .tail .head
  | _ :: _ => .tail Upd.mid2
theorem Ex.bin {op : Operator} {e1 e2 : PySem.Expr} {pos : Pos} {R1 R : AV → AL → Prop} (h1 : Ex c E m l e1 R1) (h2 : ∀ x l', R1 x l' → ∃ y v, Ev c E m l' e2 y ∧ Bop op x y v ∧ R v l') : Ex c E m l (.BinOp e1 op e2 pos) R := fun Q h tk S k =>
  G_BinOp (h1 _ h tk S fun h' tk' u x l' hR S' r => by
    (refine El.eeaxaxx (h2 x l' hR) fun y v he ho hv => ?_)
    exact he _ h' tk' S' fun h'' tk'' u' S'' r' => G_any c.hΓ (ho r r' fun v' t hv' => k h'' t v' v l' hv S'' hv'))
theorem Tx.cmp {op : CmpOp} {e1 e2 : PySem.Expr} {pos : Pos} {R1 : AV → AL → Prop} {T : Bool → AL → Prop} (h1 : Ex c E m l e1 R1) (h2 : ∀ x l', R1 x l' → ∃ y p, Ev c E m l' e2 y ∧ Cop op x y p ∧ (p → T true l') ∧ (¬ p → T false l')) (hm : behindInMarks op e2 = false) : Tx c E m l (.Compare e1 [op] [e2] pos) T := fun Q h tk S k =>
  G_isTrue_Compare (h1 _ h tk S fun h' tk' u x l' hR S' r => by
    (refine El.eex (h2 x l' hR) fun y p zq7 => ?_; refine El.axaxaxx (zq7) fun he ho ht hf => ?_; try clear zq7)
    exact he _ h' tk' S' fun h'' tk'' u' S'' r' => G_any c.hΓ (ho r r' fun t =>
      ⟨fun hp => G_any c.hΓ (wpAny_truthy_bool (k h'' t true l' (ht hp) S'')), fun hp => G_any c.hΓ (wpAny_truthy_bool (k h'' t false l' (hf hp) S''))⟩)) hm
theorem Tx.or {e : PySem.Expr} {rest : List PySem.Expr} {pos : Pos} {T1 T : Bool → AL → Prop} (h1 : Tx c E m l e T1) (ht : ∀ l', T1 true l' → T true l') (hf : ∀ l', T1 false l' → Tx c E m l' (.BoolOp .Or rest pos) T) : Tx c E m l (.BoolOp .Or (e :: rest) pos) T := fun Q h tk S k =>
  G_isTrue_or (h1 _ h tk S fun h' tk' v l' hT S' => by
    cases v with
    | true => exact k h' tk' true l' (ht l' hT) S'
    | false =>
      simp only [Bool.false_eq_true, if_false]
      exact hf l' hT Q h' tk' S' k)
theorem Tx.or_nil {pos : Pos} {T : Bool → AL → Prop} (h : T false l) : Tx c E m l (.BoolOp .Or [] pos) T := fun Q hh tk S k => G_any c.hΓ (isTrue_or_nil (k hh tk false l h S))
theorem Tx.and {e : PySem.Expr} {rest : List PySem.Expr} {pos : Pos} {T1 T : Bool → AL → Prop} (h1 : Tx c E m l e T1) (hf : ∀ l', T1 false l' → T false l') (ht : ∀ l', T1 true l' → Tx c E m l' (.BoolOp .And rest pos) T) : Tx c E m l (.BoolOp .And (e :: rest) pos) T := fun Q h tk S k =>
  G_isTrue_and (h1 _ h tk S fun h' tk' v l' hT S' => by
    cases v with
    | false => exact k h' tk' false l' (hf l' hT) S'
    | true =>
      simp only [if_true]
      exact ht l' hT Q h' tk' S' k)
theorem Tx.and_nil {pos : Pos} {T : Bool → AL → Prop} (h : T true l) : Tx c E m l (.BoolOp .And [] pos) T := fun Q hh tk S k => G_any c.hΓ (isTrue_and_nil (k hh tk true l h S))
theorem Ex.ifexpX {test body orelse : PySem.Expr} {pos : Pos} {T : Bool → AL → Prop} {R : AV → AL → Prop} (ht : Tx c E m l test T) (h1 : ∀ l', T true l' → Ex c E m l' body R) (h2 : ∀ l', T false l' → Ex c E m l' orelse R) : Ex c E m l (.IfExp test body orelse pos) R := fun Q h tk S k =>
  G_IfExp (ht _ h tk S fun h' tk' v l' hT S' => by
    cases v with
    | true => simpa using h1 l' hT Q h' tk' S' k
    | false => simpa using h2 l' hT Q h' tk' S' k)
end
end Mine

end
section
open PySem PySem.W PySem.Spec PySem.Calls PyProof.Rows PyProof.Rows.LCg
namespace Mine
set_option maxRecDepth 100000
set_option linter.unusedVariables false
section
variable {w : World} {K : Frag} {F : Fn} {n : Nat} {b : Bool} {c : Cx w K F n b} {E : Value → Shared → Prop} {m : AM} {l : AL}
theorem RealL.rawC {a : Addr} {o : Obj} {l : AL} {ns : List (Addr × Obj)} (R : RealL w ((a, .raw o) :: l) ns) : ∃ ns', ns = (a, o) :: ns' ∧ RealL w l ns' := by
  cases R with
  | raw r => exact ⟨_, rfl, r⟩
theorem RealL.listC {a : Addr} {xs : List AV} {l : AL} {ns : List (Addr × Obj)} (R : RealL w ((a, .list xs) :: l) ns) : ∃ n vs ns', ns = (a, W.listOf (List.toArray vs) n) :: ns' ∧ Reals xs vs ∧ RealL w l ns' := by
  cases R with
  | list n r R => exact ⟨n, _, _, rfl, r, R⟩
noncomputable abbrev Cx.put (c : Cx w K F n b) (Γ : PySem.Ctx) (h : Γ.In c.A) : Cx w K F n false := ⟨Γ, c.dp, c.un, c.gd, c.cl, c.outer, c.A₀, c.base, c.h₀, c.L, c.s, c.p, c.loose, c.mean, c.mg, c.mb, h, (fun z => nomatch z), c.B, c.X, c.T, c.kind, c.hdp, c.hun⟩
theorem IterK.list {e : PySem.Expr} {D : Addr} {vs : List AV} (H : Ev c E m ((D, .list vs) :: l) e (.ref D)) : IterK c E m ((D, .list vs) :: l) e vs (fun kp l' => ∃ us n, Reals vs us ∧ kp = [(D, W.listOf us.toArray n)] ∧ l' = (D, .raw (W.listOf us.toArray n)) :: l) := fun Q h tk S k =>
  H _ h tk S fun h' tk' u S' r => by
    cases r
    obtain ⟨mm, news, Fr, M, N, RL, nd⟩ := S'
    cases RL with
    | list n r RL =>
      rename_i ns us
      have S' : St c h' m ((D, .raw (W.listOf us.toArray n)) :: l) := ⟨mm, _, Fr, M, N, .raw RL, nd⟩
      have hD := S'.rawM' (.head _)
      have hl : h'.IsList D us.toArray := ⟨_, hD, rfl, _, rfl⟩
      have e : us.toArray.size = vs.length := by rw [List.size_toArray, r.length]
      have W := Walks.list (prog := prog) (w := w) (A := c.A) rfl h'.objs.size D (Nat.ne_of_lt (Heap.lt_size hD)) us.toArray
      rw [e] at W
      refine G_any c.hΓ (wpAny_pyIter_list hl (k _ tk' h'.objs.size _ _ _ _ _ _ ⟨us, n, r, rfl, rfl⟩ (S'.pushRaw _) ⟨W, fun i v hi hp => ?_, fun a ha => ?_, fun i h st => ?_⟩ ?_))
      · obtain ⟨a, ha⟩ : ∃ a, vs[i]? = some a := ⟨_, List.getElem?_eq_getElem hi⟩
        (refine El.eaxx (r.get ha) fun u hu hr => ?_)
        refine ⟨a, ha, ?_⟩
        have : us[i]? = some v := by simpa using hp
        rw [hu] at this; cases this; exact hr
      · rcases List.mem_cons.mp ha with rfl | ha
        · exact .inl rfl
        · exact .inr (.inr ⟨_, by rw [List.mem_singleton.mp ha]; exact .head _⟩)
      · (refine El.axx (st) fun zq50 zz2 => ?_; try clear st; refine El.eaxx (zq50) fun o ho zz1 => ?_; try clear zq50); exact ⟨o, ho⟩
      · exact ⟨⟨_, Heap.get?_push_size _ rfl, rfl, rfl⟩, _, Heap.get?_push_of_some _ hD, rfl, _, rfl⟩
theorem Wb.unraw {ss : List Stmt} {P : Fl → AM → AL → Prop} {D : Addr} {us : List Value} {k : Nat} {vs : List AV} (H : Wb c E m ((D, .list vs) :: l) ss P) (r : Reals vs us) : Wb c E m ((D, .raw (W.listOf us.toArray k)) :: l) ss P := fun Q h tk S kk => H Q h tk (by
  obtain ⟨mm, news, Fr, M, N, RL, nd⟩ := S
  cases RL with
  | raw RL => exact ⟨mm, _, Fr, M, N, .list k r RL, nd⟩) kk
theorem Bop.pow {x y : Int} (hy : 0 ≤ y) (h2 : y ≤ 1000000) (hx : x.natAbs < 2 ^ 64) : Bop .Pow (.int x) (.int y) (.int (x ^ y.toNat)) := by
  (intro w A E Q s zr6 zr7 zr8 zr9 k; refine El.ex (zr8) fun t zz1 => ?_; try clear zr8; (first | subst zz1 | cases zz1); refine El.ex (zr9) fun t' zz2 => ?_; try clear zr9; (first | subst zz2 | cases zz2))
  exact pow_int_small hy h2 hx (k _ _ ⟨_, rfl⟩)
theorem RealL.raws : ∀ {os : List (Addr × Obj)} {l : AL} {ns : List (Addr × Obj)}, RealL w l ns → RealL w (os.map (fun p => (p.1, AO.raw p.2)) ++ l) (os ++ ns)
  | [], _, _, h => h
  | _ :: _, _, _, h => .raw (RealL.raws h)
theorem RealL.unraws : ∀ {os : List (Addr × Obj)} {l : AL} {ns : List (Addr × Obj)}, RealL w (os.map (fun p => (p.1, AO.raw p.2)) ++ l) ns → ∃ ns', ns = os ++ ns' ∧ RealL w l ns'
  | [], _, _, h => ⟨_, rfl, h⟩
  | p :: os, l, ns, h => by
    cases h with
    | raw h => (refine El.eaxx (RealL.unraws (os := os) h) fun ns' zz1 r => ?_; (first | subst zz1 | cases zz1)); exact ⟨ns', rfl, r⟩
theorem Ex.compR {elt iter : PySem.Expr} {x : Str} {px pos : Pos} {scope : Scope} {cl : List (Str × Addr)} {R : AV → AL → Prop} (J : Nat → Nat → List Int → AL → Prop)
    (hclos : closureFor scope c.env = pure cl) (hcell : ∀ y ∈ scope.names, y.2 ≠ .cell) (hkind : scope.kind = .function) (hnames : ∀ y ∈ scope.names, y.2 = .local → scope.names.lookup y.1 = some .local) (hx : scope.names.lookup x = some .local)
    (hit : ∀ (Γ : PySem.Ctx) (hΓ : Γ.In c.A), Ex (c.put Γ hΓ) E m l iter (fun v l' => ∃ (k : Nat) (lJ : AL), k ≤ 10000 ∧ Rng 0 k 1 lJ v l' ∧ J k 0 [] lJ))
    (turn : ∀ (c₁ : Cx w K F n false) k i zs lJ (o3 : AL) C (Q : Value → Shared → Prop) (E' : Value → Shared → Prop) h tk, c₁.cl = c.cl → i < k → zs.length = i → J k i zs lJ → St c₁ h m (o3 ++ lJ) →
      (∀ h' tk' t z lJ', J k (i + 1) (zs ++ [z]) lJ' → St c₁ h' m (o3 ++ lJ') → Q (.int z t) (c₁.at h' tk')) → G (model prog w) c₁.Γ (eval elt (compEnvC scope cl C c₁.env)) Q E' (c₁.at h tk))
    (fin : ∀ k zs lJ D, J k k zs lJ → R (.ref D) ((D, .list (zs.map .int)) :: lJ)) (hs : isSet iter = false) : Ex c E m l (.ListComp elt [⟨.Name x px, iter, [], 0⟩] scope pos) R := fun Q h tk S kk => by
  obtain ⟨mm0, news0, F0, M0, N0, RL0, nd0⟩ := id S
  refine G_any c.hΓ (ListComp_rangeJ (s := c.at h tk) (env := c.env) (Mp := MapOk m) F0 rfl hclos hcell hkind hnames hx ?_ (fun v => set_plain hs))
  intro Γ p hΓ
  refine (hit Γ hΓ _ h tk S (fun h' tk' u v l' hR S' rr => ?_) : G _ Γ _ _ _ _) p
  (refine El.eex (hR) fun k lJ zq51 => ?_; try clear hR; refine El.axaxx (zq51) fun hk zq52 hJ => ?_; try clear zq51; refine El.eeeex (zq52) fun r t u' x' zq53 => ?_; try clear zq52; refine El.axx (zq53) fun zz1 zz2 => ?_; try clear zq53; (first | subst zz1 | cases zz1); (first | subst zz2 | cases zz2))
  cases rr
  obtain ⟨mm, news, Fr, M, N, RL, nd⟩ := S'
  (refine El.eaxx (RL.rawC) fun ns zz1 RL1 => ?_; (first | subst zz1 | cases zz1))
  replace RL := RL1
  rw [List.map_cons, List.nodup_cons] at nd
  refine ⟨r, k, t, u', x', ns, fun i ys nw => ∃ lJ zs, RealL w lJ nw ∧ (nw.map (·.1)).Nodup ∧ IntsAre ys zs ∧ J k i zs lJ, rfl, hk, (N _ (.head _)).1, ⟨mm, M, Fr⟩, fun q hq => N q (.tail _ hq), ⟨lJ, [], RL, nd.2, .nil, hJ⟩, ?_, ?_⟩
  · (intro i ys nw own I C oC D m₂ h2 tk2 E' mm2 hi zr15 hyl hNs hown zr19 M2 F2 N2 off hCI hDI hCD; refine El.eex (zr15) fun lJ zs zq54 => ?_; try clear zr15; refine El.axaxaxx (zq54) fun RL nd hI hJ => ?_; try clear zq54; refine El.ex (zr19) fun oI hoI => ?_; try clear zr19)
    let os : List (Addr × Obj) := [(C, oC), (D, lst ys), (I, oI)]
    have nm : ∀ a, (∀ p ∈ nw, p.1 ≠ a) → a ∉ nw.map (·.1) := fun a h z => by (refine El.eaxx (List.mem_map.mp z) fun p hp e => ?_); exact h p hp e
    have St0 : St (c.put Γ hΓ) h2 m (os.map (fun p => (p.1, AO.raw p.2)) ++ lJ) := ⟨mm2, os ++ nw, F2, M2, fun q hq => by
      rcases List.mem_append.mp hq with hq | hq
      · simp only [os, List.mem_cons, List.not_mem_nil, or_false] at hq
        rcases hq with rfl | rfl | rfl
        · exact N2 _ (.head _)
        · exact N2 _ (.tail _ (.head _))
        · exact N2 _ (.tail _ (.tail _ (List.mem_append_right _ hoI)))
      · exact N2 q (.tail _ (.tail _ (List.mem_append_left _ hq))), RL.raws, by
      simp only [os, List.cons_append, List.nil_append, List.map_cons]
      refine List.nodup_cons.mpr ⟨fun z => ?_, List.nodup_cons.mpr ⟨fun z => ?_, List.nodup_cons.mpr ⟨nm _ fun p hp => (off p hp).1, nd⟩⟩⟩
      · rcases List.mem_cons.mp z with z | z
        · exact hCD z
        · rcases List.mem_cons.mp z with z | z
          · exact hCI z
          · exact nm _ (fun p hp => (off p hp).2.1) z
      · rcases List.mem_cons.mp z with z | z
        · exact hDI z
        · exact nm _ (fun p hp => (off p hp).2.2) z⟩
    intro Γ₁ p₁ hΓ₁
    have hΓ₁' : Γ₁.In c.A := hΓ₁
    refine (turn (c.put Γ₁ hΓ₁') k i zs lJ _ C _ _ h2 tk2 rfl hi (by rw [← hI.length]; exact hyl) hJ St0 (fun h' tk' t z lJ' hJ' S3 => ?_) : G _ Γ₁ _ _ _ _) p₁
    obtain ⟨mm3, news3, F3, M3, N3, RL3, nd3⟩ := S3
    (refine El.eaxx (RL3.unraws) fun nw' zz1 RL4 => ?_; (first | subst zz1 | cases zz1))
    simp only [os, List.cons_append, List.nil_append, List.map_cons] at nd3
    obtain ⟨d1, d2, d3, d4⟩ : C ∉ D :: I :: nw'.map (·.1) ∧ D ∉ I :: nw'.map (·.1) ∧ I ∉ nw'.map (·.1) ∧ (nw'.map (·.1)).Nodup := by
      simpa only [List.nodup_cons] using nd3
    refine ⟨h', tk', nw', mm3, rfl, M3, F3, fun q hq => ?_, fun q hq => ⟨fun z => ?_, fun z => ?_, fun z => ?_⟩, lJ', zs ++ [z], RL4, d4, IntsAre.append hI (.cons _ _ .nil), hJ'⟩
    · rcases List.mem_cons.mp hq with rfl | hq
      · exact N3 _ (.head _)
      · rcases List.mem_cons.mp hq with rfl | hq
        · exact N3 _ (.tail _ (.head _))
        · rcases List.mem_append.mp hq with hq | hq
          · exact N3 q (List.mem_append_right _ hq)
          · have e1 := (N2 q (.tail _ (.tail _ (List.mem_append_right _ hq)))).1
            have e2 := (N2 _ (.tail _ (.tail _ (List.mem_append_right _ hoI)))).1
            have e3 := hown q hq
            have : q = (I, oI) := by
              obtain ⟨q1, q2⟩ := q
              obtain rfl : q1 = I := e3
              rw [e1] at e2; cases e2; rfl
            subst this
            exact N3 _ (.tail _ (.tail _ (.head _)))
    · exact d3 (List.mem_singleton.mp z ▸ List.mem_map_of_mem hq)
    · exact d1 (z ▸ .tail _ (.tail _ (List.mem_map_of_mem hq)))
    · exact d2 (z ▸ .tail _ (List.mem_map_of_mem hq))
  · (intro D h2 tk2 ys nw mm2 zr7 M2 F2 N2 off; refine El.eex (zr7) fun lJ zs zq55 => ?_; try clear zr7; refine El.axaxaxx (zq55) fun RL nd hI hJ => ?_; try clear zq55)
    exact kk h2 tk2 _ (.ref D) _ (fin k zs lJ D hJ) ⟨mm2, _, F2, M2, N2, .list ys.length (reals_ints hI) RL, by
      rw [List.map_cons]
      refine List.nodup_cons.mpr ⟨fun z => ?_, nd⟩
      (refine El.eaxx (List.mem_map.mp z) fun q hq e => ?_)
      exact off q hq e⟩ rfl
theorem Ex.compL {elt iter : PySem.Expr} {x : Str} {px pos : Pos} {scope : Scope} {cl : List (Str × Addr)} {R : AV → AL → Prop} (RI : List AV → AL → Prop) (f : Nat → Int)
    (hclos : closureFor scope c.env = pure cl) (hcell : ∀ y ∈ scope.names, y.2 ≠ .cell) (hkind : scope.kind = .function) (hnames : ∀ y ∈ scope.names, y.2 = .local → scope.names.lookup y.1 = some .local) (hx : scope.names.lookup x = some .local)
    (hit : ∀ (Γ : PySem.Ctx) (hΓ : Γ.In c.A), Ex (c.put Γ hΓ) E m l iter (fun v l' => ∃ D vs l0, v = .ref D ∧ l' = (D, .list vs) :: l0 ∧ vs.length ≤ 10000 ∧ RI vs l0))
    (turn : ∀ (c₁ : Cx w K F n false) vs l0 (i : Nat) v u C m₂ (ld : AL) (Q : Value → Shared → Prop) (E' : Value → Shared → Prop) h tk, c₁.cl = c.cl → RI vs l0 → vs[i]? = some v → Real v u → m₂ x = some u → h.Ns C m₂ → (∀ p ∈ l0, p ∈ ld) → St c₁ h m ld →
      (∀ tk' t, Q (.int (f i) t) (c₁.at h tk')) → G (model prog w) c₁.Γ (eval elt (compEnvC scope cl C c₁.env)) Q E' (c₁.at h tk))
    (fin : ∀ vs l0 D, RI vs l0 → R (.ref D) ((D, .list ((List.range vs.length).map fun i => .int (f i))) :: l0)) (hs : isSet iter = false) : Ex c E m l (.ListComp elt [⟨.Name x px, iter, [], 0⟩] scope pos) R := fun Q h tk S kk => by
  refine G_any c.hΓ ?_
  rw [eval_ListComp]
  refine wpAny_comprehension_free (use := none) rfl (fun v => set_plain hs) hclos hkind hnames ?_
  intro Γ p hΓ
  refine (hit Γ hΓ _ h tk S (fun h' tk' u v l' hR S' rr => ?_) : G _ Γ _ _ _ _) p
  (refine El.eeeaxaxaxx (hR) fun A vs l0 zz1 zz2 hsz hRI => ?_; try clear hR; (first | subst zz1 | cases zz1); (first | subst zz2 | cases zz2))
  cases rr
  obtain ⟨mm, news, Fr, M, N, RL, nd⟩ := S'
  have RL' := RL
  (refine El.eeeaxaxx (RL.listC) fun k us ns zz1 rs RL0 => ?_; (first | subst zz1 | cases zz1))
  have hAx := N (A, W.listOf us.toArray k) (.head _)
  have hax := Heap.lt_size hAx.1
  have hne : A ≠ h'.objs.size := Nat.ne_of_lt hax
  have hl : h'.IsList A us.toArray := ⟨_, hAx.1, rfl, _, rfl⟩
  refine wpAny_pyIter_list (s := c.at h' tk') hl ?_
  have hz : us.toArray.size = us.length := List.size_toArray ..
  have hvl := rs.length
  have WK := KTurns.ofWalks (target := .Name x px) (Walks.list (prog := prog) (w := w) (A := c.A) rfl h'.objs.size A hne us.toArray) fun i v s Q E st q => letGo_name q
  have hI0 : c.h₀.get? h'.objs.size = none := fresh_of Fr (Nat.le_refl _)
  refine comp_block (s₂ := c.at (h'.push { cls := .type "list_iterator", data := .fields #[.ref A, .int 0 0] }) tk') (keep := [(A, W.listOf us.toArray k)]) (J := fun i ys nw => nw = (A, W.listOf us.toArray k) :: ns ∧ IntsAre ys ((List.range i).map f)) (Mp := fun z => mm = z) (V := fun i m₂ => ∃ v, us[i]? = some v ∧ m₂ x = some v) WK (fun s Q E st hQ => wpAny_pyIter_listiter st.1 hQ) ?_ ?_ (by rw [sizeLine_eq]; omega) ?_ hcell hkind
    ?_ rfl (Fr.push _) (fun p hp => ⟨Heap.get?_push_of_some _ (N p hp).1, (N p hp).2⟩) ?_ ?_ ⟨rfl, .nil⟩ ?_ ?_
  · (intro i h zr3; refine El.axx (zr3) fun zq56 st2 => ?_; try clear zr3; refine El.eaxx (zq56) fun o ho r => ?_; try clear zq56)
    refine ⟨[(h'.objs.size, o)], ⟨fun p hp => ?_, fun b hb => ⟨o, ?_⟩⟩, fun p hp => ?_, fun h' hs hk => ⟨⟨o, hs _ (.head _), r⟩, ?_⟩⟩
    · rw [List.mem_singleton.mp hp]; exact .head _
    · rw [List.mem_singleton.mp hb]; exact .head _
    · rw [List.mem_singleton.mp hp]; exact ho
    · exact ⟨_, hk _ (.head _), rfl, _, rfl⟩
  · intro b hb
    rw [List.mem_singleton.mp hb]
    exact ⟨by show _ < (h'.push _).objs.size; rw [Heap.size_push]; exact Nat.lt_succ_self _, Nat.ne_of_gt Fr.ns.lt, hI0⟩
  · intro C i v s' m' Q' E' hP hn' hq
    exact wpAny_assign_Name (wpAny_storeName_local (lookup_relabel_local hx) hn' (fun h' hn'' hs' => hq h' _ _ ⟨v, by simpa using hP, by simp⟩ hn'' fun c o hc e => hs'.extBut c o hc e) (by simp [compEnvC, relabel, hkind]))
  · exact ⟨⟨_, Heap.get?_push_size _ rfl, rfl, rfl⟩, _, Heap.get?_push_of_some _ hAx.1, rfl, _, rfl⟩
  · intro p hp hw
    exact absurd (Heap.lt_size (N p hp).1) ((List.mem_singleton.mp hw) ▸ Nat.lt_irrefl _)
  · (intro i ys nw zr4 p hp; refine El.axx (zr4) fun zz1 zz2 => ?_; try clear zr4; (first | subst zz1 | cases zz1))
    rw [List.mem_singleton.mp hp]; exact .head _
  · (intro i ys nw own C oC D m₂ h2 tk2 E' zr12 hi zr14 hyl zr16 hNs how zr19 F' N' off' hCw hDw hCD; refine El.axx (zr14) fun zz1 hI => ?_; try clear zr14; (first | subst zz1 | cases zz1); refine El.eaxx (zr16) fun u hu hmv => ?_; try clear zr16; subst zr19)
    intro Γ₁ p₁ hΓ₁
    have hΓ₁' : Γ₁.In c.A := hΓ₁
    have hi' : i < vs.length := by omega
    (refine El.eaxx (rs.get (List.getElem?_eq_getElem hi')) fun u' hu' ru => ?_)
    rw [hu] at hu'; cases hu'
    have S2 : St (c.put Γ₁ hΓ₁') h2 m ((A, .list vs) :: l0) := ⟨mm, _, F', M, fun q hq => N' q (.tail _ (.tail _ (List.mem_append_left _ hq))), RL', nd⟩
    refine (turn (c.put Γ₁ hΓ₁') vs l0 i vs[i] u C m₂ _ _ _ h2 tk2 rfl hRI (List.getElem?_eq_getElem hi') ru hmv (hNs.ns (N' _ (.head _)).1) (fun q hq => .tail _ hq) S2 (fun tk' t => ?_) : G _ Γ₁ _ _ _ _) p₁
    refine ⟨h2, tk', _, _, rfl, rfl, F', N', off', rfl, ?_⟩
    rw [List.range_succ, List.map_append]
    exact IntsAre.append hI (.cons _ _ .nil)
  · (intro D C h2 tk2 m' ys nw zr8 zr9 zr10 F' N' hns hC₀ hD₀ hCL hDL hCD offC offD; refine El.axx (zr9) fun zz1 hI => ?_; try clear zr9; (first | subst zz1 | cases zz1); subst zr10)
    refine ⟨m', hns, fun h'' hs'' => ?_⟩
    (refine El.axx (comp_fin F' N' hs'' hC₀ hCL hCD offC) fun F2 N2 => ?_)
    have hI' := reals_ints hI
    rw [hz] at hI'
    rw [hvl, List.map_map] at hI'
    refine kk h'' tk2 _ (.ref D) _ (fin vs l0 D hRI) ⟨mm, (D, lst ys) :: ns, F2, M, fun q hq => N2 q ?_, .list ys.length hI' RL0, ?_⟩ rfl
    · rcases List.mem_cons.mp hq with rfl | hq
      · exact .head _
      · exact .tail _ (.tail _ hq)
    · rw [List.map_cons]
      refine List.nodup_cons.mpr ⟨fun z => ?_, (List.nodup_cons.mp nd).2⟩
      (refine El.eaxx (List.mem_map.mp z) fun q hq e => ?_)
      exact offD q (.tail _ hq) e
end
end Mine

end
section
open PySem PySem.W PySem.Spec PySem.Calls PyProof.Rows PyProof.Rows.LCg
namespace Mine
set_option maxRecDepth 100000
set_option linter.unusedVariables false
section
variable {w : World} {K : Frag} {F : Fn} {n : Nat} {b : Bool} {c : Cx w K F n b} {E : Value → Shared → Prop} {m : AM} {l : AL}
theorem St.grow {h h' : Heap} (S : St c h m l) (k : ∀ a o, h.get? a = some o → h'.get? a = some o) : St c h' m l := by
  obtain ⟨mm, news, Fr, M, N, RL, nd⟩ := S
  exact ⟨mm, news, Fr.keeps k, M, N.grown k, RL, nd⟩
theorem Bw.min2 {x y : Int} : Bw c E m (.builtin "min") [.int x, .int y] l (Is (.int (if y < x then y else x)) l) := fun Q h tk us S r k => by
  (refine El.eex (r.two) fun u1 u2 zq47 => ?_; refine El.axaxx (zq47) fun zz1 zq48 zq49 => ?_; try clear zq47; refine El.ex (zq48) fun t zz2 => ?_; try clear zq48; refine El.ex (zq49) fun t' zz3 => ?_; try clear zq49; (first | subst zz1 | cases zz1); (first | subst zz2 | cases zz2); (first | subst zz3 | cases zz3))
  refine G_any c.hΓ (min_two_ints (s := c.at h tk) rfl fun h' tk' hk => ?_)
  have S' := S.grow hk
  by_cases hlt : y < x
  · rw [if_pos hlt] at k ⊢; exact k h' tk' _ _ _ ⟨rfl, rfl⟩ S' ⟨_, rfl⟩
  · rw [if_neg hlt] at k ⊢; exact k h' tk' _ _ _ ⟨rfl, rfl⟩ S' ⟨_, rfl⟩
theorem Bw.defH {F' : Fn} {name : Str} {params : Arguments} {body : List Stmt} {xs : List Str} {d : Nat} {args : List AV} {R : AV → AL → Prop} (P : Heap → Prop) (hP : P c.h₀) (hPk : ∀ g g', P g → (∀ a o, g.get? a = some o → g'.get? a = some o) → P g')
    (hF : FnIn K F' name params body) (hB : Binds F' name params body xs) (hp : plainFn F' xs = true) (hlen : args.length = xs.length) (hd : d + 1 ≤ n)
    (H : ∀ (c' : Cx w K F' d false) (E : Value → Shared → Prop), P c'.h₀ → Wb c' E (xs.zip args) l body (Rt R)) : Bw c E m (.ref F'.addr) args l R := fun Q h tk us S hr k => by
  obtain ⟨mm, news, Fr₀, M, N, RL, nd⟩ := S
  (refine El.aeeeeeeexx (hF) fun doc pm an ct oc od osl hlk hcd => ?_; try clear hF)
  have hul : us.length = xs.length := by rw [hr.length, hlen]
  simp only [plainFn, Bool.and_eq_true, List.all_eq_true, decide_eq_true_eq, Bool.not_eq_true'] at hp
  (refine El.aaaaaxxxxxx (hp) fun hloc hkind hco hgen hcell hnd => ?_; try clear hp)
  have hdp := c.hdp
  have hun := c.hun
  refine G_defQ (q := False) (binds := xs.zip us) c.hΓ (fun z => z.elim) c.B Fr₀ c.X N c.T rfl rfl c.kind hlk hcd (by show c.dp < _; omega) (BindsTo.of_eq (hB _ _ _ _ _ hul)) (fun y hy => hloc _ (List.of_mem_zip hy).1) (fun g L' h₁ Γ' hΓ' hC' F₁ F₂ N' B' X' T' => ?_) hco hgen hkind (fun x hx => by simpa using hcell x hx)
  refine H ⟨Γ', c.dp + 1, c.un + 3, c.gd, [], c.env :: c.outer, c.A, c.base, g, L', c.s, c.p, c.loose, c.mean, c.mg, c.mb, hΓ', (fun z => nomatch z), B', X', T', hkind, by omega, by omega⟩ _ (hPk _ _ hP F₁.keep) _ h₁ _ ⟨_, news, F₂, fun x v hx => ?_, N', RL, nd⟩ fun f f' m' l' h' tk' hP S' hf => Rt.leave (c := c) M hP S' hf k
  (refine El.eaxx (zip_lookup hr x v hx) fun u hu r => ?_)
  exact ⟨u, rev_lookup (zip_fst_nodup hnd) hu, r⟩
theorem Gc_take {c : Cx w K F n false} (H : KOk K) {y : Str} {A d : Addr} {z : Int} {np pd pc pos : Pos} {k0 : Nat} {scope : Scope} {C : Addr} {ld : AL} {R : AV → AL → Prop} {Q E' : Value → Shared → Prop} {h : Heap} {tk : Nat}
    (hk : scope.kind = .function) (hy : (relabel scope c.env).names.lookup y = some .cell) (ht : (relabel scope c.env).names.lookup (Str.ofString "_law_take") = some .globalImplicit) (hd : (y == ("__debug__" : Str)) = false)
    (S : St c h m ld) (hm : (A, AO.cell (.ref d)) ∈ ld) (hC : Cw w K 443 1 false [.ref d, .int z] ld R) (hn : 1 ≤ n) (kq : ∀ h' tk' u v l', R v l' → St c h' m l' → Real v u → Q u (c.at h' tk')) :
    G (model prog w) c.Γ (eval (.Call (.Name (Str.ofString "_law_take") np) [.Name y pd, .Constant (.int z) k0 pc] [] pos) (compEnvC scope [(y, A)] C c.env)) Q E' (c.at h tk) := by
  (refine El.eaxx (H.globs (Str.ofString "_law_take") (.ref 443) rfl) fun u hu zz1 => ?_; (first | subst zz1 | cases zz1))
  have S0 := S
  obtain ⟨mm, news, Fr, M, N, RL, nd⟩ := S
  (refine El.eeaxaxx (RL.cellM hm) fun o um hm1 hm2 zz1 => ?_; (first | subst zz1 | cases zz1))
  refine G_Call (G_any c.hΓ (LCgL.ld_global (s := c.at h tk) Fr c.X c.T hu ?_ rfl hk ht (by decide)))
  refine G_callWith (P := K.In) (fun h X => keeps_of (H.keepA (by decide +kernel)) h X) (G_args_cons (G_any c.hΓ (ldCellK (s := c.at h tk) (c := A) (v := .ref d) (by simp) ⟨o, (N _ hm1).1, hm2⟩ (G_args_cons (G_any c.hΓ (wpAny_Constant_int (G_args_nil ⟨S0.in, ?_⟩))) rfl) hk hy hd)) rfl) rfl rfl
  exact hC _ _ _ c E' m Q h _ _ hn (fun q => nomatch q) S0 (.cons rfl (.cons ⟨_, rfl⟩ .nil)) kq
theorem Gc_abs {c : Cx w K F n false} (H : KOk K) {y : Str} {x : Int} {u : Value} {pa pi po p1 p2 : Pos} {scope : Scope} {cl : List (Str × Addr)} {C : Addr} {ld : AL} {Q E' : Value → Shared → Prop} {h : Heap} {tk : Nat} {m₂ : Str → Option Value}
    (hk : scope.kind = .function) (hy : (relabel scope c.env).names.lookup y = some .local) (h1 : (relabel scope c.env).names.lookup (Str.ofString "abs") = some .globalImplicit) (h2 : (relabel scope c.env).names.lookup (Str.ofString "int") = some .globalImplicit) (hd : (y == ("__debug__" : Str)) = false)
    (S : St c h m ld) (hm : m₂ y = some u) (hN : h.Ns C m₂) (r : Real (.int x) u) (kq : ∀ tk' t, Q (.int (if x < 0 then -x else x) t) (c.at h tk')) :
    G (model prog w) c.Γ (eval (.Call (.Name (Str.ofString "abs") pa) [.Call (.Name (Str.ofString "int") pi) [.Name y po] [] p1] [] p2) (compEnvC scope cl C c.env)) Q E' (c.at h tk) := by
  (refine El.ex (r) fun t zz1 => ?_; try clear r; (first | subst zz1 | cases zz1))
  obtain ⟨mm, news, Fr, M, N, RL, nd⟩ := S
  refine G_Call (G_any c.hΓ (LCgL.ld_built (s := c.at h tk) Fr c.X c.T (H.bts _ (by decide)) (v := .builtin "abs") (by kernel_rfl) (by decide) ?_ rfl rfl hk h1 (by decide)))
  refine G_callWith (P := fun _ => True) (fun _ _ => ⟨.machine, .inr (.inl rfl), Looks.of_pure rfl⟩) (G_args_cons ?_ rfl) rfl rfl
  refine G_Call (G_any c.hΓ (LCgL.ld_built (s := c.at h tk) Fr c.X c.T (H.bts _ (by decide)) (v := .type "int") (by kernel_rfl) (by decide) ?_ rfl rfl hk h2 (by decide)))
  refine G_callWith (P := fun _ => True) (fun _ _ => ⟨.machine, .inr (.inl rfl), Looks.of_pure rfl⟩) (G_args_cons (G_any c.hΓ (ldVarK (s := c.at h tk) hN hm (G_args_nil ⟨trivial, G_any c.hΓ (call_int_int (G_args_nil ⟨trivial, G_any c.hΓ (call_abs_int fun u tk' => kq tk' u)⟩))⟩) hk hy hd)) rfl) rfl rfl
theorem Gc_attr {c : Cx w K F n false} (H : KOk K) {y x : Str} {I C0 : Addr} {fs : List (Str × AV)} {v : AV} {u : Value} {pa po : Pos} {scope : Scope} {cl : List (Str × Addr)} {C : Addr} {ld : AL} {Q E' : Value → Shared → Prop} {h : Heap} {tk : Nat} {m₂ : Str → Option Value}
    (hk : scope.kind = .function) (hy : (relabel scope c.env).names.lookup y = some .local) (hd : (y == ("__debug__" : Str)) = false)
    (S : St c h m ld) (hm : m₂ y = some (.ref I)) (hN : h.Ns C m₂) (hi : (I, AO.inst C0 fs) ∈ ld) (hC : (clsTab.any (fun p => p.1 == C0) && attrTab.contains (C0, x) && v.handed) = true) (hv : fs.lookup x = some v) (kq : ∀ u, Real v u → Q u (c.at h (tk + 1))) :
    G (model prog w) c.Γ (eval (.Attribute (.Name y po) x pa) (compEnvC scope cl C c.env)) Q E' (c.at h tk) := by
  simp only [Bool.and_eq_true, List.contains_iff_mem] at hC
  (refine El.ex (cls_any hC.1.1) fun fi hfi => ?_)
  exact G_Attribute c.hΓ (G_any c.hΓ (ldVarK (s := c.at h tk) hN hm (G_any c.hΓ (S.attr H hi hfi hC.1.2 hv hC.2 kq)) hk hy hd)) rfl
theorem Ev.item_last {e1 e2 : PySem.Expr} {pos : Pos} {D : Addr} {vs : List AV} {v : AV} (h1 : Ev c E m l e1 (.ref D)) (h2 : Ev c E m l e2 (.int (-1))) (hm : (D, AO.list vs) ∈ l) (h0 : 1 ≤ vs.length) (hv : vs[vs.length - 1]? = some v) (hs : isSlice e2 = false) : Ev c E m l (.Subscript e1 e2 pos) v := fun Q h tk S k =>
  G_Subscript (h1 _ h tk S fun h' tk' u S' r => h2 _ h' tk' S' fun h'' tk'' u' S'' r' => by
    cases r
    (refine El.ex (r') fun t' zz1 => ?_; try clear r'; (first | subst zz1 | cases zz1))
    (refine El.eeaxx (S''.list hm) fun us n hD rs => ?_)
    (refine El.eaxx (rs.get hv) fun u hu hr => ?_)
    have hz := rs.length
    have hl : h''.IsList D us.toArray := ⟨_, hD, rfl, _, rfl⟩
    refine G_any c.hΓ (PyProof.Rows.tail_any hl.typeIs slot_list_getitem.lookup (wpAny_getItem_list_neg hl (by decide) (by simp; omega) (by decide) ?_ (k h'' tk'' u S'' hr)) (subs_plain hs))
    rw [List.size_toArray, hz, show ((-1 : Int) + (vs.length : Int)).toNat = vs.length - 1 by omega]
    simpa using hu)
noncomputable def isName : PySem.Expr → Bool
  | .Name .. => true
  | _ => false
theorem go_name {e : PySem.Expr} {o r : Value} (h : isName e = true) : letTemporaryGo e o r = pure () := by
  cases e <;> first | rfl | cases h
theorem Ex.list_cut {e1 e3 : PySem.Expr} {sp pos : Pos} {D : Addr} {j : Int} {R : AV → AL → Prop} (h1 : Ev c E m l e1 (.ref D)) (h3 : Ev c E m l e3 (.int j)) (hn : isName e1 = true)
    (hD : ∀ h, St c h m l → ∃ (us : List Value), h.IsList D us.toArray ∧ us.length ≤ 1000 ∧ ∀ D', ∃ vs, Reals vs (slicePick us.toArray none (some j) none).toList ∧ R (.ref D') ((D', .list vs) :: l)) :
    Ex c E m l (.Subscript e1 (.Slice none (some e3) none sp) pos) R := fun Q h tk S k =>
  G_Subscript (h1 _ h tk S fun h' tk' u S' r => G_Slice c.hΓ (Pt.no _ h' tk' S' fun h₂ tk₂ a S₂ ha => Pt.at h3 _ h₂ tk₂ S₂ fun h₃ tk₃ u' S₃ hu => by
    cases r
    (refine El.eaxaxx (hD h₃ S₃) fun us hl hz hR => ?_)
    obtain ⟨mm, news, Fr, M, N, RL, nd⟩ := S₃
    (refine El.eaxx (hR (h₃.objs.size + 1)) fun vs hr hRR => ?_)
    refine G_any c.hΓ (slice_list (s := c.at h₃ tk₃) Fr N hl ha hu (fun h₄ F₄ N₄ => k h₄ _ _ (.ref (h₃.objs.size + 1)) _ hRR ⟨mm, _, F₄, M, N₄, .list 0 hr RL, ?_⟩ rfl) rfl (fun _ => go_name hn) (by rw [List.size_toArray, sizeLine_eq]; omega))
    rw [List.map_cons]
    refine List.nodup_cons.mpr ⟨fun z => ?_, nd⟩
    (refine El.eaxx (List.mem_map.mp z) fun q hq e => ?_)
    have := Heap.lt_size (N q hq).1
    have e' : @Eq Nat q.1 (h₃.objs.size + 1) := e
    have this' : @LT.lt Nat _ q.1 h₃.objs.size := this
    omega))
end
end Mine

end
section
open PySem PySem.W PySem.Spec PySem.Calls PyProof.Rows PyProof.Rows.LCg
namespace Mine
set_option maxRecDepth 100000
set_option linter.unusedVariables false
theorem Rem.of_mem {p : Addr × AO} : ∀ {l : AL}, p ∈ l → ∃ l', Rem p l l' ∧ l.Perm (p :: l')
  | [], h => by cases h
  | q :: l, h => by
    rcases List.mem_cons.mp h with rfl | h
    · exact ⟨l, .head, .refl _⟩
    · (refine El.eaxx (Rem.of_mem h) fun l' a b => ?_)
      exact ⟨q :: l', .tail a, (List.Perm.cons q b).trans (List.Perm.swap p q l')⟩
theorem Pick.of_subperm : ∀ {t l r : AL}, l.Perm (t ++ r) → Pick t l
  | [], _, _, _ => .nil
  | p :: t, l, r, h => by
    (refine El.eaxx (Rem.of_mem (h.mem_iff.mpr (List.mem_append_left _ (.head _)))) fun l' a b => ?_)
    exact .cons a (Pick.of_subperm (r := r) (List.perm_cons p |>.mp (b.symm.trans h)))
theorem Pick.of_perm {t l : AL} (h : l.Perm t) : Pick t l := Pick.of_subperm (r := []) (by simpa using h)
section
variable {w : World} {K : Frag} {F : Fn} {n : Nat} {b : Bool} {c : Cx w K F n b} {E : Value → Shared → Prop} {m : AM} {l : AL}
theorem Ex.item_lX {e1 e2 : PySem.Expr} {pos : Pos} {vs : List AV} {R2 : Addr → AV → AL → Prop} {R : AV → AL → Prop} (h1 : Ex c E m l e1 (New (.list vs) l)) (h2 : ∀ D, Ex c E m ((D, .list vs) :: l) e2 (R2 D))
    (h3 : ∀ D v l', R2 D v l' → ∃ i a, v = .int i ∧ (D, AO.list vs) ∈ l' ∧ 0 ≤ i ∧ i ≤ 100000 ∧ vs[i.toNat]? = some a ∧ R a l') (hs : isSlice e2 = false) : Ex c E m l (.Subscript e1 e2 pos) R := fun Q h tk S k =>
  G_Subscript (h1 _ h tk S fun h' tk' u v l1 hR S' r => by
    (refine El.eaxx (hR) fun D zz1 zz2 => ?_; try clear hR; (first | subst zz1 | cases zz1); (first | subst zz2 | cases zz2))
    cases r
    exact h2 D _ h' tk' S' fun h'' tk'' u' v' l2 hR2 S'' r' => by
      (refine El.eex (h3 D v' l2 hR2) fun i a zq4 => ?_; refine El.axaxaxaxaxx (zq4) fun zz1 hm h0 hi hv hR => ?_; try clear zq4; (first | subst zz1 | cases zz1))
      (refine El.ex (r') fun t' zz1 => ?_; try clear r'; (first | subst zz1 | cases zz1))
      (refine El.eeaxx (S''.list hm) fun us n hD rs => ?_)
      (refine El.eaxx (rs.get hv) fun u hu hr => ?_)
      have hl : h''.IsList D us.toArray := ⟨_, hD, rfl, _, rfl⟩
      exact G_any c.hΓ (PyProof.Rows.tail_any hl.typeIs slot_list_getitem.lookup (wpAny_getItem_list hl h0 (by omega) (by simpa using hu) (k h'' tk'' u a l2 hR S'' hr)) (subs_plain hs)))
theorem Ex.binR {op : Operator} {e1 e2 : PySem.Expr} {pos : Pos} {x : AV} {R2 R : AV → AL → Prop} (h1 : Ev c E m l e1 x) (h2 : Ex c E m l e2 R2) (h3 : ∀ y l', R2 y l' → ∃ v, Bop op x y v ∧ R v l') : Ex c E m l (.BinOp e1 op e2 pos) R := fun Q h tk S k =>
  G_BinOp (h1 _ h tk S fun h' tk' u S' r => h2 _ h' tk' S' fun h'' tk'' u' y l' hR S'' r' => by
    (refine El.eaxx (h3 y l' hR) fun v ho hv => ?_)
    exact G_any c.hΓ (ho r r' fun v' t hv' => k h'' t v' v l' hv S'' hv'))
theorem Ex.methX {o : PySem.Expr} {name : Str} {apos pos cpos : Pos} {e0 : PySem.Expr} {es : List PySem.Expr} {f : Value} {Ro : AV → AL → Prop} {R : AV → AL → Prop} {pl : Sem Bool} (ho : Ex c E m l o Ro)
    (H : ∀ self l0, Ro self l0 → Mt c E m l0 self name f ∧ ∃ RA, Exs c E m l0 (e0 :: es) RA ∧ ∀ vs l', RA vs l' → Bw c E m f (self :: vs) l' R) (hk : Keeps K f) (hs : noStar (e0 :: es) = true)
    (he : eval (.Call (.Attribute o name apos) (e0 :: es) [] pos) c.env = (do
      let ov ← eval o c.env
      standAt apos.atName
      let (f, first) ← holding [ov] (getMethod ov name pl)
      callWith cpos f first (backTo pos (starEach (e0 :: es) c.env)) [])) : Ex c E m l (.Call (.Attribute o name apos) (e0 :: es) [] pos) R := fun Q h tk S k => by
  simp only [noStar, List.all_cons, Bool.and_eq_true, Bool.not_eq_true'] at hs
  rw [he]
  refine G_bind (ho _ h tk S fun h' tk' u self l0 hRo S' r => ?_)
  (refine El.axeaxx (H self l0 hRo) fun hm RA ha C => ?_)
  refine G_bind (G_standAt (G_bind (G_holding (G_any c.hΓ (hm pl _ h' tk' u S' r fun h2 tk2 S2 => ?_)))))
  show G _ _ (callWith cpos f [u] (backTo pos (starEach (e0 :: es) c.env)) []) _ _ _
  have hpl := star_plain (pos := pos) (env := c.env) (es := e0 :: es) (by simp [noStar, hs.1, hs.2])
  have HA := ha (fun us s => K.In s.heap ∧ G (model prog w) c.Γ (PySem.call f ([u] ++ us) []) Q E s) h2 tk2 pos S2 fun h3 tk3 us vs l' hR S3 rs => ⟨S3.in, C vs l' hR Q h3 tk3 (u :: us) S3 (.cons r rs) k⟩
  rw [star_cons hs.1] at HA hpl ⊢
  exact G_callWithB (P := K.In) (fun h X => hk h X) hpl (evalArgs_G HA)
noncomputable abbrev drw (pre post : AL) (d r : Addr) (seed : Int) (rows : List Int) : AL := pre ++ (d, .list [.ref r, .int seed]) :: (r, .list (rows.map .int)) :: post
inductive Took (pre post : AL) (d r : Addr) (many : Int) (v : AV) (l' : AL) : Prop
  | mk (k seed : Int) (rows : List Int) (e : v = .int k) (h0 : 0 ≤ k) (h1 : k < many) (hr : rows.length ≤ 40) (el : l' = drw pre post d r seed rows) : Took pre post d r many v l'
theorem drw_app {o pre post : AL} {d r : Addr} {seed : Int} {rows : List Int} : o ++ drw pre post d r seed rows = drw (o ++ pre) post d r seed rows := by
  simp only [drw, List.append_assoc]
end
end Mine

end
section
open PySem PySem.W PySem.Spec PySem.Calls PyProof.Rows
namespace Mine
set_option maxRecDepth 100000
theorem Reals.oct {as : List AV} {us : List Value} (r : Reals as us) : ∀ ks, AV.bytes ks ∈ as → Oct ks := by
  induction r with
  | nil => intro ks h; cases h
  | cons r _ ih =>
    intro ks h
    rcases List.mem_cons.mp h with e | h
    · subst e
      (refine El.eeaxx (r) fun b t zz1 zz2 => ?_; try clear r; (first | subst zz2 | cases zz2))
      exact oct_bInts b
    · exact ih ks h
theorem Cw.oct {w : World} {K : Frag} {f : Addr} {d : Nat} {b : Bool} {args : List AV} {l : AL} {R : AV → AL → Prop} (H : (∀ ks, AV.bytes ks ∈ args → Oct ks) → Cw w K f d b args l R) : Cw w K f d b args l R :=
  fun F n b' c E m Q h tk us hd hb S r k => H r.oct F n b' c E m Q h tk us hd hb S r k
inductive Sort4 where
  | initial | zero | handshake | short
structure Pk where
  sort : Sort4
  sp : Int
  kp : Int
  d : List Int
  sc : List Int
  tok : List Int
  num : Int
  pay : List Int
noncomputable def Sort4.word : Sort4 → Str
  | .initial => Str.ofString "initial"
  | .zero => Str.ofString "zero"
  | .handshake => Str.ofString "handshake"
  | .short => Str.ofString "short"
noncomputable def Sort4.space : Sort4 → Str
  | .initial => Str.ofString "initial"
  | .handshake => Str.ofString "handshake"
  | _ => Str.ofString "application"
noncomputable def Pk.tup (p : Pk) : List AV := match p.sort with
  | .initial => [.str (Str.ofString "initial"), .int 1, .bytes p.d, .bytes p.sc, .bytes p.tok, .int p.num, .bytes p.pay]
  | .zero => [.str (Str.ofString "zero"), .int 1, .bytes p.d, .bytes p.sc, .int p.num, .bytes p.pay]
  | .handshake => [.str (Str.ofString "handshake"), .int 1, .bytes p.d, .bytes p.sc, .int p.num, .bytes p.pay]
  | .short => [.str (Str.ofString "short"), .int p.sp, .int p.kp, .bytes p.d, .int p.num, .bytes p.pay]
structure Pk.Ok (p : Pk) : Prop where
  sp0 : 0 ≤ p.sp
  sp1 : p.sp ≤ 1
  kp0 : 0 ≤ p.kp
  kp1 : p.kp ≤ 1
  dl : p.d.length ≤ 20
  sl : p.sc.length ≤ 20
  tl : p.tok.length < 64
  n0 : 0 ≤ p.num
  n1 : p.num < 2147483647
  pl : p.pay.length ≤ 20
theorem Pk.tup_len (p : Pk) : 4 ≤ p.tup.length ∧ p.tup.length ≤ 7 := by unfold Pk.tup; split <;> exact ⟨by simp, by simp⟩
theorem Pk.tup_number (p : Pk) : p.tup[p.tup.length - 2]? = some (.int p.num) := by unfold Pk.tup; split <;> rfl
theorem Pk.tup_payload (p : Pk) : p.tup[p.tup.length - 1]? = some (.bytes p.pay) := by unfold Pk.tup; split <;> rfl
theorem Pk.tup_first (p : Pk) : p.tup[0]? = some (.str p.sort.word) := by unfold Pk.tup; split <;> rename_i h <;> rw [h] <;> rfl
noncomputable def headBytes (p : Pk) (ns rest : Int) : List Int :=
  match p.sort with
  | .initial => longHd 0 ns p.d p.sc ((p.tok.length : Int) :: p.tok) rest
  | .zero => longHd 1 ns p.d p.sc [] rest
  | .handshake => longHd 2 ns p.d p.sc [] rest
  | .short => (64 + 32 * p.sp + 4 * p.kp + ns - 1) :: p.d
noncomputable def cutOf (num sz : Int) : List Int := be sz.toNat (num.fmod (1 * 2 ^ (8 * sz).toNat))
noncomputable def headOf (p : Pk) (sz : Int) : List Int := headBytes p sz (sz + (padded p.pay sz).length + 16)
noncomputable def packetBytes (key : List Int) (p : Pk) (sz : Int) : List Int := sealedPacket key p.num (headOf p sz) (cutOf p.num sz) (padded p.pay sz)
theorem longHd_length (i ns : Int) (kd ks mid : List Int) (rest : Int) : (longHd i ns kd ks mid rest).length = kd.length + ks.length + mid.length + 8 := by
  simp only [longHd, List.length_cons, List.length_append, List.length_nil]; omega
theorem headBytes_length (p : Pk) (h : p.Ok) (ns rest : Int) : 1 ≤ (headBytes p ns rest).length ∧ (headBytes p ns rest).length ≤ 200 := by
  have h1 := h.dl
  have h2 := h.sl
  have h3 := h.tl
  unfold headBytes
  split <;> simp only [longHd_length, List.length_cons, List.length_nil] <;> omega
theorem padded_length (pay : List Int) (sz : Int) : (padded pay sz).length = pay.length + (4 - sz - pay.length).toNat := by
  unfold padded; rw [List.length_append, List.length_replicate]
noncomputable def LaOk (full : Int) (la : AV) (sz : Int) : Prop :=
  (la = .none ∧ sz = nsize (full + 1) ∧ 0 ≤ full ∧ full < 2147483647) ∨ ∃ l, la = .int l ∧ sz = nsize (full - l) ∧ 1 ≤ full - l ∧ full - l ≤ 2147483647
theorem LaOk.range {full sz : Int} {la : AV} (h : LaOk full la sz) : 1 ≤ sz ∧ sz ≤ 4 := by
  rcases h with ⟨_, rfl, _⟩ | ⟨_, _, rfl, _⟩ <;> exact nsize_range _
theorem cutOf_length (num : Int) {sz : Int} (h : 0 ≤ sz) : ((cutOf num sz).length : Int) = sz := by
  unfold cutOf; rw [be_length]; omega
noncomputable def SeenOk (seen : AV) (ex : Int) : Prop := (seen = .none ∧ ex = 0) ∨ ∃ l, seen = .int l ∧ ex = l + 1
end Mine

end
section
open PySem PySem.W PySem.Spec PySem.Calls PyProof.Rows
namespace Mine
set_option maxRecDepth 100000
structure Drawn (kd ks : List Int) (last : Bool) (pk : Pk) : Prop where
  d : pk.d = kd
  sc : pk.sc = ks
  last : last = false → pk.sort ≠ .short
  sp0 : 0 ≤ pk.sp
  sp1 : pk.sp ≤ 1
  kp0 : 0 ≤ pk.kp
  kp1 : pk.kp ≤ 1
  n0 : 0 ≤ pk.num
  n1 : pk.num < 1073741824
  pl : pk.pay.length ≤ 6
  tl : pk.tok.length ≤ 5
  po : Oct pk.pay
noncomputable def KnownOk (num : Int) (la seen : AV) : Prop :=
  (la = .none ∧ num < 200 ∧ (seen = .none ∨ seen = .int (num - 1))) ∨ ∃ a s, la = .int a ∧ seen = .int s ∧ 0 ≤ a ∧ a ≤ num - 1 ∧ num - 1 - a < 40000 ∧ a ≤ s ∧ s < num + 20
theorem Drawn.ok {kd ks : List Int} {last : Bool} {pk : Pk} (h : Drawn kd ks last pk) (h1 : kd.length ≤ 20) (h2 : ks.length ≤ 20) : pk.Ok :=
  ⟨h.sp0, h.sp1, h.kp0, h.kp1, by rw [h.d]; exact h1, by rw [h.sc]; exact h2, by have := h.tl; omega, h.n0, by have := h.n1; omega, by have := h.pl; omega⟩
noncomputable def leftPk (ko ks : List Int) : Pk := ⟨.handshake, 0, 0, ko, ks, [], 5, [108, 101, 102, 116, 32, 111, 117, 116]⟩
theorem leftPk_ok {ko ks : List Int} (h1 : ko.length ≤ 20) (h2 : ks.length ≤ 20) : (leftPk ko ks).Ok :=
  ⟨Int.le_refl 0, show (0 : Int) ≤ 1 by decide, Int.le_refl 0, show (0 : Int) ≤ 1 by decide, h1, h2, show ([] : List Int).length < 64 by decide, show (0 : Int) ≤ 5 by decide, show (5 : Int) < 2147483647 by decide, by show [_, _, _, _, _, _, _, _].length ≤ 20; decide⟩
theorem known_la {num : Int} {la seen : AV} (h : KnownOk num la seen) (h0 : 0 ≤ num) (h1 : num < 1073741824) : ∃ sz, LaOk num la sz := by
  rcases h with ⟨rfl, h2, _⟩ | ⟨a, s, rfl, rfl, h2, h3, h4, _⟩
  · exact ⟨_, .inl ⟨rfl, rfl, h0, by omega⟩⟩
  · exact ⟨_, .inr ⟨a, rfl, rfl, by omega, by omega⟩⟩
end Mine

end
section
open PySem PySem.W PySem.Spec PySem.Calls PyProof.Rows
namespace Mine
set_option maxRecDepth 100000
structure Item where
  pk : Pk
  la : AV
  seen : AV
  sz : Int
  left : Bool
noncomputable def Item.bytes (kk ko ks : List Int) (it : Item) : List Int := packetBytes kk it.pk it.sz ++ (if it.left then packetBytes kk (leftPk ko ks) 1 else [])
noncomputable def wholeOf (kk ko ks : List Int) : List Item → List Int
  | [] => []
  | it :: r => it.bytes kk ko ks ++ wholeOf kk ko ks r
theorem wholeOf_append (kk ko ks : List Int) (a b : List Item) : wholeOf kk ko ks (a ++ b) = wholeOf kk ko ks a ++ wholeOf kk ko ks b := by
  induction a with
  | nil => rfl
  | cons x a ih => simp only [List.cons_append, wholeOf, ih, List.append_assoc]
structure ItemOk (kd ks : List Int) (last : Bool) (it : Item) : Prop where
  drawn : Drawn kd ks last it.pk
  known : KnownOk it.pk.num it.la it.seen
  la : LaOk it.pk.num it.la it.sz
  left : it.left = true → it.pk.sort ≠ .short
noncomputable def ItemsOk (kd ks : List Int) (n : Nat) (items : List Item) : Prop := ∀ (j : Nat) (it : Item), items[j]? = some it → ItemOk kd ks (decide (j + 1 = n)) it
inductive SentLs : List Item → List Addr → AL → Prop
  | nil : SentLs [] [] []
  | cons {it : Item} {its : List Item} {Ts : List Addr} {os : AL} (T P : Addr) : SentLs its Ts os → SentLs (it :: its) (T :: Ts) ((T, .tup [.ref P, it.seen]) :: (P, .tup it.pk.tup) :: os)
theorem SentLs.snoc {a : List Item} {Ts : List Addr} {os : AL} (h : SentLs a Ts os) (it : Item) (T P : Addr) : SentLs (a ++ [it]) (Ts ++ [T]) (os ++ [(T, .tup [.ref P, it.seen]), (P, .tup it.pk.tup)]) := by
  induction h with
  | nil => exact .cons T P .nil
  | cons T' P' _ ih => exact .cons T' P' ih
theorem SentLs.length {a : List Item} {Ts : List Addr} {os : AL} (h : SentLs a Ts os) : Ts.length = a.length := by
  induction h with
  | nil => rfl
  | cons _ _ _ ih => simp only [List.length_cons, ih]
theorem SentLs.get : ∀ {items : List Item} {Ts : List Addr} {os : AL}, SentLs items Ts os → ∀ {i : Nat} {it : Item}, items[i]? = some it → ∃ T P, Ts[i]? = some T ∧ (T, AO.tup [.ref P, it.seen]) ∈ os ∧ (P, AO.tup it.pk.tup) ∈ os
  | _, _, _, .nil, _, _, h => by cases h
  | _, _, _, .cons T P _, 0, it, h => by cases h; exact ⟨T, P, rfl, .head _, .tail _ (.head _)⟩
  | _, _, _, .cons _ _ r, i + 1, it, h => by
    (refine El.eeaxaxx (r.get (i := i) (it := it) (by simpa using h)) fun T P e m1 m2 => ?_)
    exact ⟨T, P, by simpa using e, .tail _ (.tail _ m1), .tail _ (.tail _ m2)⟩
theorem packet_len (kk : List Int) {pk : Pk} (ok : pk.Ok) {sz : Int} (h1 : 1 ≤ sz) (h2 : sz ≤ 4) : ((packetBytes kk pk sz).length : Int) = (headOf pk sz).length + sz + (padded pk.pay sz).length + 16 ∧ (packetBytes kk pk sz).length ≤ 300 := by
  have hb := headBytes_length pk ok sz (sz + (padded pk.pay sz).length + 16)
  have hh : (headOf pk sz) = headBytes pk sz (sz + (padded pk.pay sz).length + 16) := rfl
  have hp := padded_length pk.pay sz
  have hpl := ok.pl
  have hc := cutOf_length pk.num (sz := sz) (by omega)
  have e : (packetBytes kk pk sz).length = 1 + ((headOf pk sz).length - 1) + (cutOf pk.num sz).length + ((padded pk.pay sz).length + 16) := by
    unfold packetBytes sealedPacket
    simp only [List.length_cons, List.length_append, List.length_drop, turnedNumber_length, sealedOf_length]
    omega
  rw [← hh] at hb
  omega
theorem item_len (kk : List Int) {kd ks : List Int} {last : Bool} {it : Item} (h : ItemOk kd ks last it) (ko : List Int) (h1 : kd.length ≤ 8) (h2 : ks.length ≤ 4) (h3 : ko.length ≤ 20) : (it.bytes kk ko ks).length ≤ 600 := by
  have a := packet_len kk (h.drawn.ok (by omega) (by omega)) h.la.range.1 h.la.range.2
  have b := packet_len kk (leftPk_ok (ko := ko) (ks := ks) h3 (by omega)) (sz := 1) (by decide) (by decide)
  unfold Item.bytes
  rw [List.length_append]
  split
  · omega
  · simp only [List.length_nil]; omega
theorem items_len (kk : List Int) {kd ks : List Int} (ko : List Int) (h1 : kd.length ≤ 8) (h2 : ks.length ≤ 4) (h3 : ko.length ≤ 20) : ∀ (items : List Item), (∀ it ∈ items, ∃ last, ItemOk kd ks last it) → (wholeOf kk ko ks items).length ≤ 600 * items.length
  | [], _ => Nat.le_refl 0
  | it :: r, h => by
    (refine El.ex (h it (.head _)) fun last hi => ?_)
    have a := item_len kk hi ko h1 h2 h3
    have b := items_len kk ko h1 h2 h3 r fun x hx => h x (.tail _ hx)
    simp only [wholeOf, List.length_append, List.length_cons]
    omega
theorem ItemsOk.all {kd ks : List Int} {n : Nat} {items : List Item} (h : ItemsOk kd ks n items) : ∀ it ∈ items, ∃ last, ItemOk kd ks last it := fun it hi => by
  obtain ⟨j, hj, rfl⟩ := List.mem_iff_getElem.mp hi
  exact ⟨_, h j _ (List.getElem?_eq_getElem hj)⟩
theorem ItemsOk.snoc {kd ks : List Int} {n : Nat} {items : List Item} {it : Item} (h : ItemsOk kd ks n items) (hi : ItemOk kd ks (decide (items.length + 1 = n)) it) : ItemsOk kd ks n (items ++ [it]) := fun j x hx => by
  rcases Nat.lt_trichotomy j items.length with hj | hj | hj
  · rw [List.getElem?_append_left hj] at hx; exact h j x hx
  · subst hj
    rw [List.getElem?_append_right (Nat.le_refl _), Nat.sub_self] at hx
    cases hx
    exact hi
  · rw [List.getElem?_eq_none (by rw [List.length_append, List.length_singleton]; omega)] at hx
    cases hx
noncomputable def Item.found (it : Item) : Pk := ⟨it.pk.sort, it.pk.sp, it.pk.kp, it.pk.d, it.pk.sc, it.pk.tok, it.pk.num, padded it.pk.pay it.sz⟩
theorem Pk.tup_num2 (p : Pk) : seqIndex? (-2) p.tup.length = some (p.tup.length - 2) := by
  have hl := p.tup_len
  have h1 : (0 : Int) ≤ -2 + (p.tup.length : Int) := by omega
  have h2 : (-2 + (p.tup.length : Int)) < p.tup.length := by omega
  have h3 : (-2 + (p.tup.length : Int)).toNat = p.tup.length - 2 := by omega
  simp [seqIndex?, h1, h2, h3]
theorem Pk.tup_num1 (p : Pk) : seqIndex? (-1) p.tup.length = some (p.tup.length - 1) := by
  have hl := p.tup_len
  have h1 : (0 : Int) ≤ -1 + (p.tup.length : Int) := by omega
  have h2 : (-1 + (p.tup.length : Int)) < p.tup.length := by omega
  have h3 : (-1 + (p.tup.length : Int)).toNat = p.tup.length - 1 := by omega
  simp [seqIndex?, h1, h2, h3]
theorem drw_perm {pre post : AL} {d r : Addr} {seed : Int} {rows : List Int} : (drw pre post d r seed rows).Perm ((d, .list [.ref r, .int seed]) :: (r, .list (rows.map .int)) :: (pre ++ post)) :=
  List.perm_middle.trans (List.Perm.cons _ List.perm_middle)
theorem drw_pick {pre post pre' post' : AL} {d r : Addr} {seed : Int} {rows : List Int} (h : ∃ x, (pre ++ post).Perm ((pre' ++ post') ++ x)) : Pick (drw pre' post' d r seed rows) (drw pre post d r seed rows) := by
  obtain ⟨x, h⟩ := h
  exact Pick.of_subperm (r := x) ((drw_perm.trans (List.Perm.cons _ (List.Perm.cons _ h))).trans (List.Perm.append_right x drw_perm).symm)
theorem Upd.post {a : Addr} {o o' : AO} {post post' : AL} {d r : Addr} {seed : Int} {rows : List Int} (U : Mine.Upd a o o' post post') : ∀ {pre : AL}, Mine.Upd a o o' (drw pre post d r seed rows) (drw pre post' d r seed rows)
  | [] => .tail (.tail U)
  | _ :: _ => .tail (Upd.post U)
theorem drw_post {pre post : AL} {d r : Addr} {seed : Int} {rows : List Int} {p : Addr × AO} (h : p ∈ post) : p ∈ drw pre post d r seed rows := List.mem_append_right _ (.tail _ (.tail _ h))
end Mine

end
section
open PySem PySem.W PySem.Spec PySem.Calls PyProof.Rows
namespace Mine
set_option maxRecDepth 100000
theorem bx_div {x y : Int} (k : Nat) (hx : 0 ≤ x) (hy : 0 ≤ y) (h : y < 2 ^ k) : Builtin.bitXor x y / 2 ^ k = x / 2 ^ k := by
  have hy' : y.toNat < 2 ^ k := by
    have : (y.toNat : Int) < ((2 ^ k : Nat) : Int) := by rw [Int.toNat_of_nonneg hy, Int.natCast_pow]; exact h
    exact Int.ofNat_lt.mp this
  have e : (x.toNat ^^^ y.toNat) / 2 ^ k = x.toNat / 2 ^ k := by
    rw [Nat.xor_div_two_pow, Nat.div_eq_of_lt hy', Nat.xor_zero]
  rw [bx hx hy]
  have h2 : ((2 ^ k : Nat) : Int) = 2 ^ k := by rw [Int.natCast_pow]; rfl
  rw [← h2, ← Int.natCast_ediv, e, Int.natCast_ediv, Int.toNat_of_nonneg hx]
theorem bx_div16 {x y : Int} (hx : 0 ≤ x) (hy : 0 ≤ y) (h : y ≤ 15) : Builtin.bitXor x y / 16 = x / 16 := bx_div 4 hx hy (by show y < 16; omega)
theorem bx_div32 {x y : Int} (hx : 0 ≤ x) (hy : 0 ≤ y) (h : y ≤ 31) : Builtin.bitXor x y / 32 = x / 32 := bx_div 5 hx hy (by show y < 32; omega)
theorem tf_long {f : Int} {m : List Int} (h : 128 ≤ f) (hm : Oct m) : turnedFirst f m / 16 = f / 16 := by
  have hb := getD_in hm 0
  have := band_in hb.1 (show (0 : Int) ≤ 15 by decide)
  unfold turnedFirst
  rw [if_pos h]
  exact bx_div16 (by omega) this.1 this.2
theorem tf_short {f : Int} {m : List Int} (h0 : 0 ≤ f) (h : f < 128) (hm : Oct m) : turnedFirst f m / 32 = f / 32 := by
  have hb := getD_in hm 0
  have := band_in hb.1 (show (0 : Int) ≤ 31 by decide)
  unfold turnedFirst
  rw [if_neg (by omega)]
  exact bx_div32 h0 this.1 this.2
theorem tf_twice {f : Int} {m : List Int} (h0 : 0 ≤ f) (h1 : f < 256) (hm : Oct m) : turnedFirst (turnedFirst f m) m = f := by
  have hb := getD_in hm 0
  by_cases h : 128 ≤ f
  · have hg : 128 ≤ turnedFirst f m := by have := tf_long h hm; omega
    have hx := band_in hb.1 (show (0 : Int) ≤ 15 by decide)
    have e : turnedFirst f m = Builtin.bitXor f (Builtin.bitAnd (m.getD 0 0) 15) := by unfold turnedFirst; rw [if_pos h]
    rw [e] at hg ⊢
    unfold turnedFirst
    rw [if_pos hg, bx_twice h0 hx.1]
  · have hg : turnedFirst f m < 128 := by have := tf_short h0 (by omega) hm; omega
    have hx := band_in hb.1 (show (0 : Int) ≤ 31 by decide)
    have e : turnedFirst f m = Builtin.bitXor f (Builtin.bitAnd (m.getD 0 0) 31) := by unfold turnedFirst; rw [if_neg h]
    rw [e] at hg ⊢
    unfold turnedFirst
    rw [if_neg (by omega), bx_twice h0 hx.1]
theorem tn_twice {c m : List Int} (hc : Oct c) (hm : Oct m) : turnedNumber (turnedNumber c m) m = c := by
  unfold turnedNumber
  rw [List.mapIdx_mapIdx]
  apply List.ext_getElem
  · simp
  · intro i h1 h2
    simp only [List.getElem_mapIdx, Function.comp]
    exact bx_twice (hc _ (List.getElem_mem h2)).1 (getD_in hm _).1
theorem t_twice {key : List Int} {num : Int} {pay : List Int} (h : Oct pay) : turned key num (turned key num pay) = pay := turnedGo_twice h
theorem be_oct (k : Nat) (n : Int) : Oct (be k n) := be_in k n
theorem val_app (a : Int) : ∀ (ks : List Int), ks.foldl (fun f o => f * 256 + o) a = a * 256 ^ ks.length + val ks
  | [] => by simp [val]
  | o :: ks => by
    have h1 := val_app (a * 256 + o) ks
    have h2 := val_app (0 * 256 + o) ks
    simp only [val, List.foldl_cons, List.length_cons] at h1 h2 ⊢
    rw [h1, h2, Int.pow_succ]
    simp only [Int.add_mul, Int.zero_mul, Int.zero_add, Int.mul_assoc, Int.add_assoc]
    rw [Int.mul_comm 256]
theorem val_cons (o : Int) (ks : List Int) : val (o :: ks) = o * 256 ^ ks.length + val ks := by
  have := val_app (0 * 256 + o) ks
  simpa [val] using this
theorem val_be (k : Nat) (n : Int) : val (be k n) = n % 256 ^ k := by
  induction k with
  | zero => simp [be, val]
  | succ k ih =>
    rw [be, val_cons, be_length, ih]
    have hp : (0 : Int) < 256 ^ k := Int.pow_pos (by decide)
    have h1 := Int.mul_ediv_add_emod n (256 ^ k)
    have h2 := Int.mul_ediv_add_emod (n / 256 ^ k) 256
    have h3 := Int.emod_nonneg n (Int.ne_of_gt hp)
    have h4 := Int.emod_lt_of_pos n hp
    have h5 := Int.emod_nonneg (n / 256 ^ k) (show (256 : Int) ≠ 0 by decide)
    have h6 := Int.emod_lt_of_pos (n / 256 ^ k) (show (0 : Int) < 256 by decide)
    have e : n = n / 256 ^ k / 256 * (256 ^ (k + 1)) + (n / 256 ^ k % 256 * 256 ^ k + n % 256 ^ k) := by
      conv => lhs; rw [← h1, ← h2]
      rw [Int.pow_succ, Int.mul_add]
      generalize n / 256 ^ k / 256 = q
      generalize n / 256 ^ k % 256 = p
      generalize n % 256 ^ k = t
      generalize (256 : Int) ^ k = b
      rw [Int.mul_comm b 256, ← Int.mul_assoc q, Int.mul_comm b (256 * q), Int.mul_comm 256 q, Int.mul_comm b p, Int.add_assoc]
    have hr : 0 ≤ n / 256 ^ k % 256 * 256 ^ k + n % 256 ^ k ∧ n / 256 ^ k % 256 * 256 ^ k + n % 256 ^ k < 256 ^ (k + 1) := by
      have h7 : 0 ≤ n / 256 ^ k % 256 * 256 ^ k := Int.mul_nonneg h5 (Int.le_of_lt hp)
      have h8 : n / 256 ^ k % 256 * 256 ^ k ≤ 255 * 256 ^ k := Int.mul_le_mul_of_nonneg_right (by omega) (Int.le_of_lt hp)
      rw [Int.pow_succ]
      omega
    generalize n / 256 ^ k % 256 * 256 ^ k + n % 256 ^ k = t at e hr ⊢
    conv => rhs; rw [e, Int.add_comm, Int.add_mul_emod_self_right, Int.emod_eq_of_lt hr.1 hr.2]
theorem restored_back {num sz ex tr : Int} (h1 : 1 ≤ sz) (h2 : sz ≤ 4) (n0 : 0 ≤ num) (n1 : num < 2147483648) (htr : tr = num.fmod (1 * 2 ^ (8 * sz).toNat)) (e0 : 0 ≤ ex) (e1 : ex ≤ num + 20) (e2 : 2 * (num - ex) + 2 ≤ 1 * 2 ^ (8 * sz).toNat) : restored tr sz ex = num := by
  have hz : sz = 1 ∨ sz = 2 ∨ sz = 3 ∨ sz = 4 := by omega
  have key : ∀ (w : Int), 256 ≤ w → w ≤ 4294967296 → w % 2 = 0 → (1 : Int) * 2 ^ (8 * sz).toNat = w → restored tr sz ex = num := by
    intro w w0 w1 w2 hw
    rw [hw] at htr e2
    rw [Int.fmod_eq_emod_of_nonneg _ (by omega)] at htr
    have p1 := Int.mul_ediv_add_emod num w
    have p2 := Int.mul_ediv_add_emod ex w
    have p3 := Int.emod_nonneg num (show w ≠ 0 by omega)
    have p4 := Int.emod_lt_of_pos num (show 0 < w by omega)
    have p5 := Int.emod_nonneg ex (show w ≠ 0 by omega)
    have p6 := Int.emod_lt_of_pos ex (show 0 < w by omega)
    have p7 : 0 ≤ ex / w := Int.ediv_nonneg e0 (by omega)
    have p8 : 0 ≤ num / w := Int.ediv_nonneg n0 (by omega)
    have hd : ∀ k : Int, num / w - ex / w = k → num = (ex / w * w + tr) + k * w := by
      intro k hk
      rw [htr]
      have : num / w = ex / w + k := by omega
      rw [this, Int.mul_comm, Int.add_mul] at p1
      omega
    have hk : num / w - ex / w = 0 ∨ num / w - ex / w = 1 ∨ num / w - ex / w = -1 := by
      generalize hq : num / w - ex / w = k
      have h3 := hd k hq
      have h4 : ex / w * w = ex - ex % w := by rw [Int.mul_comm]; omega
      have lo : -2 < k := by
        by_cases hc : k ≤ -2
        · have : k * w ≤ -2 * w := Int.mul_le_mul_of_nonneg_right hc (by omega)
          omega
        · omega
      have hi : k < 2 := by
        by_cases hc : 2 ≤ k
        · have : 2 * w ≤ k * w := Int.mul_le_mul_of_nonneg_right hc (by omega)
          omega
        · omega
      omega
    have hwn : 0 ≤ ex / w * w := Int.mul_nonneg p7 (by omega)
    dsimp only [restored]
    rw [hw, Int.fdiv_eq_ediv_of_nonneg _ (show (0 : Int) ≤ 2 by decide), Int.fdiv_eq_ediv_of_nonneg _ (show 0 ≤ w by omega)]
    have h4 : ex / w * w = ex - ex % w := by rw [Int.mul_comm]; omega
    rcases hk with hk | hk | hk
    · have h3 := hd _ hk
      rw [if_neg (by omega), if_neg (by omega)]; omega
    · have h3 := hd _ hk
      rw [if_pos (by omega)]; omega
    · have h3 := hd _ hk
      rw [if_neg (by omega), if_pos (by omega)]; omega
  rcases hz with rfl | rfl | rfl | rfl
  · exact key 256 (by decide) (by decide) (by decide) (by decide)
  · exact key 65536 (by decide) (by decide) (by decide) (by decide)
  · exact key 16777216 (by decide) (by decide) (by decide) (by decide)
  · exact key 4294967296 (by decide) (by decide) (by decide) (by decide)
theorem nsize_fits {ap : Int} (h : ap ≤ 2147483648) : 2 * ap ≤ 1 * 2 ^ (8 * nsize ap).toNat := by
  unfold nsize
  split
  · show 2 * ap ≤ 1 * 2 ^ 8; omega
  · split
    · show 2 * ap ≤ 1 * 2 ^ 16; omega
    · split
      · show 2 * ap ≤ 1 * 2 ^ 24; omega
      · show 2 * ap ≤ 1 * 2 ^ 32; omega
theorem number_back {num sz : Int} {la seen : AV} (hk : KnownOk num la seen) (hl : LaOk num la sz) (n0 : 0 ≤ num) (n1 : num < 1073741824) : ∃ ex, SeenOk seen ex ∧ restored (num.fmod (1 * 2 ^ (8 * sz).toNat)) sz ex = num := by
  have hr := hl.range
  rcases hk with ⟨rfl, h2, hs⟩ | ⟨a, s, rfl, rfl, h2, h3, h4, h5, h6⟩
  · rcases hl with ⟨_, rfl, _, _⟩ | ⟨_, h, _⟩
    · have hf := nsize_fits (ap := num + 1) (by omega)
      rcases hs with rfl | rfl
      · exact ⟨0, .inl ⟨rfl, rfl⟩, restored_back hr.1 hr.2 n0 (by omega) rfl (by omega) (by omega) (by omega)⟩
      · refine ⟨num, .inr ⟨num - 1, rfl, by omega⟩, restored_back hr.1 hr.2 n0 (by omega) rfl (by omega) (by omega) (by omega)⟩
    · cases h
  · rcases hl with ⟨h, _⟩ | ⟨_, h, rfl, h7, h8⟩
    · cases h
    · cases h
      have hf := nsize_fits (ap := num - a) (by omega)
      exact ⟨s + 1, .inr ⟨s, rfl, rfl⟩, restored_back hr.1 hr.2 n0 (by omega) rfl (by omega) (by omega) (by omega)⟩
end Mine

end
section
open PySem PySem.W PySem.Spec PySem.Calls PyProof.Rows
namespace Mine
set_option maxRecDepth 100000
theorem drop_more {ks A B : List Int} {a : Nat} (h : ks.drop a = A ++ B) : ks.drop (a + A.length) = B := by rw [← List.drop_drop, h, List.drop_left]
theorem drop_one {ks B : List Int} {x : Int} {a : Nat} (h : ks.drop a = x :: B) : ks.drop (a + 1) = B := by rw [← List.drop_drop, h]; rfl
theorem getD_of_drop {ks B : List Int} {x : Int} {a : Nat} (h : ks.drop a = x :: B) : ks.getD a 0 = x := by
  rw [List.getD_eq_getElem?_getD, ← Nat.add_zero a, ← List.getElem?_drop, h]; rfl
theorem take_of_drop {ks A B : List Int} {a : Nat} (h : ks.drop a = A ++ B) : (ks.drop a).take A.length = A := by rw [h]; exact List.take_left
theorem val1 (x : Int) : val [x] = x := by simp [val]
noncomputable def maskP (kk : List Int) (pk : Pk) (sz : Int) : List Int := maskOf kk (((headOf pk sz ++ cutOf pk.num sz ++ sealedOf kk pk.num (headOf pk sz ++ cutOf pk.num sz) (padded pk.pay sz)).drop ((headOf pk sz).length + 4)).take 16)
noncomputable def tailP (kk : List Int) (pk : Pk) (sz : Int) : List Int := turnedNumber (cutOf pk.num sz) (maskP kk pk sz) ++ sealedOf kk pk.num (headOf pk sz ++ cutOf pk.num sz) (padded pk.pay sz)
theorem packet_eq (kk : List Int) (pk : Pk) (sz : Int) : packetBytes kk pk sz = turnedFirst ((headOf pk sz).getD 0 0) (maskP kk pk sz) :: ((headOf pk sz).drop 1 ++ tailP kk pk sz) := by
  unfold packetBytes sealedPacket tailP maskP
  simp only [List.cons_append, List.append_assoc]
noncomputable def restP (pk : Pk) (sz : Int) : Int := sz + (padded pk.pay sz).length + 16
theorem tailP_length (kk : List Int) (pk : Pk) {sz : Int} (h : 0 ≤ sz) : ((tailP kk pk sz).length : Int) = restP pk sz := by
  have hc := cutOf_length pk.num h
  unfold tailP restP
  rw [List.length_append, turnedNumber_length, sealedOf_length]
  omega
noncomputable def Sort4.j : Sort4 → Nat
  | .initial => 0
  | .zero => 1
  | .handshake => 2
  | .short => 3
noncomputable abbrev Pk.j (p : Pk) : Nat := p.sort.j
noncomputable def Pk.mid (p : Pk) : List Int := match p.sort with
  | .initial => (p.tok.length : Int) :: p.tok
  | _ => []
theorem headOf_long {pk : Pk} (h : pk.sort ≠ .short) (sz : Int) : headOf pk sz = (192 + 16 * (pk.j : Int) + (sz - 1)) :: 0 :: 0 :: 0 :: 1 :: (pk.d.length : Int) :: (pk.d ++ (pk.sc.length : Int) :: (pk.sc ++ (pk.mid ++ [restP pk sz]))) := by
  obtain ⟨sort, sp, kp, d, sc, tok, num, pay⟩ := pk
  cases sort
  · simp [headOf, headBytes, longHd, Pk.j, Sort4.j, Pk.mid, restP]
  · simp [headOf, headBytes, longHd, Pk.j, Sort4.j, Pk.mid, restP]
  · simp [headOf, headBytes, longHd, Pk.j, Sort4.j, Pk.mid, restP]
  · exact absurd rfl h
theorem headOf_short {pk : Pk} (h : pk.sort = .short) (sz : Int) : headOf pk sz = (64 + 32 * pk.sp + 4 * pk.kp + sz - 1) :: pk.d := by
  obtain ⟨sort, sp, kp, d, sc, tok, num, pay⟩ := pk
  cases h
  rfl
theorem maskP_oct (kk : List Int) (pk : Pk) (sz : Int) : Oct (maskP kk pk sz) := maskOf_in _ _
theorem Sort4.long {sr : Sort4} (h : sr ≠ .short) : sr.j < 3 ∧ [Str.ofString "initial", Str.ofString "zero", Str.ofString "handshake", Str.ofString "retry"][sr.j]? = some sr.word ∧ [Str.ofString "initial", Str.ofString "zero", Str.ofString "handshake"][sr.j]? = some sr.word ∧
    (∀ i, i < sr.j → [Str.ofString "initial", Str.ofString "zero", Str.ofString "handshake"][i]? ≠ some sr.word) ∧ sr.word ≠ Str.ofString "short" ∧ sr.word ≠ Str.ofString "retry" := by
  cases sr
  · exact ⟨by decide, rfl, rfl, fun i hi => absurd hi (Nat.not_lt_zero _), by decide, by decide⟩
  · refine ⟨by decide, rfl, rfl, fun i hi => ?_, by decide, by decide⟩
    have : i = 0 := by have : i < 1 := hi; omega
    subst this; decide
  · refine ⟨by decide, rfl, rfl, fun i hi => ?_, by decide, by decide⟩
    have : i = 0 ∨ i = 1 := by have : i < 2 := hi; omega
    rcases this with rfl | rfl <;> decide
  · exact absurd rfl h
theorem Pk.j_long {pk : Pk} (h : pk.sort ≠ .short) : pk.j < 3 := (Sort4.long h).1
theorem Pk.mid_of (pk : Pk) : (pk.sort = .initial ∧ pk.sort.word = Str.ofString "initial" ∧ pk.j = 0 ∧ pk.mid = (pk.tok.length : Int) :: pk.tok) ∨ (pk.sort ≠ .initial ∧ pk.sort.word ≠ Str.ofString "initial" ∧ pk.j ≠ 0 ∧ pk.mid = []) := by
  obtain ⟨sort, sp, kp, d, sc, tok, num, pay⟩ := pk
  cases sort
  · exact .inl ⟨rfl, rfl, rfl, rfl⟩
  · exact .inr ⟨(fun q => nomatch q), (by show Str.ofString "zero" ≠ _; decide), Nat.succ_ne_zero _, rfl⟩
  · exact .inr ⟨(fun q => nomatch q), (by show Str.ofString "handshake" ≠ _; decide), Nat.succ_ne_zero _, rfl⟩
  · exact .inr ⟨(fun q => nomatch q), (by show Str.ofString "short" ≠ _; decide), Nat.succ_ne_zero _, rfl⟩
theorem first_long {pk : Pk} (h : pk.sort ≠ .short) (kk : List Int) {sz : Int} (h1 : 1 ≤ sz) (h2 : sz ≤ 4) : let g := turnedFirst (192 + 16 * (pk.j : Int) + (sz - 1)) (maskP kk pk sz)
    g / 16 = 12 + pk.j ∧ 0 ≤ g ∧ g < 256 := by
  have hj := Pk.j_long h
  have e := tf_long (f := 192 + 16 * (pk.j : Int) + (sz - 1)) (m := maskP kk pk sz) (by omega) (maskP_oct _ _ _)
  have e2 := turnedFirst_in (f := 192 + 16 * (pk.j : Int) + (sz - 1)) (mk := maskP kk pk sz) (by omega) (by omega) (maskP_oct _ _ _)
  exact ⟨by omega, e2⟩
theorem first_short {pk : Pk} (ok : pk.Ok) (kk : List Int) {sz : Int} (h1 : 1 ≤ sz) (h2 : sz ≤ 4) : let g := turnedFirst (64 + 32 * pk.sp + 4 * pk.kp + sz - 1) (maskP kk pk sz)
    g / 64 = 1 ∧ 0 ≤ g ∧ g < 256 := by
  have := ok.sp0; have := ok.sp1; have := ok.kp0; have := ok.kp1
  have e := tf_short (f := 64 + 32 * pk.sp + 4 * pk.kp + sz - 1) (m := maskP kk pk sz) (by omega) (by omega) (maskP_oct _ _ _)
  have e2 := turnedFirst_in (f := 64 + 32 * pk.sp + 4 * pk.kp + sz - 1) (mk := maskP kk pk sz) (by omega) (by omega) (maskP_oct _ _ _)
  exact ⟨by omega, e2⟩
theorem packet_long {pk : Pk} (h : pk.sort ≠ .short) (kk : List Int) (sz : Int) (post : List Int) : packetBytes kk pk sz ++ post = turnedFirst (192 + 16 * (pk.j : Int) + (sz - 1)) (maskP kk pk sz) :: ([0, 0, 0, 1] ++ ((pk.d.length : Int) :: (pk.d ++ (pk.sc.length : Int) :: (pk.sc ++ (pk.mid ++ restP pk sz :: (tailP kk pk sz ++ post)))))) := by
  rw [packet_eq, headOf_long h]
  simp
theorem packet_short {pk : Pk} (h : pk.sort = .short) (kk : List Int) (sz : Int) (post : List Int) : packetBytes kk pk sz ++ post = turnedFirst (64 + 32 * pk.sp + 4 * pk.kp + sz - 1) (maskP kk pk sz) :: (pk.d ++ (tailP kk pk sz ++ post)) := by
  rw [packet_eq, headOf_short h]
  simp
theorem fdiv_pos {x y : Int} (h : 0 ≤ y) : x.fdiv y = x / y := Int.fdiv_eq_ediv_of_nonneg x h
theorem fmod_pos {x y : Int} (h : 0 ≤ y) : x.fmod y = x % y := Int.fmod_eq_emod_of_nonneg x h
end Mine

end
section
open PySem PySem.W PySem.Spec PySem.Calls PyProof.Rows PyProof.Rows.LCg
namespace Mine
set_option maxRecDepth 100000
set_option linter.unusedVariables false
theorem fa_cons {α : Type} {P : α → Prop} {a : α} {l : List α} (h : P a) (t : ∀ p ∈ l, P p) : ∀ p ∈ a :: l, P p
  | _, .head _ => h
  | _, .tail _ m => t _ m
theorem ne_up {s k x : Nat} (h : x < s) : s + k ≠ x := fun q => Nat.not_le_of_lt h (q ▸ Nat.le_add_right _ _)
theorem nodup_zip {s : Nat} {ns : List Nat} {D S : Nat} (h : ∀ a ∈ ns, a < s) (nd : ns.Nodup) (hD : D ∉ ns) (hS : S ∉ ns) (hDS : D ≠ S) (lD : D < s) (lS : S < s) : ([D, S, s + 2, s + 4, s + 3, s, s + 1] ++ ns).Nodup := by
  have nb : ∀ k, s + k ∉ ns := fun k z => by have := h _ z; omega
  have nb0 : s ∉ ns := nb 0
  have c : ∀ {x : Nat} {l : List Nat}, x ∉ l → l.Nodup → (x :: l).Nodup := fun a b => List.nodup_cons.mpr ⟨a, b⟩
  have e : ∀ {x y : Nat} {l : List Nat}, x ≠ y → x ∉ l → x ∉ y :: l := fun a b => List.not_mem_cons_of_ne_of_not_mem a b
  have k1 : ∀ {a b : Nat}, a ≠ b → s + a ≠ s + b := fun z q => z (Nat.add_left_cancel q)
  have k2 : ∀ {x : Nat} {b : Nat}, x < s → x ≠ s + b := fun z q => Nat.not_le_of_lt z (q ▸ Nat.le_add_right _ _)
  refine c (e hDS (e (k2 lD) (e (k2 lD) (e (k2 lD) (e (k2 (b := 0) lD) (e (k2 lD) hD)))))) (c (e (k2 lS) (e (k2 lS) (e (k2 lS) (e (k2 (b := 0) lS) (e (k2 lS) hS))))) (c (e (k1 (by decide)) (e (k1 (by decide)) (e (k1 (b := 0) (by decide)) (e (k1 (by decide)) (nb _))))) (c (e (k1 (by decide)) (e (k1 (b := 0) (by decide)) (e (k1 (by decide)) (nb _)))) (c (e (k1 (b := 0) (by decide)) (e (k1 (by decide)) (nb _))) (c (e (k1 (a := 0) (by decide)) nb0) (c (nb _) nd))))))
section
variable {w : World} {K : Frag} {F : Fn} {n : Nat} {b : Bool} {c : Cx w K F n b} {E : Value → Shared → Prop} {m : AM} {l : AL}
theorem St.assignT {elts : List PySem.Expr} {k0 : Nat} {tpos : Pos} {T : Addr} {vs : List AV} {m2 : AM} {l2 : AL} {Q : Unit → Shared → Prop} {h : Heap} {tk : Nat} (S : St c h m l) (hm : (T, AO.tup vs) ∈ l) (hx : plainEach elts = true) (hl : vs.length = elts.length) (hA : Asgs c E m l elts vs m2 l2)
    (k : ∀ h' tk', St c h' m2 l2 → Q () (c.at h' tk')) : G (model prog w) c.Γ (assign (.Tuple elts k0 tpos) c.env (.ref T)) Q E (c.at h tk) := by
  (refine El.axx (each_plain c.env hx) fun e1 e2 => ?_)
  (refine El.eaxx (S.tup hm) fun us hD rs => ?_)
  rw [assign_Tuple]
  refine G_bind (G_standAt ?_)
  unfold PySem.unpack
  rw [e1, e2]
  obtain ⟨mm, news, Fr, M, N, RL', nd⟩ := S
  refine G_bind (G_holding (G_any c.hΓ (unpackItemsN_ Fr N hD rfl (by rw [List.size_toArray, rs.length, hl]) fun h'' F'' N'' => ?_)))
  exact hA _ h'' tk us ⟨mm, news, F'', M, N'', RL', nd⟩ rs k
theorem Asgs.tup {elts elts' : List PySem.Expr} {k0 : Nat} {tpos : Pos} {T : Addr} {vs vs' : List AV} {m1 m2 : AM} {l1 l2 : AL} (hm : (T, AO.tup vs) ∈ l) (hx : plainEach elts = true) (hl : vs.length = elts.length) (hA : Asgs c E m l elts vs m1 l1) (hB : Asgs c E m1 l1 elts' vs' m2 l2) :
    Asgs c E m l (.Tuple elts k0 tpos :: elts') (.ref T :: vs') m2 l2 := fun Q h tk us S r k => by
  obtain _ | ⟨rfl, rs⟩ := r
  exact G_assignInOrder_cons (St.assignT (k0 := k0) (tpos := tpos) S hm hx hl hA fun h' tk' S' => hB Q h' tk' _ S' rs k)
noncomputable abbrev rw' (os : List (Addr × Obj)) : AL := os.map (fun p => (p.1, AO.raw p.2))
theorem St.rebuildT {h h' : Heap} {os os' : List (Addr × Obj)} {vs : List AV} {us : List Value} (S : St c h m (rw' os ++ l)) (ha : os'.map (·.1) = os.map (·.1)) (hk : ∀ a o, a ∉ os.map (·.1) → h.get? a = some o → h'.get? a = some o) (hos : ∀ p ∈ os', h'.get? p.1 = some p.2) (r : Reals vs us) (hT : h'.get? h.objs.size = some (tupObj us.toArray)) :
    St c h' m ((h.objs.size, .tup vs) :: (rw' os' ++ l)) := by
  obtain ⟨mm, news, Fr, M, N, RL, nd⟩ := S
  (refine El.eaxx (RL.unraws) fun ns zz1 RL2 => ?_; (first | subst zz1 | cases zz1))
  have own : ∀ a, a ∈ os.map (·.1) → a ≠ c.L ∧ c.h₀.get? a = none ∧ a < h.objs.size := fun a ha' => by
    (refine El.eaxx (List.mem_map.mp ha') fun p hp zz1 => ?_; (first | subst zz1 | cases zz1))
    have := N p (List.mem_append_left _ hp)
    exact ⟨this.2.1, this.2.2, Heap.lt_size this.1⟩
  refine ⟨mm, (h.objs.size, tupObj us.toArray) :: (os' ++ ns), ⟨Fr.ns.at' fun o e => hk _ o (fun q => (own _ q).1 rfl) e, fun a o e => hk a o (fun q => by rw [(own _ q).2.1] at e; cases e) (Fr.keep a o e), Fr.above⟩, M, fun p hp => ?_, .tup r RL2.raws, ?_⟩
  · rcases List.mem_cons.mp hp with rfl | hp
    · exact ⟨hT, Nat.ne_of_gt Fr.ns.lt, fresh_of Fr (Nat.le_refl _)⟩
    · rcases List.mem_append.mp hp with hp | hp
      · have := own _ (ha ▸ List.mem_map_of_mem hp)
        exact ⟨hos p hp, this.1, this.2.1⟩
      · have := N p (List.mem_append_right _ hp)
        refine ⟨hk _ _ (fun q => ?_) this.1, this.2⟩
        rw [List.map_append] at nd
        exact (List.nodup_append.mp nd).2.2 _ q _ (List.mem_map_of_mem hp) rfl
  · rw [List.map_cons, List.map_append, ha]
    refine List.nodup_cons.mpr ⟨fun z => ?_, by rw [← List.map_append]; exact nd⟩
    rcases List.mem_append.mp z with z | z
    · exact Nat.lt_irrefl _ (own _ z).2.2
    · (refine El.eaxx (List.mem_map.mp z) fun p hp e => ?_)
      have := Heap.lt_size (N p (List.mem_append_right _ hp)).1
      rw [e] at this
      exact Nat.lt_irrefl _ this
theorem St.keepBut {h h' : Heap} {os os2 : List (Addr × Obj)} (S : St c h m (rw' (os ++ os2) ++ l)) (hk : ∀ a o, a ∉ os2.map (·.1) → h.get? a = some o → h'.get? a = some o) : St c h' m (rw' os ++ l) := by
  obtain ⟨mm, news, Fr, M, N, RL, nd⟩ := S
  (refine El.eaxx (RL.unraws) fun ns zz1 RL2 => ?_; (first | subst zz1 | cases zz1))
  have own : ∀ a, a ∈ os2.map (·.1) → a ≠ c.L ∧ c.h₀.get? a = none := fun a ha' => by
    (refine El.eaxx (List.mem_map.mp ha') fun p hp zz1 => ?_; (first | subst zz1 | cases zz1))
    exact (N p (List.mem_append_left _ (List.mem_append_right _ hp))).2
  simp only [List.map_append, List.append_assoc] at nd
  (refine El.axaxx (List.nodup_append.mp nd) fun n1 n2 n3 => ?_)
  (refine El.axaxx (List.nodup_append.mp n2) fun n4 n5 n6 => ?_)
  refine ⟨mm, os ++ ns, ⟨Fr.ns.at' fun o e => hk _ o (fun q => (own _ q).1 rfl) e, fun a o e => hk a o (fun q => by rw [(own _ q).2] at e; cases e) (Fr.keep a o e), Fr.above⟩, M, fun p hp => ?_, RL2.raws, ?_⟩
  · rcases List.mem_append.mp hp with hp | hp
    · have := N p (List.mem_append_left _ (List.mem_append_left _ hp))
      exact ⟨hk _ _ (fun q => n3 _ (List.mem_map_of_mem hp) _ (List.mem_append_left _ q) rfl) this.1, this.2⟩
    · have := N p (List.mem_append_right _ hp)
      exact ⟨hk _ _ (fun q => n6 _ q _ (List.mem_map_of_mem hp) rfl) this.1, this.2⟩
  · rw [List.map_append]
    exact List.nodup_append.mpr ⟨n1, n5, fun a ha b hb => n3 a ha b (List.mem_append_right _ hb)⟩
noncomputable abbrev zipOwn (D S B : Nat) (oD oS : Obj) (a b : Value) (o1 o2 : Obj) : List (Addr × Obj) := [(D, oD), (S, oS)] ++ [(B + 2, { cls := .type "tuple", data := .seq #[.ref B, .ref (B + 1)] }), (B + 4, { cls := .type "zip", dict := none, data := .fields #[.none, .bool false, .bool false, .ref (B + 2), .ref (B + 3)], slots := #[] }), (B + 3, { cls := .type "tuple", data := .seq #[a, b] }), (B, o1), (B + 1, o2)]
theorem Wb.zip (H : KOk K) {elts : List PySem.Expr} {k0 : Nat} {tpos np cp pos : Pos} {e1 e2 : PySem.Expr} {body rest : List Stmt} {P : Fl → AM → AL → Prop} {D S : Addr} {xs ys : List AV} {l0 : AL} (m0 : AM)
    (h1 : Ev c E m ((D, .list xs) :: (S, .list ys) :: l0) e1 (.ref D)) (h2 : Ev c E m ((D, .list xs) :: (S, .list ys) :: l0) e2 (.ref S)) (hlen : xs.length = ys.length) (hm0 : Sub m0 m)
    (hz : (isGlo F (Str.ofString "zip") && noStar [e1, e2] && plainEach elts && decide (elts.length = 2)) = true)
    (turn : ∀ (c₁ : Cx w K F n b) (E₁ : Value → Shared → Prop) (i : Nat) x y T own, xs[i]? = some x → ys[i]? = some y → ∃ m2 l2, Asgs c₁ E₁ m0 ((T, .tup [x, y]) :: (own ++ l0)) elts [x, y] m2 l2 ∧ Wb c₁ E₁ m2 l2 body (fun f m' l' => f = .next ∧ l' = own ++ l0 ∧ Sub m0 m'))
    (done : Wb c E m0 ((D, .list xs) :: (S, .list ys) :: l0) rest P) : Wb c E m ((D, .list xs) :: (S, .list ys) :: l0) (.For (.Tuple elts k0 tpos) (.Call (.Name (Str.ofString "zip") np) [e1, e2] [] cp) body [] pos :: rest) P := Wb.cons fun Q h tk St0 kk => by
  simp only [Bool.and_eq_true, decide_eq_true_eq] at hz
  (refine El.axx (hz) fun zq34 hel => ?_; try clear hz; refine El.aaxxx (zq34) fun hg hns hpl => ?_; try clear zq34)
  have hns' := hns
  simp only [noStar, List.all_cons, Bool.and_eq_true, Bool.not_eq_true'] at hns'
  refine G_For (G_callQ St0 (Ev.bt H (u := .type "zip") (by kernel_rfl) (by kernel_rfl) hg) keeps_type (vs := [.ref D, .ref S]) (Evs.cons h1 (Evs.cons h2 .nil hns'.2.1) hns'.1) hns fun h' tk' us St1 rs => ?_) (fun v => set_plain rfl)
  (refine El.eeaxaxx (rs.two) fun zz1 zz2 zz3 zz4 zz5 => ?_; (first | subst zz3 | cases zz3); (first | subst zz4 | cases zz4); (first | subst zz5 | cases zz5))
  obtain ⟨mm, news, Fr, M, N, RL, nd⟩ := St1
  (refine El.eeeaxaxx (RL.listC) fun k1 us1 zz1 zz2 r1 RL1 => ?_; (first | subst zz2 | cases zz2))
  (refine El.eeeaxaxx (RL1.listC) fun k2 us2 ns zz1 r2 RL2 => ?_; (first | subst zz1 | cases zz1))
  replace RL := RL2
  have hD := N (D, W.listOf us1.toArray k1) (.head _)
  have hS := N (S, W.listOf us2.toArray k2) (.tail _ (.head _))
  have lt : ∀ p ∈ ns, @LT.lt Nat _ p.1 h'.objs.size := fun p hp => Heap.lt_size (N p (.tail _ (.tail _ hp))).1
  have ltD : @LT.lt Nat _ D h'.objs.size := Heap.lt_size hD.1
  have ltS : @LT.lt Nat _ S h'.objs.size := Heap.lt_size hS.1
  have ltL : @LT.lt Nat _ c.L h'.objs.size := Fr.ns.lt
  have hl1 := r1.length
  have hl2 := r2.length
  refine G_any c.hΓ (call_zip_2 (s := c.at h' tk') (xs := us1.toArray) (ys := us2.toArray) ⟨_, hD.1, rfl, _, rfl⟩ ⟨_, hS.1, rfl, _, rfl⟩ fun h2 hz hTI hTO hi1 hi2 hsz hk => ?_)
  refine G_any c.hΓ (wpAny_pyIter_zip (s := c.at h2 tk') hz ?_)
  have hsz0 : ∀ k : Nat, c.h₀.get? (h'.objs.size + k) = none := fun k => fresh_of Fr (Nat.le_add_right _ _)
  have hB0 : c.h₀.get? h'.objs.size = none := fresh_of Fr (Nat.le_refl _)
  replace hz : IsZip h2 (h'.objs.size + 4) (h'.objs.size + 2) (h'.objs.size + 3) .none := hz
  replace hTI : IsPair h2 (h'.objs.size + 2) (.ref h'.objs.size) (.ref (h'.objs.size + 1)) := hTI
  replace hTO : IsPair h2 (h'.objs.size + 3) .none .none := hTO
  replace hi1 : h2.IsListIter h'.objs.size D 0 := hi1
  replace hi2 : h2.IsListIter (h'.objs.size + 1) S 0 := hi2
  replace hk : ∀ a o, h'.get? a = some o → h2.get? a = some o := hk
  (refine El.eaxx (hi1) fun o1 ho1 q1 => ?_; try clear hi1)
  (refine El.eaxx (hi2) fun o2 ho2 q2 => ?_; try clear hi2)
  rw [List.map_cons, List.map_cons] at nd
  (refine El.axx (List.nodup_cons.mp nd) fun nd1 nd2 => ?_)
  (refine El.axx (List.nodup_cons.mp nd2) fun nd3 nd4 => ?_)
  have nb : ∀ a : Nat, h'.objs.size ≤ a → a ∉ ns.map (·.1) := fun a ha z => by
    (refine El.eaxx (List.mem_map.mp z) fun p hp e => ?_)
    have := lt p hp
    have e' : @Eq Nat p.1 a := e
    omega
  have St2 : St c h2 m (rw' (zipOwn D S h'.objs.size (W.listOf us1.toArray k1) (W.listOf us2.toArray k2) .none .none o1 o2) ++ l0) := by
    refine ⟨mm, zipOwn D S h'.objs.size (W.listOf us1.toArray k1) (W.listOf us2.toArray k2) .none .none o1 o2 ++ ns, Fr.keeps hk, M, fun p hp => ?_, RL.raws, ?_⟩
    · have key : ∀ p ∈ zipOwn D S h'.objs.size (W.listOf us1.toArray k1) (W.listOf us2.toArray k2) .none .none o1 o2, h2.get? p.1 = some p.2 ∧ p.1 ≠ c.L ∧ c.h₀.get? p.1 = none :=
        fa_cons ⟨hk _ _ hD.1, hD.2⟩ (fa_cons ⟨hk _ _ hS.1, hS.2⟩ (fa_cons ⟨hTI, ne_up ltL, hsz0 2⟩ (fa_cons ⟨hz, ne_up ltL, hsz0 4⟩ (fa_cons ⟨hTO, ne_up ltL, hsz0 3⟩ (fa_cons ⟨ho1, ne_up (k := 0) ltL, hB0⟩ (fa_cons ⟨ho2, ne_up ltL, hsz0 1⟩ fun _ z => nomatch z))))))
      rcases List.mem_append.mp hp with hp | hp
      · exact key p hp
      · exact ⟨hk _ _ (N p (.tail _ (.tail _ hp))).1, (N p (.tail _ (.tail _ hp))).2⟩
    · have nDS : @Ne Nat D S := fun q => nd1 (by rw [show D = S from q]; exact .head _)
      have nDn : D ∉ ns.map (·.1) := fun q => nd1 (.tail _ q)
      show ([D, S, h'.objs.size + 2, h'.objs.size + 4, h'.objs.size + 3, h'.objs.size, h'.objs.size + 1] ++ ns.map (·.1) : List Nat).Nodup
      exact nodup_zip (fun a z => by
        (refine El.eaxx (List.mem_map.mp z) fun p hp e => ?_)
        exact e ▸ lt p hp) nd4 nDn nd3 nDS ltD ltS
  have AP : ZipApart (h'.objs.size + 4) (h'.objs.size + 2) (h'.objs.size + 3) h'.objs.size (h'.objs.size + 1) D S := by
    constructor <;> (intro q; have q' : @Eq Nat _ _ := q; omega)
  generalize hB : h'.objs.size = B at *
  refine G_forLoopQ (A := c.A) (q := b = true) c.hΓ c.clean
    (fun j s' => ∃ h₁ tk₁ m₁ i o1 o2 va vb, s' = c.at h₁ tk₁ ∧ St c h₁ m₁ (rw' (zipOwn D S B (W.listOf us1.toArray k1) (W.listOf us2.toArray k2) va vb o1 o2) ++ l0) ∧ (∀ g : Heap, g.get? B = some o1 → g.IsListIter B D i) ∧ (∀ g : Heap, g.get? (B + 1) = some o2 → g.IsListIter (B + 1) S i) ∧ Sub m0 m₁ ∧ i ≤ xs.length ∧ j = xs.length + 1 - i) ?_ (xs.length + 1)
    ⟨h2, tk', m, 0, o1, o2, _, _, rfl, St2, fun g e => ⟨o1, e, q1⟩, fun g e => ⟨o2, e, q2⟩, hm0, Nat.zero_le _, rfl⟩
  (intro j s' Γ₁ hΓ₁ hC₁ zr6; refine El.eeeeeeeex (zr6) fun h₁ tk₁ m₁ i o1 o2 va vb zq35 => ?_; try clear zr6; refine El.axaxaxaxaxaxx (zq35) fun zz1 St₁ p1 p2 hm₁ hi zz2 => ?_; try clear zq35; (first | subst zz1 | cases zz1); (first | subst zz2 | cases zz2))
  have gD := St₁.rawM' (D := D) (ob := W.listOf us1.toArray k1) (.head _)
  have gS := St₁.rawM' (D := S) (ob := W.listOf us2.toArray k2) (.tail _ (.head _))
  have gTI : IsPair h₁ (B + 2) (.ref B) (.ref (B + 1)) := St₁.rawM' (.tail _ (.tail _ (.head _)))
  have gz : IsZip h₁ (B + 4) (B + 2) (B + 3) .none := St₁.rawM' (.tail _ (.tail _ (.tail _ (.head _))))
  have gTO : IsPair h₁ (B + 3) va vb := St₁.rawM' (.tail _ (.tail _ (.tail _ (.tail _ (.head _)))))
  have g1 := St₁.rawM' (D := B) (ob := o1) (.tail _ (.tail _ (.tail _ (.tail _ (.tail _ (.head _))))))
  have g2 := St₁.rawM' (D := B + 1) (ob := o2) (.tail _ (.tail _ (.tail _ (.tail _ (.tail _ (.tail _ (.head _)))))))
  have L1 : h₁.IsList D us1.toArray := ⟨_, gD, rfl, _, rfl⟩
  have L2 : h₁.IsList S us2.toArray := ⟨_, gS, rfl, _, rfl⟩
  by_cases hlt : i < xs.length
  · have hy' : i < ys.length := by omega
    have hx : us1.toArray[i]? = some (us1.toArray[i]'(by rw [List.size_toArray]; omega)) := Array.getElem?_eq_getElem _
    have hy : us2.toArray[i]? = some (us2.toArray[i]'(by rw [List.size_toArray]; omega)) := Array.getElem?_eq_getElem _
    generalize us1.toArray[i]'(by rw [List.size_toArray]; omega) = ux at hx
    generalize us2.toArray[i]'(by rw [List.size_toArray]; omega) = uy at hy
    have hax : xs[i]? = some xs[i] := List.getElem?_eq_getElem hlt
    have hay : ys[i]? = some ys[i] := List.getElem?_eq_getElem hy'
    have hrx : Real xs[i] ux := by
      (refine El.eaxx (r1.get hax) fun u hu hr => ?_)
      have : us1[i]? = some ux := by simpa using hx
      rw [hu] at this; cases this; exact hr
    have hry : Real ys[i] uy := by
      (refine El.eaxx (r2.get hay) fun u hu hr => ?_)
      have : us2[i]? = some uy := by simpa using hy
      rw [hu] at this; cases this; exact hr
    refine G_any hΓ₁ (wpAny_pyNext_zip_item (s := c.at h₁ tk₁) AP gz gTI gTO (p1 _ g1) (p2 _ g2) L1 L2 hx hy fun h₂ z₂ t₂ a₂ b₂ t₂' sz₂ k₂ => ?_)
    refine G_any hΓ₁ (wpAny_letOwnedTupleGo_zip (s := c.at h₂ tk₁) z₂ fun h₃ z₃ s₃ => ?_)
    replace s₃ : Heap.SameBut (B + 4) h₂ h₃ := s₃
    replace t₂' : IsPair h₂ h₁.objs.size ux uy := t₂'
    replace k₂ : ∀ a o, a ≠ B + 4 → a ≠ B + 3 → a ≠ B → a ≠ B + 1 → h₁.get? a = some o → h₂.get? a = some o := k₂
    (refine El.eaxx (a₂) fun o1' ho1' q1' => ?_; try clear a₂)
    (refine El.eaxx (b₂) fun o2' ho2' q2' => ?_; try clear b₂)
    have lTz : @LT.lt Nat _ (B + 4) h₁.objs.size := Heap.lt_size gz
    have St₃ := St.rebuildT (h' := h₃) (os' := zipOwn D S B (W.listOf us1.toArray k1) (W.listOf us2.toArray k2) ux uy o1' o2') St₁ rfl (fun a o hn e => by
      have z : a ≠ B + 4 := fun q => hn (q ▸ .tail _ (.tail _ (.tail _ (.head _))))
      exact s₃.extBut _ _ z (k₂ a o z (fun q => hn (q ▸ .tail _ (.tail _ (.tail _ (.tail _ (.head _)))))) (fun q => hn (q ▸ .tail _ (.tail _ (.tail _ (.tail _ (.tail _ (.head _))))))) (fun q => hn (q ▸ .tail _ (.tail _ (.tail _ (.tail _ (.tail _ (.tail _ (.head _)))))))) e)) (fa_cons (s₃.extBut _ _ AP.l1z (k₂ _ _ AP.l1z AP.l1TO AP.l1i1 AP.l1i2 gD)) (fa_cons (s₃.extBut _ _ AP.l2z (k₂ _ _ AP.l2z AP.l2TO AP.l2i1 AP.l2i2 gS)) (fa_cons (s₃.extBut _ _ AP.TIz (k₂ _ _ AP.TIz AP.TITO AP.TIi1 AP.TIi2 gTI)) (fa_cons z₃ (fa_cons (s₃.extBut _ _ AP.TOz t₂) (fa_cons (s₃.extBut _ _ AP.i1z ho1') (fa_cons (s₃.extBut _ _ AP.i2z ho2') fun _ z => nomatch z))))))) (Reals.cons hrx (.cons hry .nil)) (s₃.extBut _ _ (Nat.ne_of_gt lTz) t₂')
    let c₁ : Cx w K F n b := ⟨Γ₁, c.dp, c.un, c.gd, c.cl, c.outer, c.A₀, c.base, c.h₀, c.L, c.s, c.p, c.loose, c.mean, c.mg, c.mb, hΓ₁, hC₁, c.B, c.X, c.T, c.kind, c.hdp, c.hun⟩
    (refine El.eeaxx (turn c₁ (fun _ _ => False) i xs[i] ys[i] h₁.objs.size (rw' (zipOwn D S B (W.listOf us1.toArray k1) (W.listOf us2.toArray k2) ux uy o1' o2')) hax hay) fun m2 l2 hA hW => ?_)
    have St₃' : St c₁ h₃ m0 _ := St.sub (c := c₁) St₃ hm₁
    refine St.assignT (c := c₁) (tk := tk₁) St₃' (.head _) hpl (by rw [hel]; rfl) hA fun h₄ tk₄ St₄ => ?_
    refine hW _ h₄ tk₄ St₄ fun f f' m' l' h₅ tk₅ hP St₅ hf => ?_
    (refine El.axaxx (hP) fun zz1 zz2 hs => ?_; try clear hP; (first | subst zz1 | cases zz1); (first | subst zz2 | cases zz2))
    cases hf
    exact ⟨xs.length + 1 - (i + 1), by omega, h₅, tk₅, m', i + 1, o1', o2', ux, uy, rfl, St₅, fun g e => ⟨o1', e, q1'⟩, fun g e => ⟨o2', e, q2'⟩, hs, hlt, rfl⟩
  · obtain rfl : i = xs.length := by omega
    refine G_any hΓ₁ (wpAny_pyNext_zip_end (s := c.at h₁ tk₁) rfl AP gz gTI gTO (p1 _ g1) (p2 _ g2) L1 L2 (.inl (by simp [hl1])) fun h₂ k₂ => ?_)
    replace k₂ : ∀ a o, a ≠ B + 4 → a ≠ B + 3 → a ≠ B → a ≠ B + 1 → h₁.get? a = some o → h₂.get? a = some o := k₂
    have St₂ : St c h₂ m₁ (rw' [(D, W.listOf us1.toArray k1), (S, W.listOf us2.toArray k2)] ++ l0) := St.keepBut St₁ fun a o hn e => by
      simp only [List.map_cons, List.map_nil, List.mem_cons, List.not_mem_nil, not_or, or_false] at hn
      exact k₂ a o hn.2.1 hn.2.2.1 hn.2.2.2.1 hn.2.2.2.2 e
    have St₃ : St c h₂ m0 ((D, .list xs) :: (S, .list ys) :: l0) := by
      obtain ⟨mm, news, Fr, M, N, RL, nd⟩ := St₂.sub hm₁
      (refine El.eaxx (RL.rawC) fun zz1 zz2 RL1 => ?_; (first | subst zz2 | cases zz2))
      (refine El.eaxx (RL1.rawC) fun zz1 zz2 RL2 => ?_; (first | subst zz2 | cases zz2))
      replace RL := RL2
      exact ⟨mm, _, Fr, M, N, .list k1 r1 (.list k2 r2 RL), nd⟩
    exact kk .next .next m0 _ h₂ tk₁ done St₃ rfl
end
end Mine

end
section
open PySem PySem.W PySem.Spec PySem.Calls PyProof.Rows PyProof.Rows.LCg
namespace Mine
set_option maxRecDepth 100000
set_option linter.unusedVariables false
theorem adjust_init (n : Nat) (hn : 1 ≤ n) : Builtin.Slice.sliceAdjust none (some (-1)) 1 (n : Int) = (0, ((n - 1 : Nat) : Int)) := by
  unfold Builtin.Slice.sliceAdjust
  have h1 : ¬ ((1 : Int) < 0) := by omega
  have h2 : ((-1 : Int) < 0) := by omega
  simp only [h1, h2, if_false, if_true]
  congr 1
  omega
theorem places_init (n : Nat) : Builtin.Slice.slicePlaces 0 ((n - 1 : Nat) : Int) 1 = n - 1 := by
  unfold Builtin.Slice.slicePlaces
  have h1 : (1 : Int) > 0 := by omega
  simp only [h1, if_true, Int.ediv_one]
  split <;> omega
section
variable {prog : Program} {w : World} {A : Around} {E : Value → Shared → Prop} {s : Shared}
theorem sliceApplied_init {sl : Addr} {n : Nat} {u : Tok} {Q : Int × Int × Nat → Shared → Prop} (hs : s.heap.IsSliceOf sl .none (.int (-1) u) .none) (hn : 1 ≤ n) (h : Q (0, 1, n - 1) s) :
    wpAny (model prog w) A (Builtin.Slice.sliceApplied (.ref sl) (pure (n : Int))) Q E s := by
  (refine El.eaxaxx (id hs) fun os hos hcs hds => ?_)
  unfold Builtin.Slice.sliceApplied Builtin.Slice.sliceFields
  refine wpAny_bind (wpAny_bind (wpAny_field hos hds (x := .none) rfl (wpAny_bind (wpAny_field hos hds (x := .int (-1) u) rfl (wpAny_bind (wpAny_field hos hds (x := .none) rfl (wpAny_pure ?_)))))))
  refine wpAny_bind (slicePart_none ?_)
  show wpAny _ _ (if ((1 : Int) == 0) = true then _ else _) _ _ s
  rw [if_neg (by decide)]
  refine wpAny_bind (slicePart_none (wpAny_bind (slicePart_int (wpAny_bind (wpAny_pure ?_)))))
  show wpAny _ _ (match Builtin.Slice.sliceAdjust none (some (-1)) 1 (n : Int) with | (lo, hi) => pure (lo, (1 : Int), Builtin.Slice.slicePlaces lo hi 1)) _ _ s
  rw [adjust_init n hn]
  show wpAny _ _ (pure ((0 : Int), (1 : Int), Builtin.Slice.slicePlaces 0 ((n - 1 : Nat) : Int) 1)) _ _ s
  rw [places_init n]
  exact wpAny_pure h
theorem getItem_tuple_init {t sl : Addr} {vs : List Value} {u : Tok} {Q : Value → Shared → Prop} (ht : IsTup s.heap t vs.toArray) (hs : s.heap.IsSliceOf sl .none (.int (-1) u) .none) (hn : 1 ≤ vs.length) (hz : vs.length ≤ 100)
    (h : Q (.ref s.heap.objs.size) { s with heap := s.heap.push { cls := .type "tuple", data := .seq ((List.range (vs.length - 1)).filterMap fun (k : Nat) => vs[k]?).toArray } }) :
    wpAny (model prog w) A (getItem (.ref t) (.ref sl)) Q E s := by
  have hdrop : sizeOk (.seq ((List.range (vs.length - 1)).filterMap fun (k : Nat) => vs[k]?).toArray) := by
    show ((List.range (vs.length - 1)).filterMap fun (k : Nat) => vs[k]?).toArray.size ≤ sizeLine
    rw [List.size_toArray, sizeLine_eq]
    have := List.length_filterMap_le (fun (k : Nat) => vs[k]?) (List.range (vs.length - 1))
    rw [List.length_range] at this
    omega
  (refine El.eaxaxx (id hs) fun os hos hcs hds => ?_)
  have hTs : s.TypeIs (.ref sl) "slice" := ⟨os, hos, hcs⟩
  unfold getItem
  try with_reducible refine wpAny_holding ?_
  first | refine wpAny_bind (wpAny_pure ?_) | skip
  refine wpAny_bind (wpAny_sequenceKey ht.typeIs (by decide) ?_)
  refine wpAny_bind (wpAny_callSpecial?_slot (name := Str.ofString "__getitem__") ht.typeIs slot_tuple_getitem
    (wpAny_call_entry slot_tuple_getitem ht.typeIs entry_tuple_getitem ?_ (args_tuple_getitem _ _)))
  show wpAny _ _ (Builtin.Tuple.tupleItemsOf (.ref t) >>= _) _ _ s
  refine wpAny_bind (tupleItemsOf_ ht ?_)
  refine wpAny_bind (wpAny_typeOf hTs ?_)
  rw [if_pos (by decide)]
  refine wpAny_bind (sliceApplied_init (n := vs.toArray.size) hs (by simpa using hn) ?_)
  have hno : ¬ (((0 : Int) == 0 && (1 : Int) == 1 && (vs.toArray.size - 1) == vs.toArray.size) = true) := by
    have : (vs.toArray.size - 1 == vs.toArray.size) = false := by rw [beq_eq_false_iff_ne, List.size_toArray]; omega
    rw [this]; simp
  show wpAny _ _ (if ((0 : Int) == 0 && (1 : Int) == 1 && (vs.toArray.size - 1) == vs.toArray.size) = true then _ else _) _ _ s
  rw [if_neg hno]
  have e : ((List.range (vs.toArray.size - 1)).filterMap fun (k : Nat) => vs.toArray[((0 : Int) + (k : Int) * 1).toNat]?).toArray = ((List.range (vs.length - 1)).filterMap fun (k : Nat) => vs[k]?).toArray := by
    rw [List.size_toArray]
    congr 2
    funext k
    have : ((0 : Int) + (k : Int) * 1).toNat = k := by omega
    rw [this]
    simp
  rw [e]
  first
    | exact wpAny_bind (m := Builtin.Tuple.tupleExact _) (wpAny_newObj_type (wpAny_pure ⟨_, rfl, wpAny_pure h⟩) hdrop)
    | exact wpAny_bind (m := Builtin.Tuple.tupleExact _) (wpAny_newObj_type (wpAny_bind (wpAny_pure (wpAny_pure ⟨_, rfl, wpAny_pure h⟩))) hdrop)
    | exact wpAny_bind (wpAny_bind (m := Builtin.Tuple.tupleExact _) (wpAny_newObj_type (wpAny_pure (wpAny_pure ⟨_, rfl, wpAny_pure h⟩)) hdrop))
end
theorem pick_init (vs : List Value) (n : Nat) : (List.range n).filterMap (fun (k : Nat) => vs[k]?) = vs.take n := by
  induction n with
  | zero => rfl
  | succ n ih =>
    rw [List.range_succ, List.filterMap_append, ih, List.take_add_one]
    cases h : vs[n]? with
    | none => simp [h]
    | some v => simp [h]
section
variable {prog : Program} {w : World} {A : Around} {E : Value → Shared → Prop} {s : Shared} {h₀ : Heap} {L : Addr} {m : Str → Option Value}
theorem slice_tup_init {value slice : PySem.Expr} {P : Addr} {vs : List Value} {u : Tok} {l : List (Addr × Obj)} {Q : Value → Shared → Prop} (F : Fr h₀ L s.heap m) (N : News h₀ L s.heap l) (hm : (P, tupObj vs.toArray) ∈ l) (hn : 1 ≤ vs.length) (hz : vs.length ≤ 100)
    (h : ∀ D h', Fr h₀ L h' m → News h₀ L h' ((D, tupObj vs.dropLast.toArray) :: l) → (∀ p ∈ l, p.1 < D) → Q (.ref D) { s with heap := h' })
    (hs : subscripted slice false (.ref P) (.ref s.heap.objs.size) = operate [.ref s.heap.objs.size, .ref P] (getItem (.ref P) (.ref s.heap.objs.size)) := by with_unfolding_all rfl)
    (ht : ∀ r, letTemporaryGo value (.ref P) r = pure () := by intro _; with_unfolding_all rfl) :
    wpAny (model prog w) A (subscriptTail value slice (.ref P) (.ref s.heap.objs.size)) Q E { s with heap := s.heap.push { cls := .type "slice", data := .fields #[.none, .int (-1) u, .none] } } := by
  have hT := News.isTup N hm
  have hT1 : IsTup (s.heap.push { cls := .type "slice", data := .fields #[.none, .int (-1) u, .none] }) P vs.toArray := by
    (refine El.ex (hT) fun o zq102 => ?_; try clear hT; refine El.axaxx (zq102) fun ho hc zq103 => ?_; try clear zq102; refine El.ex (zq103) fun n hd => ?_; try clear zq103)
    exact ⟨o, Heap.get?_push_of_some _ ho, hc, n, hd⟩
  refine subscriptTail_ops (IsTup.typeIs (s := { s with heap := s.heap.push { cls := .type "slice", data := .fields #[.none, .int (-1) u, .none] } }) hT1) slot_tuple_getitem.lookup
    (getItem_tuple_init hT1 (Heap.IsSliceOf.new ..) hn hz ?_) hs ht
  rw [pick_init, ← List.dropLast_eq_take]
  have N1 := News.push (F.push { cls := .type "slice", data := .fields #[.none, .int (-1) u, .none] }) (N.grown fun _ _ e => Heap.get?_push_of_some _ e) { cls := .type "tuple", data := .seq vs.dropLast.toArray }
  show Q (.ref (s.heap.push _).objs.size) _
  exact h _ _ ((F.push _).push _) N1 fun p hp => by
    rw [Heap.size_push]
    exact Nat.lt_succ_of_lt (Heap.lt_size (N p hp).1)
end
inductive SameVal : Value → Value → Prop
  | int (n : Int) (t u : Tok) : SameVal (.int n t) (.int n u)
  | str (x : Str) (t u : Tok) : SameVal (.str x t) (.str x u)
  | bytes (a b : Array UInt8) (t u : Tok) : a = b → SameVal (.bytes a t) (.bytes b u)
inductive SameAll : List Value → List Value → Prop
  | nil : SameAll [] []
  | cons {x y : Value} {xs ys : List Value} : SameVal x y → SameAll xs ys → SameAll (x :: xs) (y :: ys)
theorem SameVal.eqAt {x y : Value} (h : SameVal x y) (A : Around) (s : Shared) : SeqAt.EqAt A s x y true := by
  cases h with
  | int n t u => exact (show (n == n) = true from beq_self_eq_true n) ▸ (MeetsSeq.EqGives.int n n t u).at A s
  | str x t u => exact fun prog w E Q hq => eqBool_str (by rw [beq_self_eq_true]; exact hq)
  | bytes a b t u e => subst e; exact fun prog w E Q hq => eqBool_bytes (by rw [decide_eq_true rfl]; exact hq)
theorem SameAll.length {xs ys : List Value} (h : SameAll xs ys) : xs.length = ys.length := by
  induction h with
  | nil => rfl
  | cons _ _ ih => simp only [List.length_cons, ih]
theorem SameAll.get {xs ys : List Value} (h : SameAll xs ys) : ∀ (j : Nat) (h1 : j < xs.length) (h2 : j < ys.length), SameVal xs[j] ys[j] := by
  induction h with
  | nil => intro j h1; cases h1
  | cons a _ ih =>
    intro j h1 h2
    cases j with
    | zero => exact a
    | succ j => exact ih j (by simpa using h1) (by simpa using h2)
theorem Reals.take {vs : List AV} {us : List Value} (r : Reals vs us) : ∀ k, Reals (vs.take k) (us.take k) := by
  induction r with
  | nil => intro k; rw [List.take_nil, List.take_nil]; exact .nil
  | cons a _ ih =>
    intro k
    cases k with
    | zero => exact .nil
    | succ k => exact .cons a (ih k)
section
variable {w : World} {K : Frag} {F : Fn} {n : Nat} {b : Bool} {c : Cx w K F n b} {E : Value → Shared → Prop} {m : AM} {l : AL}
theorem Te.cmpXX {op : CmpOp} {e1 e2 : PySem.Expr} {pos : Pos} {R1 : AV → AL → Prop} {R2 : AV → AV → AL → Prop} {p : Prop} (h1 : Ex c E m l e1 R1) (h2 : ∀ x l', R1 x l' → Ex c E m l' e2 (R2 x)) (ho : ∀ x y l'', R2 x y l'' → Pick l l'' ∧ Cp c E m l'' op x y p) (hm : behindInMarks op e2 = false) :
    Te c E m l (.Compare e1 [op] [e2] pos) p := fun Q h tk S k =>
  G_isTrue_Compare (h1 _ h tk S fun h' tk' u x l' hR1 S' r => h2 x l' hR1 _ h' tk' S' fun h'' tk'' u' y l'' hR S'' r' => by
    (refine El.axx (ho x y l'' hR) fun hp hc => ?_)
    exact G_any c.hΓ (hc _ h'' tk'' u u' S'' r r' fun h3 t S3 =>
      ⟨fun hp' => G_any c.hΓ (wpAny_truthy_bool ((k h3 t (S3.pick hp)).1 hp')), fun hp' => G_any c.hΓ (wpAny_truthy_bool ((k h3 t (S3.pick hp)).2 hp'))⟩)) hm
theorem Ev.cmpXX {op : CmpOp} {e1 e2 : PySem.Expr} {pos : Pos} {R1 : AV → AL → Prop} {R2 : AV → AV → AL → Prop} (h1 : Ex c E m l e1 R1) (h2 : ∀ x l', R1 x l' → Ex c E m l' e2 (R2 x)) (ho : ∀ x y l'', R2 x y l'' → Pick l l'' ∧ Cp c E m l'' op x y True) (hm : behindInMarks op e2 = false) :
    Ev c E m l (.Compare e1 [op] [e2] pos) (.bool true) := fun Q h tk S k =>
  G_Compare (h1 _ h tk S fun h' tk' u x l' hR1 S' r => h2 x l' hR1 _ h' tk' S' fun h'' tk'' u' y l'' hR S'' r' => by
    (refine El.axx (ho x y l'' hR) fun hp hc => ?_)
    exact G_any c.hΓ (hc _ h'' tk'' u u' S'' r r' fun h3 t S3 => ⟨fun _ => k h3 t _ (S3.pick hp) rfl, fun q => absurd trivial q⟩)) hm
noncomputable def AV.flat : AV → Bool
  | .raw _ => false
  | _ => true
theorem sameAll {vs : List AV} {us us' : List Value} (r : Reals vs us) (r' : Reals vs us') (h : vs.all AV.flat = true) : SameAll us us' := by
  induction r generalizing us' with
  | nil => cases r'; exact .nil
  | @cons a v as vs ra _ ih =>
    obtain _ | ⟨ra', r'⟩ := r'
    simp only [List.all_cons, Bool.and_eq_true] at h
    refine .cons ?_ (ih r' h.2)
    cases a with
    | int n => (refine El.ex (ra) fun t zz1 => ?_; try clear ra; (first | subst zz1 | cases zz1)); (refine El.ex (ra') fun t' zz1 => ?_; try clear ra'; (first | subst zz1 | cases zz1)); exact .int n t t'
    | str x => (refine El.ex (ra) fun t zz1 => ?_; try clear ra; (first | subst zz1 | cases zz1)); (refine El.ex (ra') fun t' zz1 => ?_; try clear ra'; (first | subst zz1 | cases zz1)); exact .str x t t'
    | bytes ks => (refine El.eeaxx (ra) fun b1 t zz1 e1 => ?_; try clear ra; (first | subst zz1 | cases zz1)); (refine El.eeaxx (ra') fun b2 t' zz1 e2 => ?_; try clear ra'; (first | subst zz1 | cases zz1)); exact .bytes _ _ _ _ (bInts_inj (e1.trans e2.symm))
    | raw u => exact absurd h.1 (by simp [AV.flat])
theorem Cp.ne_tup {A B : Addr} {vs : List AV} (h1 : (A, AO.tup vs) ∈ l) (h2 : (B, AO.tup vs) ∈ l) (hf : vs.all AV.flat = true) : Cp c E m l .NotEq (.ref A) (.ref B) False := fun Q h tk u u' S ru ru' k => by
  cases ru
  cases ru'
  (refine El.eaxx (S.tup h1) fun us hA r => ?_)
  (refine El.eaxx (S.tup h2) fun us' hB r' => ?_)
  have hu : c.A.units < cLine := by have := c.hun; show c.un < cLine; omega
  have hs := sameAll r r' hf
  have hl := hs.length
  refine SeqAt.RcNeAt.tuples (s := c.at h tk) (e := fun _ => true) hA hB hu (fun j h1 h2 => ?_) prog w E Q ?_
  · have := hs.get j (by simpa using h1) (by simpa using h2)
    simpa using this.eqAt c.A.in1 (c.at h tk)
  · have e : (!((List.range (min us.toArray.size us'.toArray.size)).all (fun _ => true) && us.toArray.size == us'.toArray.size)) = false := by
      rw [List.all_eq_true.mpr (fun _ _ => rfl), List.size_toArray, List.size_toArray, hl]
      simp
    rw [e]
    exact (k h tk S).2 id
theorem Cp.eq_list {A B : Addr} {vs : List AV} (h1 : (A, AO.list vs) ∈ l) (h2 : (B, AO.list vs) ∈ l) (hf : vs.all AV.flat = true) : Cp c E m l .Eq (.ref A) (.ref B) True := fun Q h tk u u' S ru ru' k => by
  cases ru
  cases ru'
  (refine El.eeaxx (S.list h1) fun us n1 hA r => ?_)
  (refine El.eeaxx (S.list h2) fun us' n2 hB r' => ?_)
  have hu : c.A.units < cLine := by have := c.hun; show c.un < cLine; omega
  have hs := sameAll r r' hf
  have hl := hs.length
  refine SeqAt.eq_listAt (s := c.at h tk) (e := fun _ => true) (items := us.toArray) (items2 := us'.toArray) ⟨_, hA, rfl, _, rfl⟩ ⟨_, hB, rfl, _, rfl⟩ (by simp; omega) hu (fun j a b => ?_) (by rw [List.all_eq_true.mpr fun _ _ => rfl]; exact (k h tk S).1 trivial)
  have := hs.get j (by simpa using a) (by simpa using b)
  simpa using this.eqAt _ (c.at h tk)
theorem Ex.tup_init {e1 e3 : PySem.Expr} {sp pos : Pos} {D : Addr} {vs : List AV} (h1 : Ev c E m l e1 (.ref D)) (h3 : Ev c E m l e3 (.int (-1))) (hm : (D, AO.tup vs) ∈ l) (h0 : 1 ≤ vs.length) (hz : vs.length ≤ 100) (hn : isName e1 = true) : Ex c E m l (.Subscript e1 (.Slice none (some e3) none sp) pos) (New (.tup vs.dropLast) l) := fun Q h tk S k =>
  G_Subscript (h1 _ h tk S fun h' tk' u S' r => G_Slice c.hΓ (Pt.no _ h' tk' S' fun h₂ tk₂ a S₂ ha => h3 _ h₂ tk₂ S₂ fun h₃ tk₃ u' S₃ hu => by
    cases r
    cases ha
    (refine El.ex (hu) fun t3 zz1 => ?_; try clear hu; (first | subst zz1 | cases zz1))
    obtain ⟨mm, news, Fr, M, N, RL, nd⟩ := S₃
    (refine El.eaxx (RL.tupM hm) fun us hmu rs => ?_)
    have hl := rs.length
    refine G_any c.hΓ (slice_tup_init (s := c.at h₃ tk₃) Fr N hmu (by omega) (by omega) (fun D' h₄ F₄ N₄ lt => k h₄ _ _ (.ref D') _ ⟨D', rfl, rfl⟩ ⟨mm, _, F₄, M, N₄, .tup ?_ RL, ?_⟩ rfl) rfl (fun _ => go_name hn))
    · rw [List.dropLast_eq_take, List.dropLast_eq_take, hl]
      exact rs.take _
    · rw [List.map_cons]
      refine List.nodup_cons.mpr ⟨fun z => ?_, nd⟩
      (refine El.eaxx (List.mem_map.mp z) fun q hq e => ?_)
      exact Nat.ne_of_lt (lt q hq) e))
end
end Mine

end
section
open PySem PySem.W PySem.Spec PySem.Calls PyProof.Rows
namespace Mine
set_option maxRecDepth 100000
set_option linter.unusedVariables false
set_option maxHeartbeats 2000000
noncomputable abbrev excMro : List Value := [.type "Exception", .type "BaseException", .type "object"]
structure ExcOk (K : Frag) (C N fI : Addr) : Prop where
  obj : ∃ nm q bs sn sub ab col dd k0 k1 k2 k3 k5, K.lookup C = some (excClassObj nm q C N bs excMro true sn sub ab col dd k0 k1 k2 k3 k5 "Exception.__new__")
  fn : isFn K (.ref fI) = true
  keep : keepIn K (.ref C) = true
  own : ∃ mN, (∀ h : Heap, K.In h → h.Ns N mN) ∧ mN "__init__" = some (.ref fI) ∧ mN "__setattr__" = none ∧ mN "text" = none
noncomputable def ExcAt (C : Addr) (o : Obj) : Prop := o.cls = .ref C ∧ ∃ t, o.data = .fields #[.ref t, .none, .none, .none, .bool false, .none]
theorem exc_init_find (K : Frag) : findCls K (.type "Exception") (.type "type") (Str.ofString "__init__") = some (.val (.builtin "Exception.__init__")) := by kernel_rfl
theorem look_text : typeLookup (.type "Exception") "text" = pure none := by rw [typeLookup_type, builtinLookup_eq_fast]; kernel_rfl
section
variable {w : World} {A : Around} {E : Value → Shared → Prop} {h : Heap} {g : Array GenState} {d : PySem.Drawn} {t : Nat} {os : OsState}
variable {nm q : Str} {C N : Addr} {bs bm : List Value} {hdct : Bool} {sn : List Str} {sub : List Value} {ab : Bool} {col : Option Bool} {dd : Option Addr} {k0 k1 k2 k3 k5 : Option Value} {B newId initId : String}
theorem base_init {prog : Program} (F : ExcBaseFacts B newId initId bm) {e t0 : Addr} {v : Value} {Q : Value → Shared → Prop}
    (hC : h.get? C = some (excClassObj nm q C N bs bm hdct sn sub ab col dd k0 k1 k2 k3 k5 newId)) (he : h.get? e = some { cls := .ref C, data := .fields #[.ref t0, .none, .none, .none, .bool false, .none] })
    (hq : ∀ h' t', (∀ b o, b ≠ e → h.get? b = some o → h'.get? b = some o) → h'.get? e = some { cls := .ref C, data := .fields #[.ref t', .none, .none, .none, .bool false, .none] } → Q .none ⟨h', g, d, t, os⟩) :
    wpAny (model prog w) A (call (.builtin initId) [.ref e, v]) Q E ⟨h, g, d, t, os⟩ := by
  refine wpAny_call (codeAny_call_builtin F.init.plain F.initEntry (wpAny_check_init_sub F hC he rfl ?_))
  have he1 := Heap.get?_push_of_some { cls := .type "tuple", data := .seq #[v] } he
  wp_walk
  refine hq _ h.objs.size (fun b o hb ho => ?_) ?_
  · rw [Heap.get?_update_other _ _ (Ne.symm hb)]
    exact Heap.get?_push_of_some _ ho
  · rw [Heap.get?_update_self _ he1 rfl]
    rfl
end

theorem News.turn {h₀ h h' : Heap} {L e : Addr} {o o' : Obj} {news : List (Addr × Obj)} (N : News h₀ L h ((e, o) :: news)) (nd : e ∉ news.map (·.1)) (k : ∀ b x, b ≠ e → h.get? b = some x → h'.get? b = some x) (ho : h'.get? e = some o') : News h₀ L h' ((e, o') :: news) := fun q hq => by
  rcases List.mem_cons.mp hq with rfl | hq
  · exact ⟨ho, (N _ (.head _)).2⟩
  · have z := N q (.tail _ hq)
    exact ⟨k _ _ (fun x => nd (x ▸ List.mem_map_of_mem hq)) z.1, z.2⟩
theorem Fr.turn {h₀ h h' : Heap} {L e : Addr} {m : Str → Option Value} (F : Fr h₀ L h m) (hL : e ≠ L) (hn : h₀.get? e = none) (k : ∀ b x, b ≠ e → h.get? b = some x → h'.get? b = some x) : Fr h₀ L h' m := by
  obtain ⟨⟨o, es, ep, hL', r⟩, kp, ab⟩ := F
  exact ⟨⟨o, es, ep, k _ _ (Ne.symm hL) hL', r⟩, fun b x hx => k b x (fun z => by rw [z, hn] at hx; cases hx) (kp b x hx), ab⟩
noncomputable abbrev excXs : List Str := [Str.ofString "self", Str.ofString "text"]
noncomputable abbrev excCall (p1 p2 p3 p4 p5 : Pos) : PySem.Expr := .Call (.Attribute (.Name (Str.ofString "Exception") p1) (Str.ofString "__init__") p2) [.Name (Str.ofString "self") p3, .Name (Str.ofString "text") p4] [] p5
noncomputable abbrev excBody (p1 p2 p3 p4 p5 p6 p7 p8 p9 p10 : Pos) : List Stmt := [.Expr (excCall p1 p2 p3 p4 p5) p6, .Assign [.Attribute (.Name (Str.ofString "self") p7) (Str.ofString "text") p8] (.Name (Str.ofString "text") p9) p10]
theorem exc_made {w : World} {K : Frag} {C N₁ : Addr} {F' : Fn} {name : Str} {params : Arguments} {p1 p2 p3 p4 p5 p6 p7 p8 p9 p10 cpos : Pos} {pl : Env → Sem Bool} {A₀ A : Around} {base h₀ : Heap} {env : Env} {outer : List Env} {L : Addr} {m mg mb : Str → Option Value} {news : List (Addr × Obj)}
    {p : Program} {loose : List Str} {mean : ExcName → Option Value} {s : Shared} {v : Value} {Q : Value → Shared → Prop} {E : Value → Shared → Prop}
    (H : ExcOk K C N₁ F'.addr) (hF : FnIn K F' name params (excBody p1 p2 p3 p4 p5 p6 p7 p8 p9 p10)) (hB : Binds F' name params (excBody p1 p2 p3 p4 p5 p6 p7 p8 p9 p10) excXs) (hp : plainFn F' excXs = true) (hx : isGlo F' (Str.ofString "Exception") = true)
    (he : ∀ env, eval (excCall p1 p2 p3 p4 p5) env = (do
      let ov ← eval (.Name (Str.ofString "Exception") p1) env
      standAt p2.atName
      let (f, first) ← holding [ov] (getMethod ov (Str.ofString "__init__") (pl env))
      callWith cpos f first (backTo p5 (starEach [.Name (Str.ofString "self") p3, .Name (Str.ofString "text") p4] env)) []))
    (hexg : nsIn K mainGlobals (Str.ofString "Exception") = some none)
    (B : Below A₀ base outer h₀) (F : Fr h₀ L s.heap m) (X : K.In h₀) (N : News h₀ L s.heap news) (T : Top p loose mean mg mb h₀) (hA : A.frames = some (env :: outer)) (hf : env.frame = some L) (hke : env.scope.kind = .function) (hroom : A.depth + 1 < recursionLimit)
    (h : ∀ h' tk' e o, Fr h₀ L h' m → News h₀ L h' ((e, o) :: news) → e ∉ news.map (·.1) → ExcAt C o → Q (.ref e) { s with heap := h', toks := tk' }) : wpAny (model prog w) A (PySem.call (.ref C) [v]) Q E s := by
  have FE := PySem.F.excBase_Exception
  obtain ⟨⟨nm, q, bs, sn, sub, ab, col, dd, k0, k1, k2, k3, k5, hC⟩, hfn, _, mN, hN, hi, hsa, htx⟩ := H
  (refine El.aeeeeeeexx (hF) fun doc pm an ct oc od osl hlk hcd => ?_; try clear hF)
  simp only [plainFn, Bool.and_eq_true, List.all_eq_true, decide_eq_true_eq, Bool.not_eq_true'] at hp
  (refine El.aaaaaxxxxxx (hp) fun hloc hkind hco hgen hcell hnd => ?_; try clear hp)
  simp only [isGlo, Bool.and_eq_true, decide_eq_true_eq, Bool.not_eq_true'] at hx
  have Xs := X.keeps F.keep
  obtain ⟨hh, gg, ds, tk, os⟩ := s
  have hfc : (⟨oc, od, .func (fnOf name F'.qual params (excBody p1 p2 p3 p4 p5 p6 p7 p8 p9 p10) F'.scope .none .none doc pm an F'.cd ct), osl⟩ : Obj).cls = .type "function" := by
    have := beq_iff_eq.mp hfn
    have : (K.lookup F'.addr).map (·.cls) = some (.type "function") := this
    rw [hlk] at this
    exact Option.some.inj this
  refine wpAny_call_exc_init FE (Xs _ _ hC) (hN _ Xs) hi (Xs _ _ hlk) hfc (fun h1 e hm => ?_)
  (refine El.eaxaxx (hm.there) fun t0 he0 zz1 zz2 => ?_)
  have F1 : Fr h₀ L h1 m := F.keeps hm.keeps
  have en : e ∉ news.map (·.1) := fun z => by
    (refine El.eaxx (List.mem_map.mp z) fun p' hp' zz1 => ?_; (first | subst zz1 | cases zz1))
    have := hm.new
    rw [(N p' hp').1] at this; cases this
  have hen : h₀.get? e = none := by
    cases z : h₀.get? e with
    | none => rfl
    | some o => have := F.keep _ _ z; rw [hm.new] at this; cases this
  have heL : e ≠ L := fun z => by
    (refine El.eeeaxx (F.ns) fun zz1 zz2 zz3 z' zz4 => ?_)
    have := hm.new
    rw [z, z'] at this; cases this
  have N1 : News h₀ L h1 ((e, { cls := .ref C, data := .fields #[.ref t0, .none, .none, .none, .bool false, .none] }) :: news) := fun p' hp' => by
    rcases List.mem_cons.mp hp' with rfl | hp'
    · exact ⟨he0, heL, hen⟩
    · exact N.grown hm.keeps p' hp'
  have hroom' : (A.under (.builtin "type.__call__" ⟨[.ref C, v], []⟩)).depth < recursionLimit := by rw [depth_under_kw]; omega
  refine wpAny_call (code_def (binds := excXs.zip [.ref e, v]) B F1 X N1 T hA hf hke hlk hcd hroom' (BindsTo.of_eq (hB _ _ _ _ _ rfl)) (fun y hy => hloc _ (List.of_mem_zip hy).1) (fun g L' h₂ F₂ F₃ N' B' X' T' Γ' pp hΓ' => ?_) hco hgen hkind (fun x hx => by simpa using hcell x hx))
  have hl1 : (excXs.zip [Value.ref e, v]).reverse.lookup (Str.ofString "self") = some (.ref e) := rfl
  have hl2 : (excXs.zip [Value.ref e, v]).reverse.lookup (Str.ofString "text") = some v := rfl
  have hls : F'.scope.names.lookup (Str.ofString "self") = some .local := hloc _ (.head _)
  have hlt : F'.scope.names.lookup (Str.ofString "text") = some .local := hloc _ (.tail _ (.head _))
  have X3 := X'.keeps F₃.keep
  have hnt : (Str.ofString "self" == ("__debug__" : Str)) = false := by decide
  have hnt2 : (Str.ofString "text" == ("__debug__" : Str)) = false := by decide
  refine (show G (model prog w) Γ' (execs (_ :: _ :: []) (envX F'.qual F'.scope L' F'.addr F'.cd [])) _ _ _ from ?_) pp
  refine G_st ?_
  rw [exec_Expr _ _ _ (by show (F'.scope.kind == .module && _) = false; rw [hkind]; rfl) (swaps_plain (by rfl)), he]
  refine G_bind (G_standAt (G_bind (G_bind (G_any hΓ' (nameX_B F₃ X' (topRead_of T') hexg (by kernel_rfl : bootBuiltins (Str.ofString "Exception") = some (.type "Exception")) (by decide) ?_ hkind hx.1 hx.2)))))
  refine G_bind (G_standAt (G_bind (G_holding (G_any hΓ' (method_type F₃ X' (by kernel_rfl) (by kernel_rfl) (exc_init_find K) (by kernel_rfl) ?_)))))
  refine (show G _ _ (callWith cpos (.builtin "Exception.__init__") [] (backTo p5 (starEach [.Name (Str.ofString "self") p3, .Name (Str.ofString "text") p4] _)) []) _ _ _ from ?_)
  refine G_callWith (P := fun _ => True) (fun h _ => ⟨.machine, .inr (.inl rfl), Looks.of_pure rfl⟩) (G_args_cons (G_any hΓ' (nameX_L F₃ hl1 (G_args_cons (G_any hΓ' (nameX_L F₃ hl2 (G_args_nil ⟨trivial, ?_⟩) hkind hlt hnt2)) rfl) hkind hls hnt)) rfl) rfl rfl
  have he3 := (N' _ (.head _)).1
  have hC3 := X3 _ _ hC
  have nd1 : e ∉ news.map (·.1) := en
  refine G_any hΓ' (base_init FE hC3 he3 fun h3 t3 kp3 he3' => G_any hΓ' (wpAny_dropValue ?_))
  have N3 := News.turn N' nd1 kp3 he3'
  have F4 := Fr.turn F₃ (N' _ (.head _)).2.1 (N' _ (.head _)).2.2 kp3
  have X4 := X'.keeps F4.keep
  refine (show G _ _ (execs (_ :: []) _) _ _ _ from G_st ?_)
  refine G_Assign_Attribute (A := A) (G_any hΓ' (nameX_L F4 hl2 (G_assign_Attribute hΓ' (G_any hΓ' (nameX_L F4 hl1 ?_ hkind hls hnt))) hkind hlt hnt2)) (swaps_plain (by rfl))
  have heC : e ≠ C := fun z => by
    have := hm.new
    rw [z, Xs _ _ hC] at this; cases this
  refine G_any hΓ' (store_attr PySem.F.store_Exception (X4 _ _ hC) (hN _ X4) hsa htx look_text heC ⟨_, he3', rfl, fun c h => (nomatch h), .inl ⟨rfl, fun _ => rfl⟩⟩ fun h5 tk5 I5 kp5 sm5 => ?_)
  (refine El.eaxaxaxx (sm5 _ he3') fun o5 ho5 hc5 hd5 zz1 => ?_)
  have kp5' : ∀ b o, b ≠ e → h3.get? b = some o → h5.get? b = some o := fun b o hb ho => kp5 b o hb (fun o₀ dx h1 h2 => by rw [he3'] at h1; cases h1; cases h2) ho
  have N5 := News.turn N3 nd1 kp5' ho5
  have F5 := Fr.turn F4 (N3 _ (.head _)).2.1 (N3 _ (.head _)).2.2 kp5'
  refine (show G _ _ (execs [] _) _ _ _ from G_execs_nil ⟨L', _, _, F5, N5, fun F6 N6 => ⟨rfl, ?_⟩⟩)
  exact h h5 tk5 e o5 F6 N6 en ⟨hc5, _, hd5⟩

section
variable {w : World} {A : Around} {E : Value → Shared → Prop}
theorem G_Raise {M : Model} {Γ : PySem.Ctx} {K : Frag} {C N fI : Addr} {env : Env} {x : PySem.Expr} {pos : Pos} {s : Shared} {Q : Flow → Shared → Prop} (hΓ : Γ.In A) (H : ExcOk K C N fI)
    (h : G M Γ (eval x env) (fun v s₁ => ∃ e o, v = .ref e ∧ K.In s₁.heap ∧ s₁.heap.get? e = some o ∧ ExcAt C o ∧ wpAny M A (raiseNew (.ref e)) Q E s₁) E s) : G M Γ (exec (.Raise (some x) none pos) env) Q E s := by
  have hcB : (Value.ref C :: excMro).contains (.type "BaseException") = true := by simp
  (refine El.eeeeeeeeeeeeex (H.obj) fun nm q bs sn sub ab col dd k0 k1 k2 k3 k5 hC0 => ?_)
  rw [arm_exec_Raise]
  refine G_bind (G_standAt ?_)
  unfold raiseStmt
  rw [show evalOpt (some x) env = some (eval x env) from rfl, show evalOpt none env = none from rfl]
  simp only [Option.map]
  refine G_bind (G_bind (G_mono h (fun v s₁ h₁ => G_bind (G_standAt (G_pure (G_any hΓ ?_)))) fun _ _ x => x))
  (refine El.eex (h₁) fun e o zq76 => ?_; try clear h₁; refine El.axaxaxaxx (zq76) fun zz1 X he zq77 hE => ?_; try clear zq76; refine El.axex (zq77) fun hcls t hd => ?_; try clear zq77; (first | subst zz1 | cases zz1))
  have hC := X _ _ hC0
  obtain ⟨oc, od, odt, osl⟩ := o
  cases hcls
  cases hd
  obtain ⟨hp, g, d, tk, os⟩ := s₁
  repeat (first | with_reducible exact hE | with_reducible refine wpAny_loadPart_at he ?_ | with_reducible refine wpAny_loadPart_at hC ?_ | (with_reducible refine wpAny_isSubtype_exc hC ?_; rw [hcB]) | wp_step)
end
end Mine

end
section
open PySem PySem.W PySem.Spec PySem.Calls PyProof.Rows
namespace Mine
set_option maxRecDepth 100000
set_option linter.unusedVariables false
noncomputable def TrC (B : Heap) (e : Addr) (cls x fl : Value) (h : Heap) : Prop :=
  ∃ oe vs T oT ts, h.get? e = some oe ∧ oe.cls = cls ∧ oe.data = .fields vs ∧ vs[1]? = some (.ref T) ∧ vs[2]? = some x ∧ B.get? T = none ∧ T ≠ e ∧ h.get? T = some oT ∧ oT.data = .fields ts ∧ ts[3]? = some fl
noncomputable def FlC (B : Heap) (fs : List Env) (e : Addr) (cls x fl : Value) (h : Heap) : Prop := B.StaysIn h ∧ B.get? e = none ∧ h.FunFrames B fs ∧ TrC B e cls x fl h
section
variable {M : Model} {A : Around} {E : Value → Shared → Prop} {s : Shared} {B : Heap} {env : Env} {outer : List Env} {fs : List Env} {L e : Addr} {cls x fl head : Value}
theorem FlC.up {h : Heap} (X : FlC B fs e cls x fl h) : ∃ o, h.get? e = some o ∧ o.cls = cls := by
  (refine El.axaxaxx (X) fun zz1 zz2 zz3 zq17 => ?_; try clear X; refine El.eeeeex (zq17) fun oe zz4 zz5 zz6 zz7 zq18 => ?_; try clear zq17; refine El.axaxx (zq18) fun he hc zz8 => ?_; try clear zq18)
  exact ⟨oe, he, hc⟩
theorem FlC.at {h : Heap} (X : FlC B fs e cls x fl h) : ∃ a0, Heap.TracedAtW h B e cls a0 fl := by
  (refine El.axaxaxx (X) fun zz1 zz2 zz3 zq19 => ?_; try clear X; refine El.eeeeex (zq19) fun oe vs T oT ts zq20 => ?_; try clear zq19; refine El.axaxaxaxaxx (zq20) fun he hc hd h1 h2 r => ?_; try clear zq20)
  (refine El.ex (Array.getElem?_eq_some_iff.mp h2) fun z zz1 => ?_)
  exact ⟨vs[0], oe, vs, T, oT, ts, he, ⟨hc, Array.getElem?_eq_getElem (by omega)⟩, hd, h1, r⟩
theorem upd_none {h : Heap} {a b : Addr} {o : Obj} {f : Obj → Obj} (hb : h.get? b = some o) (ne : b ≠ a) : (h.update a f).get? b = some o := (Heap.get?_update_other _ _ (Ne.symm ne)).trans hb
theorem entryC {oe : Obj} {vs : Array Value} {hadNext : Bool} {Q : Unit → Shared → Prop} (hfr : A.frames = some (env :: outer)) (hl : s.heap.FunFrames B (env :: outer)) (hf : env.frame = some L)
    (he : s.heap.get? e = some oe) (hb : B.StaysIn s.heap) (hen : B.get? e = none) (hd : oe.data = .fields vs) (hsz : 1 < vs.size) (hx : vs[2]? = some x)
    (h : ∀ h', FlC B (env :: outer) e oe.cls x (rawInt L) h' → s.heap.UpToSlots h' → Q () { s with heap := h' }) :
    wpAny M A (do let a ← frameOf env; let pl ← entryPlaceOf L hadNext; let b ← EntryCells.newEntry head a .none (rawInt L) .none pl; setField (.ref e) 1 b) Q E s := by
  have frs : ∀ a, a ∈ (env :: outer).filterMap (·.frame) → B.get? a = none ∧ a ≠ e := fun a hm => by
    (refine El.axeaxx (hl.mem hm) fun z o ho hnf => ?_)
    refine ⟨z, fun q => ?_⟩
    rw [q, he] at ho
    cases ho
    exact hnf vs hd
  refine wpAny_bind (wpAny_frameOf_fun hfr hl hf fun h1 hs => wpAny_bind (wpAny_entryPlaceOf fun pl hpl => ?_))
  unfold EntryCells.newEntry newFields
  refine wpAny_bind (wpAny_newObj_type ?_ (hpl.sizeOk5 _ _ _ _ _))
  have he1 : h1.get? e = some oe := (hs.2.1 e fun hm => (frs e hm).2 rfl).trans he
  have st1 : B.StaysIn h1 := fun a o ha => (hs.2.1 a fun hm => by rw [(frs a hm).1] at ha; cases ha).trans (hb a o ha)
  have he2 := Heap.get?_push_of_some (h := h1) { cls := .type "traceback", dict := none, data := .fields ([head, .ref L, .none, rawInt L, .none] ++ (if pl.isEmpty then List.replicate 6 Value.none else pl)).toArray } he1
  have hT := Heap.get?_push_size h1 (o := { cls := .type "traceback", dict := none, data := .fields ([head, .ref L, .none, rawInt L, .none] ++ (if pl.isEmpty then List.replicate 6 Value.none else pl)).toArray }) rfl
  have ne1 : h1.objs.size ≠ e := Nat.ne_of_gt (Heap.lt_size he1)
  have keep : ∀ a o, a ≠ e → h1.get? a = some o → ((h1.push { cls := .type "traceback", dict := none, data := .fields ([head, .ref L, .none, rawInt L, .none] ++ (if pl.isEmpty then List.replicate 6 Value.none else pl)).toArray }).update e (Obj.mapFields (·.setIfInBounds 1 (.ref h1.objs.size)))).get? a = some o :=
    fun a o ne ha => upd_none (Heap.get?_push_of_some _ ha) ne
  have nofld : ∀ a o, s.heap.get? a = some o → (∀ us, o.data ≠ .fields us) → a ≠ e := fun a o ha hn q => by
    rw [q, he] at ha
    cases ha
    exact hn vs hd
  refine wpAny_setField he2 hd hsz (h _ ⟨fun a o ha => keep a o (fun q => by rw [q, hen] at ha; cases ha) (st1 a o ha), hen, hl.of_keeps fun a o ha hn => ?_, ?_⟩ fun a o ha hn => ?_)
  · (refine El.ex (hs.2.2 a o ha) fun sl z => ?_)
    exact ⟨_, keep a _ (nofld a o ha hn) z, rfl⟩
  · have hd3 := Obj.data_mapFields hd (·.setIfInBounds 1 (Value.ref h1.objs.size))
    refine ⟨_, _, h1.objs.size, _, _, Heap.get?_update_self _ he2 (Obj.isFreed_of_fields hd3), Obj.cls_mapFields _ _, hd3, by simp [hsz], ?_, st1.fresh, ne1, upd_none hT ne1, rfl, ?_⟩
    · rw [Array.getElem?_setIfInBounds_ne (by decide)]; exact hx
    · first | (simp; done) | (rcases hpl with rfl | ⟨_, _, _, _, _, _, _, rfl⟩ <;> simp)
  · (refine El.ex (hs.2.2 a o ha) fun sl z => ?_)
    exact ⟨sl, keep a _ (nofld a o ha hn) z⟩
theorem unmarkC {Q : Unit → Shared → Prop} (X : FlC B fs e cls x fl s.heap) (h : ∀ h', FlC B fs e cls x .none h' → s.heap.UpToSlots h' → Q () { s with heap := h' }) : wpAny M A (setFlight (.ref e) none) Q E s := by
  (refine El.axaxaxx (X) fun hb hen hl zq21 => ?_; try clear X; refine El.eeeeex (zq21) fun oe vs T oT ts zq22 => ?_; try clear zq21; refine El.axaxaxaxaxaxaxaxaxx (zq22) fun he hc hd h1 h2 hT0 ne hT hdT h3 => ?_; try clear zq22)
  (refine El.ex (Array.getElem?_eq_some_iff.mp h3) fun z3 zz1 => ?_)
  have nofld : ∀ a o, s.heap.get? a = some o → (∀ us, o.data ≠ .fields us) → a ≠ T := fun a o ha hn q => by
    rw [q, hT] at ha
    cases ha
    exact hn ts hdT
  unfold setFlight
  refine wpAny_bind (wpAny_field he hd h1 ?_)
  rw [if_pos (show (Value.ref T != Value.none) = true from by simp)]
  refine wpAny_setField hT hdT z3 (h _ ⟨fun a o ha => upd_none (hb a o ha) (fun q => by rw [q, hT0] at ha; cases ha), hen, hl.of_keeps fun a o ha hn => ⟨o, upd_none ha (nofld a o ha hn), rfl⟩, ?_⟩ fun a o ha hn => ⟨o.slots, upd_none ha (nofld a o ha hn)⟩)
  exact ⟨oe, vs, T, _, _, upd_none he (Ne.symm ne), hc, hd, h1, h2, hT0, ne, Heap.get?_update_self _ hT (Obj.isFreed_of_fields (Obj.data_mapFields hdT _)), Obj.data_mapFields hdT _, by simp [z3]⟩
theorem noteC {Q : Unit → Shared → Prop} (hfr : A.frames = some (env :: outer)) (hf : env.frame = some L) (X : FlC B (env :: outer) e cls x .none s.heap)
    (h : ∀ h', FlC B (env :: outer) e cls x (rawInt L) h' → s.heap.UpToSlots h' → Q () { s with heap := h' }) : wpAny M A (noteFrame (.ref e) env) Q E s := by
  (refine El.axaxaxx (X) fun hb hen hl zq23 => ?_; try clear X; refine El.eeeeex (zq23) fun oe vs T oT ts zq24 => ?_; try clear zq23; refine El.axaxaxaxaxaxaxaxaxx (zq24) fun he hc hd h1 h2 hT0 ne hT hdT h3 => ?_; try clear zq24)
  subst hc
  (refine El.ex (Array.getElem?_eq_some_iff.mp h3) fun z3 zz1 => ?_)
  (refine El.ex (Array.getElem?_eq_some_iff.mp h1) fun z1 zz1 => ?_)
  have nofld : ∀ a o, s.heap.get? a = some o → (∀ us, o.data ≠ .fields us) → a ≠ T := fun a o ha hn q => by
    rw [q, hT] at ha
    cases ha
    exact hn ts hdT
  unfold noteFrame
  simp only [hf]
  refine wpAny_bind (wpAny_field he hd h1 ?_)
  rw [if_pos (show (Value.ref T != Value.none) = true from by simp)]
  refine wpAny_bind (wpAny_field hT hdT h3 ?_)
  rw [if_neg (show ¬ ((Value.none == rawInt L) = true) from by simp [rawInt])]
  refine wpAny_bind (wpAny_setField hT hdT z3 ?_)
  refine entryC hfr (hl.of_keeps fun a o ha hn => ⟨o, upd_none ha (nofld a o ha hn), rfl⟩) hf (upd_none he (Ne.symm ne)) (fun a o ha => upd_none (hb a o ha) (fun q => by rw [q, hT0] at ha; cases ha)) hen hd z1 h2 fun h' y1 y2 =>
    h h' y1 (Heap.UpToSlots.trans (fun a o ha hn => ⟨o.slots, upd_none ha (nofld a o ha hn)⟩) y2)
theorem noteC0 {oe : Obj} {vs : Array Value} {Q : Unit → Shared → Prop} (hfr : A.frames = some (env :: outer)) (hl : s.heap.FunFrames B (env :: outer)) (hf : env.frame = some L)
    (he : s.heap.get? e = some oe) (hb : B.StaysIn s.heap) (hen : B.get? e = none) (hd : oe.data = .fields vs) (h1 : vs[1]? = some .none) (hx : vs[2]? = some x)
    (h : ∀ h', FlC B (env :: outer) e oe.cls x (rawInt L) h' → s.heap.UpToSlots h' → Q () { s with heap := h' }) : wpAny M A (noteFrame (.ref e) env) Q E s := by
  (refine El.ex (Array.getElem?_eq_some_iff.mp h1) fun z1 zz1 => ?_)
  unfold noteFrame
  simp only [hf]
  refine wpAny_bind (wpAny_field he hd h1 ?_)
  rw [if_neg (by decide)]
  exact entryC hfr hl hf he hb hen hd z1 hx h
theorem noteC1 {Q : Unit → Shared → Prop} (hf : env.frame = some L) (X : FlC B fs e cls x (rawInt L) s.heap) (h : Q () s) : wpAny M A (noteFrame (.ref e) env) Q E s :=
  let ⟨_, z⟩ := X.at
  wpAny_noteFrame_againW hf z h
end
end Mine

end
section
open PySem PySem.W PySem.Spec PySem.Calls PyProof.Rows
namespace Mine
set_option maxRecDepth 100000
set_option linter.unusedVariables false
section
variable {w : World} {K : Frag} {F : Fn} {n : Nat} {b : Bool}
noncomputable def Kept (c : Cx w K F n b) (B : Heap) (l : AL) (h : Heap) : Prop :=
  (∀ a o, c.h₀.get? a = some o → a ∉ c.outer.filterMap (·.frame) → B.get? a = some o) ∧ c.h₀.UpToSlots h ∧ c.base.StaysIn B ∧
    ∃ news, (∀ q ∈ news, B.get? q.1 = some q.2 ∧ c.h₀.get? q.1 = none) ∧ RealL w l news ∧ (news.map (·.1)).Nodup
noncomputable def Fly (c : Cx w K F n b) (e C : Addr) (m : AM) (l : AL) (h : Heap) : Prop :=
  ∃ B x, Kept c B l h ∧ (∃ mm, h.Ns c.L mm ∧ MapOk m mm ∧ c.h₀.objs.size ≤ c.L) ∧ (C = 51 → x = .none) ∧ FlC B (c.env :: c.outer) e (.ref C) x .none h
noncomputable def Held (c : Cx w K F n b) (e C : Addr) (l : AL) (h : Heap) : Prop := ∃ B x, Kept c B l h ∧ (C = 51 → x = .none) ∧ FlC B (c.env :: c.outer) e (.ref C) x (rawInt c.L) h
noncomputable def Fresh (c : Cx w K F n b) (e C : Addr) (l : AL) (h : Heap) : Prop := ∃ m o, St c h m ((e, .raw o) :: l) ∧ ExcAt C o
noncomputable def Gone (c : Cx w K F n b) (e C : Addr) (l : AL) (h : Heap) : Prop := ∃ B x, Kept c B l h ∧ (C = 51 → x = .none) ∧ FlC B c.outer e (.ref C) x .none h
noncomputable def Out (c : Cx w K F n b) (e C : Addr) (l : AL) (h : Heap) : Prop := (∃ m, Fly c e C m l h) ∨ Held c e C l h ∨ Fresh c e C l h
variable {c : Cx w K F n b} {E : Value → Shared → Prop} {m : AM} {l : AL} {e C : Addr}
theorem Kept.on {B h h' : Heap} (k : Kept c B l h) (sm : h.UpToSlots h') : Kept c B l h' := ⟨k.1, k.2.1.trans sm, k.2.2⟩
theorem env_mem {a : Addr} (hm : a ∈ (c.env :: c.outer).filterMap (·.frame)) : a = c.L ∨ a ∈ c.outer.filterMap (·.frame) := by
  (refine El.eaxx (List.mem_filterMap.mp hm) fun env he hf => ?_)
  rcases List.mem_cons.mp he with rfl | he
  · exact .inl (Option.some.inj hf).symm
  · exact .inr (List.mem_filterMap.mpr ⟨env, he, hf⟩)
theorem FlC.drop {B h : Heap} {env : Env} {fs : List Env} {cls x fl : Value} (X : FlC B (env :: fs) e cls x fl h) : FlC B fs e cls x fl h :=
  let ⟨k1, k2, ⟨_, _, k3⟩, k4⟩ := X
  ⟨k1, k2, k3, k4⟩
theorem leave_out {M : Model} {s : Shared} {Q : Unit → Shared → Prop} {E' : Value → Shared → Prop} (O : Out c e C l s.heap) (k : ∀ h', Gone c e C l h' → Q () { s with heap := h' }) : wpAny M c.A (leaving c.env (.ref e)) Q E' s := by
  unfold leaving
  rcases O with ⟨m, B, x, kp, _, hx, hfl⟩ | ⟨B, x, kp, hx, hh⟩ | ⟨m, o, S, hx⟩
  · exact wpAny_bind (noteC (A := c.A) (env := c.env) rfl rfl hfl fun h1 y1 y2 => unmarkC y1 fun h2 z1 z2 => k h2 ⟨B, x, kp.on (y2.trans z2), hx, z1.drop⟩)
  · exact wpAny_bind (noteC1 (env := c.env) rfl hh (unmarkC hh fun h2 z1 z2 => k h2 ⟨B, x, kp.on z2, hx, z1.drop⟩))
  · obtain ⟨mm, news, Fr₀, M₀, N, RL, nd⟩ := S
    (refine El.eaxx (RL.rawC) fun ns zz1 RL' => ?_; (first | subst zz1 | cases zz1))
    rw [List.map_cons, List.nodup_cons] at nd
    (refine El.axex (hx) fun hcls t hd => ?_; try clear hx)
    have N1 : News c.h₀ c.L s.heap [(e, o)] := fun q hq => N q (by
      rcases List.mem_cons.mp hq with rfl | hq
      · exact .head _
      · cases hq)
    (refine El.axaxaxx (groundX (A := c.A) (R := fun _ _ => True) c.B Fr₀ N1 rfl rfl c.kind) fun FG BG stg zz1 => ?_)
    have he := (N _ (.head _)).1
    have hin : ∀ env ∈ (c.env :: c.outer), ∀ a, env.frame = some a → a ∈ (c.env :: c.outer).filterMap (·.frame) := fun env he a hb => List.mem_filterMap.mpr ⟨env, he, hb⟩
    have up : ∀ a o, (hideAll s.heap [e]).get? a = some o → s.heap.get? a = some o := fun a o z => of_hideAll _ z
    have en : (hideAll (hideAll s.heap [e]) ((c.env :: c.outer).filterMap (·.frame))).get? e = none := by
      cases q : (hideAll (hideAll s.heap [e]) ((c.env :: c.outer).filterMap (·.frame))).get? e with
      | none => rfl
      | some o => have := of_hideAll _ q; rw [hideAll_none _ (.head _)] at this; cases this
    have sg : ∀ a o, c.h₀.get? a = some o → a ∉ c.outer.filterMap (·.frame) → (hideAll (hideAll s.heap [e]) ((c.env :: c.outer).filterMap (·.frame))).get? a = some o := fun a o q nm => hideAll_get _ (FG.keep a o q) fun hm => by
      rcases env_mem hm with z | z
      · rw [z, kts_self FG] at q; cases q
      · exact nm z
    have st : c.base.StaysIn (hideAll (hideAll s.heap [e]) ((c.env :: c.outer).filterMap (·.frame))) := fun a o q => hideAll_get _ (BG.stays a o q) fun hm => by
      rw [(BG.frames.mem hm).1] at q; cases q
    have hl : ∀ q ∈ ns, (hideAll (hideAll s.heap [e]) ((c.env :: c.outer).filterMap (·.frame))).get? q.1 = some q.2 ∧ c.h₀.get? q.1 = none := fun q hq => by
      have z := N q (.tail _ hq)
      refine ⟨hideAll_get _ (hideAll_get _ z.1 fun hm => nd.1 ?_) fun hm => ?_, z.2.2⟩
      · rcases List.mem_cons.mp hm with y | y
        · have := List.mem_map_of_mem (f := (·.1)) hq; rw [y] at this; exact this
        · exact nomatch y
      · rcases env_mem hm with y | y
        · exact z.2.1 y
        · (refine El.eaxx ((c.B.frames.mem y).2) fun o' ho' zz1 => ?_)
          rw [z.2.2] at ho'; cases ho'
    refine wpAny_bind (noteC0 (A := c.A) (env := c.env) (outer := c.outer) (x := .none) rfl ((funFrames_hide BG.frames hin).of_keeps fun a o hb _ => ⟨o, up a o hb, rfl⟩) rfl he (fun a o hb => up a o (of_hideAll _ hb)) en hd rfl rfl fun h1 y1 y2 => unmarkC y1 fun h2 z1 z2 => ?_)
    exact k h2 ⟨_, .none, ⟨sg, (Heap.UpToSlots.of_keeps fun a o z => up a o (FG.keep a o z)).trans (y2.trans z2), st, ns, hl, RL', nd.2⟩, fun _ => rfl, by rw [← hcls]; exact z1.drop⟩
end
section
variable {prog : Program} {w : World} {Γ : PySem.Ctx} {A : Around} {E : Value → Shared → Prop} {s : Shared}
theorem G_call_defX {q : Prop} {Q : Value → Shared → Prop} {a : Addr} {o : Obj} {fd : FuncData} {body : List Stmt} {args : List Value} {binds : List (Str × Value)} (hΓ : Γ.In A) (hC : q → Clean Γ)
    (hroom : A.depth < recursionLimit) (ho : s.heap.get? a = some o) (hdata : o.data = .func fd) (hlim : s.heap.NoLimit) (hcd : s.heap.CodeRec fd.code fd.qualname)
    (hbody : fd.body = .stmts body) (hbind : BindsTo s fd ⟨args, []⟩ binds)
    (hcell : ∀ x ∈ fd.scope.names, x.2 ≠ .cell) (hloc : ∀ x ∈ binds, fd.scope.names.lookup x.1 = some .local)
    (h : ∀ h₀ (Γ' : PySem.Ctx), Γ'.In (A.deeper (callEnv fd s.heap.objs.size a)) → (q → Clean Γ') → h₀.Ns s.heap.objs.size (fun x => binds.reverse.lookup x) → (∀ b o, s.heap.get? b = some o → h₀.get? b = some o) →
      G (model prog w) Γ' (execs body (callEnv fd s.heap.objs.size a)) (fun f s' => Q (match f with | .ret v => v | _ => .none) s')
        (fun e s' => G (model prog w) Γ' (leaving (callEnv fd s.heap.objs.size a) e) (fun _ s'' => E e s'') (fun e' s'' => E e' s'') s') { s with heap := h₀, toks := s.toks + binds.length })
    (hco : fd.scope.isCoroutine = false := by rfl) (hgen : fd.scope.isGenerator = false := by rfl) (hk : fd.scope.kind = .function := by rfl) :
    G (model prog w) Γ (call (.ref a) args) Q E s := by
  refine G_runValue fun p => wpCode_tree (G_any (In_call hΓ).in ?_)
  show wpAny _ A.in1 (callAny (.ref a) ⟨args, []⟩) _ _ s
  refine wpAny_callAny_function hroom ho hdata hco hgen hbody hcd (hbind _ _ _ _ ?_)
  refine wpAny_newFunctionEnv hcell hloc (fun h₀ hns₀ hsb₀ => ⟨hlim.fresh _ hsb₀, rfl, fun p' => ?_⟩) hk
  refine wpCode_tree ?_
  show G _ _ (do point; match ← (execs body (callEnv fd s.heap.objs.size a)).onRaise (leaving (callEnv fd s.heap.objs.size a)) with | .ret v => ret v | _ => ret .none) _ _ _
  refine G_bind (G_point (G_bind (G_onRaise (G_mono (h h₀ _ ((In_call hΓ).goto _).in (fun z => ((hC z).enter (c := .call (.ref a) ⟨args, []⟩) rfl none p).goto rfl) hns₀ (fun b o e => ?_)) (fun f s' h' => ?_) fun e s' h' => h'))))
  · exact hsb₀.extBut b o (Nat.ne_of_lt (Heap.lt_size e)) (Heap.get?_push_of_some _ e)
  · cases f <;> exact G_pure h'
theorem G_defX {q : Prop} {Q : Value → Shared → Prop} {A₀ : Around} {env : Env} {outer : List Env} {base h₀ : Heap} {L : Addr} {m mg mb : Str → Option Value} {news : List (Addr × Obj)} {K : Frag} {p : Program} {loose : List Str} {mean : ExcName → Option Value}
    {name qual : Str} {params : Arguments} {body : List Stmt} {scope : Scope} {dV kV doc pm cdv ct oc : Value} {an od : Option Addr} {osl : Array (Option Value)} {f : Addr} {args : List Value} {binds : List (Str × Value)}
    (hΓ : Γ.In A) (hC : q → Clean Γ) (B : Below A₀ base outer h₀) (F : Fr h₀ L s.heap m) (X₀ : K.In h₀) (N : News h₀ L s.heap news) (T : Top p loose mean mg mb h₀) (hA : A.frames = some (env :: outer)) (hf : env.frame = some L) (hke : env.scope.kind = .function)
    (ho : K.lookup f = some ⟨oc, od, .func (fnOf name qual params body scope dV kV doc pm an cdv ct), osl⟩) (hcd : codeIn K cdv qual = true) (hroom : A.depth < recursionLimit)
    (hbind : BindsTo s (fnOf name qual params body scope dV kV doc pm an cdv ct) ⟨args, []⟩ binds) (hloc : ∀ y ∈ binds, scope.names.lookup y.1 = some .local)
    (h : ∀ g L' h₁ (Γ' : PySem.Ctx), Γ'.In (A.deeper (envOf qual scope L' f cdv)) → (q → Clean Γ') → Fr h₀ L g m → Fr g L' h₁ (fun y => binds.reverse.lookup y) → News g L' h₁ news → Below A base (env :: outer) g → K.In g → Top p loose mean mg mb g →
      G (model prog w) Γ' (execs body (envOf qual scope L' f cdv)) (fun fl s' => Q (match fl with | .ret v => v | _ => .none) s')
        (fun e s' => G (model prog w) Γ' (leaving (envOf qual scope L' f cdv) e) (fun _ s'' => E e s'') (fun e' s'' => E e' s'') s')
        { s with heap := h₁, toks := s.toks + binds.length })
    (hco : scope.isCoroutine = false) (hgen : scope.isGenerator = false) (hk : scope.kind = .function)
    (hcell : ∀ x ∈ scope.names, x.2 ≠ .cell) : G (model prog w) Γ (call (.ref f) args) Q E s := by
  (refine El.axaxaxx (groundX (R := fun _ _ => True) B F N hA hf hke) fun FG BG st lv => ?_)
  refine G_call_defX hΓ hC hroom ((X₀.keeps F.keep) _ _ ho) rfl (T.nolimit.keeps F.keep) (codeRec_of (X₀.keeps F.keep) hcd) rfl hbind hcell hloc (fun h₁ Γ' hΓ' hC' hns hk₁ => ?_) hco hgen hk
  exact h _ s.heap.objs.size h₁ Γ' hΓ' hC' FG ⟨hns, fun b o e => hk₁ b o (of_hideAll _ e), Nat.le_of_eq (hideAll_size _ _)⟩
    (fun p hp => ⟨hk₁ _ _ (N p hp).1, Nat.ne_of_lt (Heap.lt_size (N p hp).1), hideAll_none _ (List.mem_map_of_mem hp)⟩) BG (X₀.keeps st) (T.keeps st)
end
noncomputable def Bs {w : World} {K : Frag} {F : Fn} {n : Nat} {b : Bool} (c : Cx w K F n b) : Prop := K.In c.base ∧ Top c.p c.loose c.mean c.mg c.mb c.base
noncomputable def CwX (w : World) (K : Frag) (f : Addr) (d : Nat) (args : List AV) (l : AL) (C : Addr) (l0 : AL) : Prop :=
  ∀ (F : Fn) (n : Nat) (b' : Bool) (c : Cx w K F n b') (E : Value → Shared → Prop) (m : AM) (Q : Value → Shared → Prop) (h : Heap) (tk : Nat) (us : List Value), d ≤ n → Bs c → St c h m l → Reals args us →
    (∀ h' tk' e, Fly c e C m l0 h' → E (.ref e) (c.at h' tk')) → G (model prog w) c.Γ (PySem.call (.ref f) us) Q E (c.at h tk)
noncomputable def Xs {w : World} {K : Frag} {F : Fn} {n : Nat} {b : Bool} (c : Cx w K F n b) (E : Value → Shared → Prop) (C : Addr) (l0 : AL) : Prop := ∀ h tk e, Out c e C l0 h → E (.ref e) (c.at h tk)
theorem CwX.def {w : World} {K : Frag} {F : Fn} {name : Str} {params : Arguments} {body : List Stmt} {xs : List Str} {d : Nat} {args : List AV} {l l0 : AL} {C : Addr}
    (hF : FnIn K F name params body) (hB : Binds F name params body xs) (hp : plainFn F xs = true) (hlen : args.length = xs.length)
    (H : ∀ (c : Cx w K F d false) (E : Value → Shared → Prop), Bs c → Xs c E C l0 → Wb c E (xs.zip args) l body (fun _ _ _ => False)) : CwX w K F.addr (d + 1) args l C l0 := by
  intro F₀ n b' c E m Q h tk us hd hbs S hr k
  obtain ⟨mm, news, Fr₀, M, N, RL, nd⟩ := S
  (refine El.aeeeeeeexx (hF) fun doc pm an ct oc od osl hlk hcd => ?_; try clear hF)
  have hul : us.length = xs.length := by rw [hr.length, hlen]
  simp only [plainFn, Bool.and_eq_true, List.all_eq_true, decide_eq_true_eq, Bool.not_eq_true'] at hp
  (refine El.aaaaaxxxxxx (hp) fun hloc hkind hco hgen hcell hnd => ?_; try clear hp)
  have hdp := c.hdp
  have hun := c.hun
  refine G_defX (q := False) (binds := xs.zip us) c.hΓ (fun z => z.elim) c.B Fr₀ c.X N c.T rfl rfl c.kind hlk hcd (by show c.dp < _; omega) (BindsTo.of_eq (hB _ _ _ _ _ hul)) (fun y hy => hloc _ (List.of_mem_zip hy).1) (fun g L' h₁ Γ' hΓ' hC' F₁ F₂ N' B' X' T' => ?_) hco hgen hkind (fun x hx => by simpa using hcell x hx)
  let c' : Cx w K F d false := ⟨Γ', c.dp + 1, c.un + 3, c.gd, [], c.env :: c.outer, c.A, c.base, g, L', c.s, c.p, c.loose, c.mean, c.mg, c.mb, hΓ', (fun z => nomatch z), B', X', T', hkind, by omega, by omega⟩
  refine H c' _ hbs (fun h2 tk2 e O => G_any hΓ' (leave_out (c := c') (s := c.at h2 tk2) O fun h3 g3 => k h3 tk2 e ?_)) _ h₁ _ ⟨_, news, F₂, fun x v hx => ?_, N', RL, nd⟩ fun f f' m' l' h' tk' hP S' hf => hP.elim
  · (refine El.eex (g3) fun B x zq93 => ?_; try clear g3; refine El.axaxx (zq93) fun zq94 hx hfl => ?_; try clear zq93; refine El.axaxaxx (zq94) fun k1 k2 k3 zq95 => ?_; try clear zq94; refine El.eaxaxx (zq95) fun ns k4 k5 k6 => ?_; try clear zq95)
    refine ⟨B, x, ⟨fun a o z nm => k1 a o (F₁.keep a o z) fun hm => ?_, (Heap.UpToSlots.of_keeps F₁.keep).trans k2, k3, ns, fun q hq => ⟨(k4 q hq).1, kts_none F₁.keep (k4 q hq).2⟩, k5, k6⟩, ⟨mm, k2.ns F₁.ns, M, F₁.above⟩, hx, hfl⟩
    rcases env_mem (c := c) hm with y | y
    · rw [y, kts_self F₁] at z; cases z
    · exact nm y
  · (refine El.eaxx (zip_lookup hr x v hx) fun u hu r => ?_)
    exact ⟨u, rev_lookup (zip_fst_nodup hnd) hu, r⟩
section
variable {w : World} {K : Frag} {F : Fn} {n : Nat} {b : Bool} {c : Cx w K F n b} {E : Value → Shared → Prop} {m : AM} {l l0 : AL} {C : Addr}
noncomputable def Xf (c : Cx w K F n b) (E : Value → Shared → Prop) (C : Addr) (l0 : AL) : Prop := ∀ h tk e m, Fly c e C m l0 h → E (.ref e) (c.at h tk)
theorem Xs.f (X : Xs c E C l0) : Xf c E C l0 := fun h tk e m x => X h tk e (.inl ⟨m, x⟩)
noncomputable abbrev No : AV → AL → Prop := fun _ _ => False
theorem CwX.toB {f : Addr} {d : Nat} {vs : List AV} (H : CwX w K f d vs l C l0) (hd : d ≤ n) (hbs : Bs c) (X : Xf c E C l0) : Bw c E m (.ref f) vs l No := fun Q h tk us S r _ => H _ _ _ c E m Q h tk us hd hbs S r fun h' tk' e x => X h' tk' e m x
end
end Mine

end
section
open PySem PySem.W PySem.Spec PySem.Calls PyProof.Rows
namespace Mine
set_option maxRecDepth 100000
set_option linter.unusedVariables false
set_option maxHeartbeats 2000000
structure KExc (K : Frag) : Prop where
  short : ExcOk K 51 50 48
  refused : ExcOk K 71 70 68
section
variable {w : World} {K : Frag} {F : Fn} {n : Nat} {b : Bool} {c : Cx w K F n b} {E : Value → Shared → Prop} {m : AM} {l l0 : AL} {C e : Addr}
theorem Kept.pick {B h : Heap} {t : AL} (k : Kept c B l h) (hp : Pick t l) : Kept c B t h := by
  (refine El.axaxaxx (k) fun k1 k2 k3 zq121 => ?_; try clear k; refine El.eaxaxx (zq121) fun ns k4 k5 k6 => ?_; try clear zq121)
  (refine El.eaxaxx (k5.pick hp k6) fun ns' r sub nd => ?_)
  exact ⟨k1, k2, k3, ns', fun q hq => k4 q (sub q hq), r, nd⟩
theorem Out.pick {h : Heap} {t : AL} (O : Out c e C l h) (hp : Pick t l) : Out c e C t h := by
  rcases O with ⟨m, B, x, kp, r⟩ | ⟨B, x, kp, r⟩ | ⟨m, o, S, hx⟩
  · exact .inl ⟨m, B, x, kp.pick hp, r⟩
  · exact .inr (.inl ⟨B, x, kp.pick hp, r⟩)
  · exact .inr (.inr ⟨m, o, S.pick (.cons .head hp), hx⟩)
theorem Xs.pick {t : AL} (X : Xs c E C t) (hp : Pick t l) : Xs c E C l := fun h tk e O => X h tk e (O.pick hp)
theorem Xf.pick {t : AL} (X : Xf c E C t) (hp : Pick t l) : Xf c E C l := fun h tk e m O => by
  (refine El.eeaxx (O) fun B x kp r => ?_; try clear O)
  exact X h tk e m ⟨B, x, kp.pick hp, r⟩
theorem KExc.at (HX : KExc K) (hC : C = 51 ∨ C = 71) : ∃ N fI, ExcOk K C N fI := by
  rcases hC with rfl | rfl
  · exact ⟨_, _, HX.short⟩
  · exact ⟨_, _, HX.refused⟩
theorem ground_at {B h : Heap} {mm : Str → Option Value} {cls x fl : Value} (kp : Kept c B l h) (hn : h.Ns c.L mm) (ab : c.h₀.objs.size ≤ c.L) (X : FlC B (c.env :: c.outer) e cls x fl h) :
    ∃ g, KtsTurn (c.outer.filterMap (·.frame)) c.h₀ g ∧ Fr g c.L h mm ∧ Below c.A₀ c.base c.outer g := by
  obtain ⟨T, S⟩ := kts_turn_at (h := h) (fs := c.outer.filterMap (·.frame)) (g := c.h₀)
    (fun a ha => let ⟨_, o, ho, _⟩ := c.B.frames.mem ha; ⟨o, ho⟩) (fun a o z nm => X.1 a o (kp.1 a o z nm)) (fun a o z hm => by
      (refine El.axeaxx (c.B.frames.mem hm) fun zz1 o' ho' hd => ?_)
      rw [z] at ho'
      cases ho'
      exact kp.2.1 a o z hd)
  refine ⟨_, T, ⟨hn, S, by rw [T.size]; exact ab⟩, ⟨c.B.stack, fun a o z => T.other a o (c.B.stays a o z) (fun hm => by rw [(c.B.frames.mem hm).1] at z; cases z), c.B.frames.of_keeps fun a o z _ => ?_⟩⟩
  (refine El.ex (T.up z) fun sl hs => ?_)
  exact ⟨_, hs, rfl⟩
theorem G_TryX {M : Model} {A : Around} {Γ : PySem.Ctx} {env : Env} {s : Shared} {body : List Stmt} {h₀ : ExceptHandler} {pos : Pos} {Q : Flow → Shared → Prop} (hΓ : Γ.In A)
    (h : G M Γ (execs body env) Q (fun e s₁ => wpAny M A (noteFrame e env) (fun _ s₂ => wpAny M A (setFlight e none) (fun _ s₃ => wpAny M A (handleBy e env [h₀]) Q E s₃) E s₂) E s₁) s) : G M Γ (exec (.Try body [h₀] [] [] pos) env) Q E s := by
  rw [arm_exec_Try]
  refine G_bind (G_standAt ?_)
  unfold tryStmt
  simp only [List.isEmpty_nil, if_true, List.isEmpty_cons, Bool.false_and, Bool.false_eq_true, if_false]
  refine G_bind (G_attempt (G_mono h (fun f s₁ h₁ => ?_) fun e s₁ h₁ => ?_))
  · cases f <;> first | exact G_pure h₁ | exact G_execs_nil h₁
  · exact G_any hΓ (wpAny_bind (wpAny_mono h₁ (fun _ _ h₂ => wpAny_bind h₂) fun _ _ x => x))
theorem catch_own {N fI : Addr} {x : Str} {np pos : Pos} {b₀ : Stmt} {suite : List Stmt} {s : Shared} {Q : Flow → Shared → Prop} (hbs : Bs c) (HE : ExcOk K C N fI) (hx : isGlo F x = true) (hg : nsIn K mainGlobals x = some (some (.ref C))) (X : Fly c e C m l s.heap)
    (k : ∀ h' g B y mm, KtsTurn (c.outer.filterMap (·.frame)) c.h₀ g → Kept c B l h' → Fr g c.L h' mm → MapOk m mm → Below c.A₀ c.base c.outer g → K.In g → Top c.p c.loose c.mean c.mg c.mb g → (C = 51 → y = .none) → FlC B (c.env :: c.outer) e (.ref C) y .none h' →
      wpAny (model prog w) (c.A.mark (some (.ref e))) (execs (b₀ :: suite) c.env) Q (notedBy (model prog w) (c.A.mark (some (.ref e))) c.env (cameBackBy (model prog w) c.A c.env E)) { s with heap := h' }) :
    wpAny (model prog w) c.A (noteFrame (.ref e) c.env) (fun _ s₂ => wpAny (model prog w) c.A (setFlight (.ref e) none) (fun _ s₃ => wpAny (model prog w) c.A (handleBy (.ref e) c.env [.ExceptHandler (some (.Name x np)) none (b₀ :: suite) pos]) Q E s₃) E s₂) E s := by
  (refine El.eex (X) fun B y zq122 => ?_; try clear X; refine El.axaxaxx (zq122) fun kp zq123 hy hfl => ?_; try clear zq122; refine El.eaxaxx (zq123) fun mm hn M ab => ?_; try clear zq123)
  (refine El.eeeeeeeeeeeeex (HE.obj) fun nm q bs sn sub ab' col dd k0 k1 k2 k3 k5 hC => ?_)
  simp only [isGlo, Bool.and_eq_true, decide_eq_true_eq, Bool.not_eq_true'] at hx
  refine noteC (A := c.A) (env := c.env) rfl rfl hfl fun h1 y1 sm1 => unmarkC y1 fun h2 y2 sm2 => ?_
  have kp2 := kp.on (sm1.trans sm2)
  (refine El.eaxaxx (ground_at kp2 ((sm1.trans sm2).ns hn) ab y2) fun g T F₂ B₂ => ?_)
  have X2 : K.In g := hbs.1.keeps B₂.stays
  (refine El.eaxx (y2.up) fun ob hob hobc => ?_)
  refine wpAny_handleBy_cons (codeAny_handlers_test (nameX_K F₂ X2 (topRead_of (hbs.2.keeps B₂.stays)) hg ?_ c.kind hx.1 hx.2)) (by intro q; cases q)
  refine wpAny_excMatches_sub_self (F₂.keep _ _ (X2 _ _ hC)) hob hobc (by simp) (codeAny_handlers_suite ?_)
  refine unmarkC y2 fun h3 y3 sm3 => ?_
  have kp3 := kp2.on sm3
  (refine El.eaxaxx (ground_at kp3 (((sm1.trans sm2).trans sm3).ns hn) ab y3) fun g3 T3 F3 B3 => ?_)
  exact k h3 g3 B y mm T3 kp3 F3 M B3 (hbs.1.keeps B3.stays) (hbs.2.keeps B3.stays) hy y3
end
end Mine

end
section
open PySem PySem.W PySem.Spec PySem.Calls PyProof.Rows
namespace Mine
set_option maxRecDepth 100000
set_option linter.unusedVariables false
theorem entry_unchain : entryFor table "proto.unchain" = some Builtin.«proto.unchain» := entryFor_of_tree (by kernel_rfl)
section
variable {w : World} {A : Around} {E : Value → Shared → Prop} {s : Shared} {B : Heap} {env : Env} {fs : List Env} {L e e' : Addr} {cls x fl : Value}
theorem raise_ctx {prog : Program} {α : Type} {Q : α → Shared → Prop} {o o' : Obj} {vs vs' : Array Value} (hh : A.handled = some (.ref e)) (ne : e ≠ e') (he : s.heap.get? e = some o) (hd : o.data = .fields vs) (h2 : vs[2]? = some .none)
    (he' : s.heap.get? e' = some o') (hd' : o'.data = .fields vs') (hz : 2 < vs'.size) (h : E (.ref e') { s with heap := s.heap.update e' (Obj.mapFields (·.setIfInBounds 2 (.ref e))) }) : wpAny (model prog w) A (raiseNew (.ref e') : Sem α) Q E s := by
  unfold raiseNew
  refine wpAny_bind (wpAny_handled ?_)
  rw [hh]
  dsimp only
  have hne : (Value.ref e != Value.ref e') = true := by simp [ne]
  rw [if_pos hne]
  refine wpAny_bind (wpAny_holding (wpAny_runValue (codeAny_builtin entry_unchain ?_)))
  unfold Builtin.«proto.unchain»
  dsimp only
  refine wpAny_bind (wpAny_field he hd h2 ?_)
  rw [if_pos (by decide)]
  refine wpAny_pure ?_
  dsimp only
  unfold updateField
  refine wpAny_bind (wpAny_bind (wpAny_load he' ?_))
  rw [hd']
  dsimp only
  rw [if_pos hz]
  exact wpAny_update he' (wpAny_throw h)
variable {M : Model}
theorem remarkC {Q : Unit → Shared → Prop} (X : FlC B fs e cls x fl s.heap) (h : ∀ h', FlC B fs e cls x (rawInt L) h' → s.heap.UpToSlots h' → Q () { s with heap := h' }) : wpAny M A (setFlight (.ref e) (some L)) Q E s := by
  (refine El.axaxaxx (X) fun hb hen hl zq72 => ?_; try clear X; refine El.eeeeex (zq72) fun oe vs T oT ts zq73 => ?_; try clear zq72; refine El.axaxaxaxaxaxaxaxaxx (zq73) fun he hc hd h1 h2 hT0 ne hT hdT h3 => ?_; try clear zq73)
  (refine El.ex (Array.getElem?_eq_some_iff.mp h3) fun z3 zz1 => ?_)
  have nofld : ∀ a o, s.heap.get? a = some o → (∀ us, o.data ≠ .fields us) → a ≠ T := fun a o ha hn q => by
    rw [q, hT] at ha
    cases ha
    exact hn ts hdT
  unfold setFlight
  refine wpAny_bind (wpAny_field he hd h1 ?_)
  rw [if_pos (show (Value.ref T != Value.none) = true from by simp)]
  refine wpAny_setField hT hdT z3 (h _ ⟨fun a o ha => upd_none (hb a o ha) (fun q => by rw [q, hT0] at ha; cases ha), hen, hl.of_keeps fun a o ha hn => ⟨o, upd_none ha (nofld a o ha hn), rfl⟩, ?_⟩ fun a o ha hn => ⟨o.slots, upd_none ha (nofld a o ha hn)⟩)
  exact ⟨oe, vs, T, _, _, upd_none he (Ne.symm ne), hc, hd, h1, h2, hT0, ne, Heap.get?_update_self _ hT (Obj.isFreed_of_fields (Obj.data_mapFields hdT _)), Obj.data_mapFields hdT _, by simp [z3]⟩
theorem cameC (hf : env.frame = some L) (X : FlC B fs e cls x fl s.heap) (h : ∀ h', FlC B fs e cls x (rawInt L) h' → s.heap.UpToSlots h' → E (.ref e) { s with heap := h' }) : cameBackBy M A env E (.ref e) s := by
  have X' := X
  (refine El.axaxaxx (X) fun hb hen hl zq74 => ?_; try clear X; refine El.eeeeex (zq74) fun oe vs T oT ts zq75 => ?_; try clear zq74; refine El.axaxaxaxaxaxaxaxaxx (zq75) fun he hc hd h1 h2 hT0 ne hT hdT h3 => ?_; try clear zq75)
  unfold cameBackBy
  refine wpAny_bind (wpAny_field he hd h1 ?_)
  rw [if_neg (show ¬ (Value.ref T == Value.none) = true from by simp), hf]
  exact remarkC X' h
end
section
variable {w : World} {K : Frag} {F : Fn} {n : Nat} {b : Bool} {c : Cx w K F n b}
noncomputable def stayOf (c : Cx w K F n b) (e : Addr) (h : Heap) : Heap := hideAll (hideAll h [e]) ((c.env :: c.outer).filterMap (·.frame))
theorem stay_at {g h : Heap} {mm : Str → Option Value} {e : Addr} {o : Obj} {ns : List (Addr × Obj)} (BB : Below c.A₀ c.base c.outer g) (F₀ : Fr g c.L h mm) (N : News g c.L h ((e, o) :: ns)) (nd : e ∉ ns.map (·.1)) :
    (∀ a x, (stayOf c e h).get? a = some x → h.get? a = some x) ∧ (stayOf c e h).get? e = none ∧ (∀ a x, g.get? a = some x → a ∉ c.outer.filterMap (·.frame) → (stayOf c e h).get? a = some x) ∧ c.base.StaysIn (stayOf c e h) ∧ (∀ q ∈ ns, (stayOf c e h).get? q.1 = some q.2) ∧ h.FunFrames (stayOf c e h) (c.env :: c.outer) := by
  have N1 : News g c.L h [(e, o)] := fun q hq => N q (by
    rcases List.mem_cons.mp hq with rfl | hq
    · exact .head _
    · cases hq)
  (refine El.axaxaxx (groundX (s := c.at h 0) (A := c.A) (R := fun _ _ => True) BB F₀ N1 rfl rfl c.kind) fun FG BG stg zz1 => ?_)
  have hin : ∀ env ∈ (c.env :: c.outer), ∀ a, env.frame = some a → a ∈ (c.env :: c.outer).filterMap (·.frame) := fun env he a hb => List.mem_filterMap.mpr ⟨env, he, hb⟩
  have up : ∀ a o, (hideAll h [e]).get? a = some o → h.get? a = some o := fun a o z => of_hideAll _ z
  refine ⟨fun a x z => up a x (of_hideAll _ z), ?_, fun a o q nm => hideAll_get _ (FG.keep a o q) fun hm => ?_, fun a o q => hideAll_get _ (BG.stays a o q) fun hm => ?_, fun q hq => ?_, (funFrames_hide BG.frames hin).of_keeps fun a o hb _ => ⟨o, up a o hb, rfl⟩⟩
  · cases q : (stayOf c e h).get? e with
    | none => rfl
    | some o => have := of_hideAll _ q; rw [hideAll_none _ (.head _)] at this; cases this
  · rcases env_mem hm with z | z
    · rw [z, kts_self FG] at q; cases q
    · exact nm z
  · rw [(BG.frames.mem hm).1] at q; cases q
  · have z := N q (.tail _ hq)
    refine hideAll_get _ (hideAll_get _ z.1 fun hm => nd ?_) fun hm => ?_
    · rcases List.mem_cons.mp hm with y | y
      · have := List.mem_map_of_mem (f := (·.1)) hq; rw [y] at this; exact this
      · exact nomatch y
    · rcases env_mem hm with y | y
      · exact z.2.1 y
      · (refine El.eaxx ((BB.frames.mem y).2) fun o' ho' zz1 => ?_)
        rw [z.2.2] at ho'; cases ho'
end
end Mine

end
section
open PySem PySem.W PySem.Spec PySem.Calls PyProof.Rows
namespace Mine
set_option maxRecDepth 100000
set_option linter.unusedVariables false
section
variable {w : World} {K : Frag} {F : Fn} {n : Nat} {b : Bool}
noncomputable def Turned (c : Cx w K F n b) (h : Heap) (m : AM) (l : AL) : Prop :=
  ∃ g mm news, KtsTurn (c.outer.filterMap (·.frame)) c.h₀ g ∧ Fr g c.L h mm ∧ MapOk m mm ∧ News g c.L h news ∧ RealL w l news ∧ (news.map (·.1)).Nodup
noncomputable def Wq (c : Cx w K F n b) (E : Value → Shared → Prop) (Q : Flow → Shared → Prop) (m : AM) (l : AL) (ss : List Stmt) : Prop := ∀ (h : Heap) (tk : Nat), St c h m l → G (model prog w) c.Γ (execs ss c.env) Q E (c.at h tk)
variable {c : Cx w K F n b} {E : Value → Shared → Prop} {Q : Flow → Shared → Prop} {m : AM} {l l0 : AL} {C : Addr}
theorem St.turned {h : Heap} (S : St c h m l) : Turned c h m l := by
  obtain ⟨mm, news, Fr₀, M, N, RL, nd⟩ := S
  exact ⟨c.h₀, mm, news, .refl, Fr₀, M, N, RL, nd⟩
theorem Wq.sub {m' : AM} {ss : List Stmt} (H : Wq c E Q m' l ss) (hs : Sub m' m) : Wq c E Q m l ss := fun h tk S => H h tk (S.sub hs)
theorem CwX.toBm {f : Addr} {d : Nat} {vs : List AV} (H : CwX w K f d vs l C l0) (hd : d ≤ n) (hbs : Bs c) (X : ∀ h tk e, Fly c e C m l0 h → E (.ref e) (c.at h tk)) : Bw c E m (.ref f) vs l No := fun Q h tk us S r _ => H _ _ _ c E m Q h tk us hd hbs S r X
theorem G_one {M : Model} {Γ : PySem.Ctx} {env : Env} {st : Stmt} {s : Shared} (H : G M Γ (execs [st] env) Q E s) : G M Γ (exec st env) Q E s := fun p => by
  have h := H p
  rw [execs_cons, Sem.wp_bind'] at h
  refine Sem.wp_mono M Γ _ (fun f p' s' h' => ?_) (fun _ _ _ h' => h') p s h
  cases f <;> exact h'
theorem Wq.seq {st : Stmt} {rest : List Stmt} {P : Fl → AM → AL → Prop} (H : Wb c E m l [st] P) (k : ∀ m' l', P .next m' l' → Wq c E Q m' l' rest) (k2 : ∀ f f' m' l' h' tk', f ≠ .next → P f m' l' → St c h' m' l' → RealF f f' → Q f' (c.at h' tk')) : Wq c E Q m l (st :: rest) := fun h tk S =>
  G_st (G_one (H _ h tk S fun f f' m' l' h' tk' hP S' hf => by
    cases f with
    | next => cases hf; exact k m' l' hP h' tk' S'
    | brk => cases hf; exact k2 .brk _ _ _ _ _ (by intro q; cases q) hP S' rfl
    | cont => cases hf; exact k2 .cont _ _ _ _ _ (by intro q; cases q) hP S' rfl
    | ret v => (refine El.eaxx (hf) fun u zz1 r => ?_; try clear hf; (first | subst zz1 | cases zz1)); exact k2 (.ret v) _ _ _ _ _ (by intro q; cases q) hP S' ⟨u, rfl, r⟩))
theorem Wq.while {test : PySem.Expr} {body rest : List Stmt} {pos : Pos} (J : Nat → AM → AL → Prop) (T : Nat → AM → AL → Prop) (k : Nat) (h0 : J k m l)
    (turn : ∀ (c₁ : Cx w K F n false) (E₁ : Value → Shared → Prop) k m1 l1, J k m1 l1 → Te c₁ E₁ m1 l1 test (T k m1 l1))
    (step : ∀ Γ hΓ (E₁ : Value → Shared → Prop) (Q₁ : Flow → Shared → Prop) k m1 l1, J k m1 l1 → T k m1 l1 → (∀ h' tk' k' m' l', k' < k → J k' m' l' → St c h' m' l' → Q₁ .next (c.at h' tk')) → (∀ u s', Q (.ret u) s' → Q₁ (.ret u) s') → Wq (c.put Γ hΓ) E₁ Q₁ m1 l1 body)
    (done : ∀ k m1 l1, J k m1 l1 → ¬ T k m1 l1 → Wq c E Q m1 l1 rest) : Wq c E Q m l (.While test body [] pos :: rest) := fun h tk S => by
  refine G_st ?_
  refine G_any c.hΓ (wpAny_While (codeAny_whileLoop (fun j s' => ∃ h₁ tk₁ m₁ l₁, s' = c.at h₁ tk₁ ∧ St c h₁ m₁ l₁ ∧ J j m₁ l₁) ?_ k ⟨h, tk, m, l, rfl, S, h0⟩))
  (intro j s' zr3 Γ₁ p₁ hΓ₁; refine El.eeeex (zr3) fun h₁ tk₁ m₁ l₁ zq59 => ?_; try clear zr3; refine El.axaxx (zq59) fun zz1 St₁ hJ => ?_; try clear zq59; (first | subst zz1 | cases zz1))
  refine turn (c.put Γ₁ hΓ₁) _ j m₁ l₁ hJ _ h₁ tk₁ St₁ (fun h' tk' S' => ⟨fun z => ?_, fun z => ?_⟩) p₁
  · rw [if_pos rfl]
    intro Γ₂ p₂ hΓ₂
    refine step Γ₂ hΓ₂ _ _ j m₁ l₁ hJ z ?_ ?_ h' tk' S' p₂
    · exact fun h2 tk2 k' m2 l2 hk hJ' S2 => ⟨k', hk, h2, tk2, m2, l2, rfl, S2, hJ'⟩
    · exact fun u s' hQ => hQ
  · rw [if_neg (by decide)]
    exact wpAny_execs_nil (done j m₁ l₁ hJ z h' tk' S')
theorem Wq.tryT {N fI : Addr} {body rest : List Stmt} {x y : Str} {np yp rp hp pos : Pos} {v : AV} (hbs : Bs c) (HE : ExcOk K C N fI) (hx : isGlo F x = true) (hg : nsIn K mainGlobals x = some (some (.ref C))) (hy : isLoc F y = true) (hv : m.lookup y = some v)
    (hb : ∀ E', (∀ h tk e, Fly c e C m l0 h → E' (.ref e) (c.at h tk)) → Wb c E' m l body (fun _ _ _ => False)) (X : ∀ h tk u, Turned c h m l0 → Real v u → Q (.ret u) (c.at h tk)) :
    Wq c E Q m l (.Try body [.ExceptHandler (some (.Name x np)) none [.Return (some (.Name y yp)) rp] hp] [] [] pos :: rest) := fun h tk S => by
  refine G_st (G_TryX c.hΓ (hb _ (fun h1 tk1 e hf => ?_) _ h tk S (fun _ _ _ _ _ _ hP _ _ => hP.elim)))
  refine catch_own (s := c.at h1 tk1) hbs HE hx hg hf fun h' g B yv mm T kp F3 M3 B3 X3 T3 hyv y3 => ?_
  simp only [isLoc, Bool.and_eq_true, decide_eq_true_eq, Bool.not_eq_true'] at hy
  (refine El.axaxaxx (kp) fun k1 k2 k3 zq60 => ?_; try clear kp; refine El.eaxaxx (zq60) fun ns k4 k5 k6 => ?_; try clear zq60)
  (refine El.axaxaxx (y3) fun hb0 hen hl zz1 => ?_; try clear y3)
  have hL : B.get? c.L = none := (hl.mem (List.mem_filterMap.mpr ⟨c.env, .head _, rfl⟩)).1
  (refine El.eaxx (M3 y v hv) fun u hu r => ?_)
  refine wpAny_execs_cons (fun Γ p hΓ => ?_)
  refine G_Return (G_any hΓ (nameX_L F3 hu ?_ c.kind hy.1 hy.2)) p
  exact X h' tk1 u ⟨g, mm, ns, T, F3, M3, fun q hq => ⟨hb0 _ _ (k4 q hq).1, (fun z => by
    have := (k4 q hq).1
    rw [show q.1 = c.L from z, hL] at this; cases this), T.none_ _ (k4 q hq).2⟩, k5, k6⟩ r
end
theorem Bw.defT {w : World} {K : Frag} {F : Fn} {n : Nat} {b : Bool} {c : Cx w K F n b} {E : Value → Shared → Prop} {m : AM} {l : AL} {F' : Fn} {name : Str} {params : Arguments} {body : List Stmt} {xs : List Str} {d : Nat} {args : List AV} {R : AV → AL → Prop} (hout : c.outer = []) (hbs : Bs c)
    (hF : FnIn K F' name params body) (hB : Binds F' name params body xs) (hp : plainFn F' xs = true) (hlen : args.length = xs.length) (hd : d + 1 ≤ n)
    (H : ∀ (c' : Cx w K F' d false) (E' : Value → Shared → Prop) (Q : Flow → Shared → Prop), Bs c' → (∀ v u m' l' h' tk', R v l' → Turned c' h' m' l' → Real v u → Q (.ret u) (c'.at h' tk')) → Wq c' E' Q (xs.zip args) l body) : Bw c E m (.ref F'.addr) args l R := fun Q h tk us S hr k => by
  obtain ⟨mm, news, Fr₀, M, N, RL, nd⟩ := S
  (refine El.aeeeeeeexx (hF) fun doc pm an ct oc od osl hlk hcd => ?_; try clear hF)
  have hul : us.length = xs.length := by rw [hr.length, hlen]
  simp only [plainFn, Bool.and_eq_true, List.all_eq_true, decide_eq_true_eq, Bool.not_eq_true'] at hp
  (refine El.aaaaaxxxxxx (hp) fun hloc hkind hco hgen hcell hnd => ?_; try clear hp)
  have hdp := c.hdp
  have hun := c.hun
  refine G_defX (q := False) (binds := xs.zip us) c.hΓ (fun z => z.elim) c.B Fr₀ c.X N c.T rfl rfl c.kind hlk hcd (by show c.dp < _; omega) (BindsTo.of_eq (hB _ _ _ _ _ hul)) (fun y hy => hloc _ (List.of_mem_zip hy).1) (fun g L' h₁ Γ' hΓ' hC' F₁ F₂ N' B' X' T' => ?_) hco hgen hkind (fun x hx => by simpa using hcell x hx)
  let c' : Cx w K F' d false := ⟨Γ', c.dp + 1, c.un + 3, c.gd, [], c.env :: c.outer, c.A, c.base, g, L', c.s, c.p, c.loose, c.mean, c.mg, c.mb, hΓ', (fun z => nomatch z), B', X', T', hkind, by omega, by omega⟩
  refine H c' _ _ hbs (fun v u m' l' h' tk' hR T r => ?_) h₁ _ ⟨_, news, F₂, fun x v hx => ?_, N', RL, nd⟩
  · (refine El.eeex (T) fun g' mm' news' zq61 => ?_; try clear T; refine El.axaxaxaxaxx (zq61) fun KT F3 M3 N3 RL3 nd3 => ?_; try clear zq61)
    have up : ∀ a o, c.h₀.get? a = some o → g'.get? a = some o := fun a o z => KT.other a o (F₁.keep a o z) fun hm => by
      have hm' : a ∈ (c.env :: c.outer).filterMap (·.frame) := hm
      rcases env_mem (c := c) hm' with y | y
      · rw [y, kts_self F₁] at z; cases z
      · rw [hout] at y; cases y
    have hLg : ∃ o, g'.get? c.L = some o := by
      (refine El.eeeaxx (F₁.ns) fun o es ep ho zz1 => ?_)
      (refine El.ex (KT.up ho) fun sl hs => ?_)
      exact ⟨_, hs⟩
    refine k h' tk' u v l' hR ⟨mm, news', ⟨?_, fun a o z => F3.keep a o (up a o z), F₁.above⟩, M, fun q hq => ⟨(N3 q hq).1, fun z => ?_, ?_⟩, RL3, nd3⟩ r
    · (refine El.eeeaxx (F₁.ns) fun o es ep ho r => ?_)
      (refine El.ex (KT.up ho) fun sl hs => ?_)
      exact ⟨_, es, ep, F3.keep _ _ hs, r⟩
    · (refine El.ex (hLg) fun o ho => ?_; try clear hLg)
      have := (N3 q hq).2.2
      rw [z, ho] at this; cases this
    · cases z : c.h₀.get? q.1 with
      | none => rfl
      | some o => have := (N3 q hq).2.2; rw [up _ _ z] at this; cases this
  · (refine El.eaxx (zip_lookup hr x v hx) fun u hu r => ?_)
    exact ⟨u, rev_lookup (zip_fst_nodup hnd) hu, r⟩
end Mine

end
section
open PySem PySem.W PySem.Spec PySem.Calls PyProof.Rows
namespace Mine
set_option maxRecDepth 100000
set_option maxHeartbeats 4000000
set_option linter.unusedVariables false
set_option Elab.async false
theorem fill_keys : True := by
  k_with "side" => (first | assumption | decide | omega | (mul_fits; done) | (simp only [List.length_append, List.length_take, List.length_drop, List.length_cons, List.length_nil, List.length_map, List.length_replicate]; omega))
  k_with "mem" => (first | with_reducible assumption | exact List.Mem.head _ | (apply List.Mem.tail; walk_at "mem"))
  k_with "upd" => (first | exact Mine.Upd.head | (apply Mine.Upd.tail; walk_at "upd"))
  k_with "bop" => (first
  | (with_reducible exact Bop.add)
  | (with_reducible exact Bop.sub)
  | (with_reducible exact Bop.xor)
  | (with_reducible exact Bop.and)
  | (with_reducible exact Bop.or)
  | ((with_reducible apply Bop.mod); walk_at "side")
  | ((with_reducible apply Bop.div) <;> walk_at "side")
  | ((with_reducible refine Bop.mul (IntMulOk.of_right ?_)); decide)
  | ((with_reducible refine Bop.mul (IntMulOk.of_left ?_)); decide)
  | ((with_reducible apply Bop.mul); walk_at "side")
  | ((with_reducible apply Bop.shr); walk_at "side")
  | ((with_reducible apply Bop.shl) <;> walk_at "side")
  | ((with_reducible apply Bop.cat) <;> walk_at "side"))
  k_with "cop" => (first
  | (with_reducible exact Cop.eq)
  | (with_reducible exact Cop.ne)
  | (with_reducible exact Cop.lt)
  | (with_reducible exact Cop.gt)
  | (with_reducible exact Cop.le)
  | (with_reducible exact Cop.ge)
  | (with_reducible exact Cop.beq)
  | (with_reducible exact Cop.bne)
  | (with_reducible exact Cop.seq)
  | (with_reducible exact Cop.sne)
  | (with_reducible exact Cop.is_none)
  | (with_reducible exact Cop.is_int)
  | (with_reducible exact Cop.is_bytes)
  | (with_reducible exact Cop.is_ref))
  k_with "con" => (with_reducible assumption)
  k_with "ev" => (first
  | (with_reducible exact Ev.const_int)
  | ((with_reducible apply Ev.local); rfl; kernel_rfl)
  | ((with_reducible apply Ev.glob); assumption; rfl; kernel_rfl)
  | (with_reducible exact Ev.const_none)
  | (with_reducible exact Ev.const_str)
  | (with_reducible exact Ev.const_bytes)
  | (with_reducible exact Ev.const_bool)
  | ((with_reducible apply Ev.bin); (walk_at "ev"); (walk_at "ev"); (walk_at "bop"))
  | ((with_reducible apply Ev.neg); (walk_at "ev"))
  | ((with_reducible apply Ev.attr); assumption; (walk_at "ev"); (walk_at "mem"); kernel_rfl; rfl)
  | ((with_reducible apply Ev.len_b); assumption; kernel_rfl; (walk_at "ev"); (walk_at "side"))
  | ((with_reducible apply Ev.bytes1); assumption; kernel_rfl; rfl; (walk_at "ev"); (walk_at "side"); (walk_at "side"))
  | ((with_reducible apply Ev.fnA); assumption; kernel_rfl; rfl; kernel_rfl; (walk_at "evs"); (walk_at "con"); kernel_rfl)
  | ((with_reducible apply Ev.cut); (walk_at "ev"); (walk_at "ev"); (walk_at "ev"); (walk_at "side"); (walk_at "side"); (walk_at "side"); (walk_at "side"))
  | ((with_reducible apply Ev.cutF); (walk_at "ev"); (walk_at "ev"); (walk_at "side"); (walk_at "side"); (walk_at "side"))
  | ((with_reducible apply Ev.cutT); (walk_at "ev"); (walk_at "ev"); (walk_at "side"); (walk_at "side"); (walk_at "side"))
  | ((with_reducible apply Ev.item_b); (walk_at "ev"); (walk_at "ev"); (walk_at "side"); (walk_at "side"); (walk_at "side"); rfl)
  | ((with_reducible apply Ev.item_t); (walk_at "ev"); (walk_at "ev"); (walk_at "mem"); rfl; rfl; decide; rfl)
  | ((with_reducible apply Ev.len_l); assumption; kernel_rfl; (walk_at "ev"); (walk_at "mem"); (walk_at "side"))
  | ((with_reducible apply Ev.len_t); assumption; kernel_rfl; (walk_at "ev"); (walk_at "mem"); (walk_at "side")))
  k_with "cp" => (first | ((with_reducible apply Cp.notin75); assumption) | ((with_reducible apply Cp.in_strs); (walk_at "mem")))
  k_with "te" => (first
  | ((with_reducible apply Te.cmp); (walk_at "ev"); (walk_at "ev"); (walk_at "cop"); (with_unfolding_all rfl))
  | ((with_reducible apply Te.cmpP); (walk_at "ev"); (walk_at "ev"); (walk_at "cp"); (with_unfolding_all rfl))
  | (with_reducible exact Te.or_nil)
  | (with_reducible exact Te.and_nil)
  | ((with_reducible apply Te.or); (walk_at "te"); intro _; (walk_at "te"))
  | ((with_reducible apply Te.and); (walk_at "te"); intro _; (walk_at "te")))
  k_with "as" => (((with_reducible apply Wb.assign); (walk_at "ev"); kernel_rfl))
  k_with "sub" => ((repeat (first | exact Sub.nil | refine Sub.cons rfl ?_)))
  k_with "bt" => ((refine Ev.bt (by assumption) (by kernel_rfl) (by kernel_rfl) ?_; kernel_rfl))
  k_with "evs" => (first | exact Evs.nil | ((with_reducible apply Evs.cons); (walk_at "ev"); (walk_at "evs"); exact rfl))
  k_with "perm" => ((classical (rw [List.perm_iff_count]; intro a; simp only [List.count_append, List.count_cons, List.count_nil, List.nil_append, List.cons_append]; omega)))
  trivial

theorem len_cons {n : Nat} {us : List Value} (h : us.length = n + 1) : ∃ a r, us = a :: r ∧ r.length = n := by
  cases us with
  | nil => cases h
  | cons a r => exact ⟨a, r, rfl, Nat.succ.inj h⟩
theorem Binds.of1 {F : Fn} {name : Str} {params : Arguments} {body : List Stmt} {x : Str} (h : ∀ (doc pm ct : Value) (an : Option Addr) (a : Value), bindArgs (fnOf name F.qual params body F.scope .none .none doc pm an F.cd ct) ⟨[a], []⟩ = pure [(x, a)]) : Binds F name params body [x] := fun doc pm ct an us hl => by
  (refine El.eeaxx (len_cons (n := 0) hl) fun a u1 zz1 h1 => ?_; (first | subst zz1 | cases zz1))
  cases u1 with
  | nil => exact h doc pm ct an a
  | cons _ _ => cases h1
theorem Binds.of2 {F : Fn} {name : Str} {params : Arguments} {body : List Stmt} {x y : Str} (h : ∀ (doc pm ct : Value) (an : Option Addr) (a b : Value), bindArgs (fnOf name F.qual params body F.scope .none .none doc pm an F.cd ct) ⟨[a, b], []⟩ = pure [(x, a), (y, b)]) : Binds F name params body [x, y] := fun doc pm ct an us hl => by
  (refine El.eeaxx (len_cons (n := 1) hl) fun a u1 zz1 h1 => ?_; (first | subst zz1 | cases zz1))
  (refine El.eeaxx (len_cons (n := 0) h1) fun b u2 zz1 h2 => ?_; (first | subst zz1 | cases zz1))
  cases u2 with
  | nil => exact h doc pm ct an a b
  | cons _ _ => cases h2
theorem Binds.of3 {F : Fn} {name : Str} {params : Arguments} {body : List Stmt} {x y z : Str} (h : ∀ (doc pm ct : Value) (an : Option Addr) (a b c : Value), bindArgs (fnOf name F.qual params body F.scope .none .none doc pm an F.cd ct) ⟨[a, b, c], []⟩ = pure [(x, a), (y, b), (z, c)]) : Binds F name params body [x, y, z] := fun doc pm ct an us hl => by
  (refine El.eeaxx (len_cons (n := 2) hl) fun a u1 zz1 h1 => ?_; (first | subst zz1 | cases zz1))
  (refine El.eeaxx (len_cons (n := 1) h1) fun b u2 zz1 h2 => ?_; (first | subst zz1 | cases zz1))
  (refine El.eeaxx (len_cons (n := 0) h2) fun c u3 zz1 h3 => ?_; (first | subst zz1 | cases zz1))
  cases u3 with
  | nil => exact h doc pm ct an a b c
  | cons _ _ => cases h3
theorem Binds.of4 {F : Fn} {name : Str} {params : Arguments} {body : List Stmt} {x y z u : Str} (h : ∀ (doc pm ct : Value) (an : Option Addr) (a b c d : Value), bindArgs (fnOf name F.qual params body F.scope .none .none doc pm an F.cd ct) ⟨[a, b, c, d], []⟩ = pure [(x, a), (y, b), (z, c), (u, d)]) : Binds F name params body [x, y, z, u] := fun doc pm ct an us hl => by
  (refine El.eeaxx (len_cons (n := 3) hl) fun a u1 zz1 h1 => ?_; (first | subst zz1 | cases zz1))
  (refine El.eeaxx (len_cons (n := 2) h1) fun b u2 zz1 h2 => ?_; (first | subst zz1 | cases zz1))
  (refine El.eeaxx (len_cons (n := 1) h2) fun c u3 zz1 h3 => ?_; (first | subst zz1 | cases zz1))
  (refine El.eeaxx (len_cons (n := 0) h3) fun d u4 zz1 h4 => ?_; (first | subst zz1 | cases zz1))
  cases u4 with
  | nil => exact h doc pm ct an a b c d
  | cons _ _ => cases h4
theorem Binds.of5 {F : Fn} {name : Str} {params : Arguments} {body : List Stmt} {x y z u v : Str} (h : ∀ (doc pm ct : Value) (an : Option Addr) (a b c d e : Value), bindArgs (fnOf name F.qual params body F.scope .none .none doc pm an F.cd ct) ⟨[a, b, c, d, e], []⟩ = pure [(x, a), (y, b), (z, c), (u, d), (v, e)]) : Binds F name params body [x, y, z, u, v] := fun doc pm ct an us hl => by
  (refine El.eeaxx (len_cons (n := 4) hl) fun a u1 zz1 h1 => ?_; (first | subst zz1 | cases zz1))
  (refine El.eeaxx (len_cons (n := 3) h1) fun b u2 zz1 h2 => ?_; (first | subst zz1 | cases zz1))
  (refine El.eeaxx (len_cons (n := 2) h2) fun c u3 zz1 h3 => ?_; (first | subst zz1 | cases zz1))
  (refine El.eeaxx (len_cons (n := 1) h3) fun d u4 zz1 h4 => ?_; (first | subst zz1 | cases zz1))
  (refine El.eeaxx (len_cons (n := 0) h4) fun e u5 zz1 h5 => ?_; (first | subst zz1 | cases zz1))
  cases u5 with
  | nil => exact h doc pm ct an a b c d e
  | cons _ _ => cases h5
theorem Binds.of7 {F : Fn} {name : Str} {params : Arguments} {body : List Stmt} {x y z u v s t : Str} (h : ∀ (doc pm ct : Value) (an : Option Addr) (a b c d e f g : Value), bindArgs (fnOf name F.qual params body F.scope .none .none doc pm an F.cd ct) ⟨[a, b, c, d, e, f, g], []⟩ = pure [(x, a), (y, b), (z, c), (u, d), (v, e), (s, f), (t, g)]) : Binds F name params body [x, y, z, u, v, s, t] := fun doc pm ct an us hl => by
  (refine El.eeaxx (len_cons (n := 6) hl) fun a u1 zz1 h1 => ?_; (first | subst zz1 | cases zz1))
  (refine El.eeaxx (len_cons (n := 5) h1) fun b u2 zz1 h2 => ?_; (first | subst zz1 | cases zz1))
  (refine El.eeaxx (len_cons (n := 4) h2) fun c u3 zz1 h3 => ?_; (first | subst zz1 | cases zz1))
  (refine El.eeaxx (len_cons (n := 3) h3) fun d u4 zz1 h4 => ?_; (first | subst zz1 | cases zz1))
  (refine El.eeaxx (len_cons (n := 2) h4) fun e u5 zz1 h5 => ?_; (first | subst zz1 | cases zz1))
  (refine El.eeaxx (len_cons (n := 1) h5) fun f u6 zz1 h6 => ?_; (first | subst zz1 | cases zz1))
  (refine El.eeaxx (len_cons (n := 0) h6) fun g u7 zz1 h7 => ?_; (first | subst zz1 | cases zz1))
  cases u7 with
  | nil => exact h doc pm ct an a b c d e f g
  | cons _ _ => cases h7
theorem put_whole_C {w : World} {K : Frag} (hK : KOk K) (k size : Int) (l : AL) (h0 : 0 ≤ k) (h1 : 1 ≤ size) (h2 : size ≤ 16) (hn : k < 256 ^ size.toNat) : Cw w K 82 1 true [.int k, .int size] l (Is (.bytes (be size.toNat k)) l) := by
  refine Cw.def (F := topF 8 82) (xs := [Str.ofString "n", Str.ofString "size"]) (hK.fn 8 82 (by decide +kernel)) (Binds.of2 fun _ _ _ _ _ _ => by kernel_rfl) (by kernel_rfl) rfl fun c E => ?_
  show Wb c E [(Str.ofString "n", .int k), (Str.ofString "size", .int size)] l (_ :: _ :: _ :: _) _
  have hz := shift_none h0 (by omega) hn
  refine Wb.if_no (by walk_at "te") (fun q => ?_) ?_
  · rcases q with q | q | q
    · omega
    · exact q hz
    · exact q
  refine Wb.assignX (Ex.callE (Ev.bt hK (u := .type "bytearray") (by kernel_rfl) (by kernel_rfl) (by kernel_rfl)) keeps_type (.cons (by walk_at "ev") .nil rfl) (Bw.bytearray rfl (by omega) (by omega)) rfl) (by kernel_rfl) ?_
  (intro zr1 zr2 zr3; refine El.eaxx (zr3) fun D zz1 zz2 => ?_; try clear zr3; (first | subst zz1 | cases zz1); (first | subst zz2 | cases zz2))
  refine Wb.forJ (fun i m1 l1 => l1 = (D, .raw (baObj (baAt size.toNat i k))) :: l ∧ Sub [(Str.ofString "n", .int (k / 256 ^ i)), (Str.ofString "found", .ref D)] m1) (items := (List.range size.toNat).map fun i => .int (size - 1 + (i : Nat) * -1)) ?_ ⟨by rw [baAt_zero], ?_⟩ ?_ ?_ (by kernel_rfl)
  · refine Iter.of_rng (a := size - 1) (z := -1) (st := -1) ?_ (small_down (by omega) (by omega) (by omega) (by omega)) (by rw [rangeSize_downNat]; congr 1; omega)
    refine Ex.callE ?_ keeps_type ?_ (Bw.range3 ?_ ?_) rfl
    · walk_at "bt"
    · walk_at "evs"
    · decide
    · decide
  · rw [Int.pow_zero, Int.ediv_one]; walk_at "sub"
  · (intro c₁ E₁ i v I o m1 l1 hv zr10; refine El.axx (zr10) fun zz1 hm => ?_; try clear zr10; (first | subst zz1 | cases zz1))
    obtain ⟨hi, rfl⟩ : i < size.toNat ∧ v = .int (size - 1 + (i : Nat) * -1) := by
      rw [List.getElem?_map] at hv
      (refine El.eaxx (Option.map_eq_some_iff.mp hv) fun j hj zz1 => ?_; (first | subst zz1 | cases zz1))
      (refine El.ex (List.getElem?_eq_some_iff.mp hj) fun hj1 hj2 => ?_)
      rw [List.getElem_range] at hj2
      rw [List.length_range] at hj1
      exact ⟨hj1, by rw [hj2]⟩
    refine Wb.sub ?_ hm.up
    have hx1 := baAt_size k (Nat.le_of_lt hi)
    have e : (baAt size.toNat i k).setIfInBounds (size - 1 + (i : Int) * -1).toNat ((k / 256 ^ i).fmod 256).toNat.toUInt8 = baAt size.toNat (i + 1) k := by
      rw [baAt_succ k hi, Int.fmod_eq_emod_of_nonneg _ (by decide)]
      congr 1; omega
    with_reducible apply Wb.setbyte (bs := baAt size.toNat i k)
    · walk_at "ev"
    · walk_at "ev"
    · walk_at "ev"
    · walk_at "upd"
    · omega
    · omega
    · omega
    · exact fmod_lo _ (by decide)
    · exact fmod_hi _ (by decide)
    · rfl
    walk_at "as"
    refine Wb.nil ⟨_, rfl, by rw [e], ?_⟩
    rw [be_shift]
    walk_at "sub"
  · (intro m1 l1 zr3; refine El.axx (zr3) fun zz1 hm => ?_; try clear zr3; (first | subst zz1 | cases zz1))
    rw [List.length_map, List.length_range]
    rw [List.length_map, List.length_range] at hm
    refine Wb.sub ?_ hm
    apply Wb.retP (l0 := l)
    · refine Ev.callE ?_ keeps_type ?_ (Bw.bytes_ba (bs := baAt size.toNat size.toNat k) (.head _) ?_) rfl
      · walk_at "bt"
      · walk_at "evs"
      · rw [baAt_size k (Nat.le_refl _)]; omega
    · exact .skip .refl
    · exact ⟨by rw [baAt_full], rfl⟩
theorem get_whole_C {w : World} {K : Frag} (hK : KOk K) (ks : List Int) (at_ size : Int) (l : AL) (h0 : 0 ≤ at_) (h1 : 0 ≤ size) (h2 : at_ + size ≤ ks.length) (hl : ks.length ≤ 10000) : Cw w K 89 1 false [.bytes ks, .int at_, .int size] l (Is (.int (val ((ks.drop at_.toNat).take size.toNat))) l) := by
  refine Cw.def (F := topF 9 89) (xs := [Str.ofString "data", Str.ofString "at", Str.ofString "size"]) (hK.fn 9 89 (by decide +kernel)) (Binds.of3 fun _ _ _ _ _ _ _ => by kernel_rfl) (by kernel_rfl) rfl fun c E => ?_
  show Wb c E [(Str.ofString "data", .bytes ks), (Str.ofString "at", .int at_), (Str.ofString "size", .int size)] l (_ :: _ :: _ :: _) _
  refine Wb.if_no (by walk_at "te") (by omega) ?_
  walk_at "as"
  have hi : ∀ {c : Cx w K (topF 9 89) 0 false} {E : Value → Shared → Prop} {m : AM} {l : AL} {e : PySem.Expr}, Ev c E m l e (.bytes ((ks.drop at_.toNat).take (at_ + size - at_).toNat)) → Iter c E m l e (((ks.drop at_.toNat).take size.toNat).map .int) := fun h => by
    rw [show at_ + size - at_ = size by omega] at h; exact Iter.bytes h
  refine Wb.for (fun _ => True) (fun i => [(Str.ofString "found", .int (val (((ks.drop at_.toNat).take size.toNat).take i)))]) (fun _ => l) (hi (by walk_at "ev")) ⟨rfl, by walk_at "sub", trivial⟩ ?_ ?_ (by kernel_rfl)
  · intro c₁ E₁ i v I o hv _
    rw [List.getElem?_map] at hv
    (refine El.eaxx (Option.map_eq_some_iff.mp hv) fun k hk zz1 => ?_; (first | subst zz1 | cases zz1))
    walk_at "as"
    refine Wb.nil ⟨rfl, Sub.cons ?_ Sub.nil, trivial⟩
    unfold val
    rw [List.take_succ, hk, List.foldl_append]
    rfl
  · intro _
    rw [List.length_map, List.take_length]
    apply Wb.ret
    · walk_at "ev"
    · exact ⟨rfl, rfl⟩
theorem varint_size_C {w : World} {K : Frag} (hK : KOk K) (n : Int) (l : AL) (h0 : 0 ≤ n) (h1 : n < 64) : Cw w K 96 1 false [.int n] l (Is (.int 1) l) := by
  refine Cw.def (F := topF 10 96) (xs := [Str.ofString "n"]) (hK.fn 10 96 (by decide +kernel)) (Binds.of1 fun _ _ _ _ _ => by kernel_rfl) (by kernel_rfl) rfl fun c E => ?_
  show Wb c E [(Str.ofString "n", .int n)] l (_ :: _ :: _) _
  refine Wb.for (fun i => i = 0) (fun i => [(Str.ofString "n", .int n)]) (fun _ => l) (Iter.tup75 hK (by walk_at "ev")) ⟨rfl, by walk_at "sub", rfl⟩ ?_ ?_ (by kernel_rfl)
  · rintro c₁ E₁ i v I o hv rfl
    cases hv
    with_reducible apply Wb.if
    · with_reducible apply Te.chain2
      · walk_at "ev"
      · walk_at "ev"
      · walk_at "cop"
      · intro _; walk_at "ev"
      · walk_at "cop"
      · with_unfolding_all rfl
    · rintro -
      apply Wb.retP (l0 := l)
      · walk_at "ev"
      · exact .skip .refl
      · exact ⟨rfl, rfl⟩
    · intro hp
      exfalso
      apply hp
      refine ⟨h0, ?_⟩
      have e : (1 : Int) * 2 ^ (8 * 1 - 2 : Int).toNat = 64 := by decide
      rw [e]
      exact h1
  · intro h; cases h
theorem put_varint_C {w : World} {K : Frag} (hK : KOk K) (n : Int) (l : AL) (h0 : 0 ≤ n) (h1 : n < 64) : Cw w K 103 2 true [.int n, .none] l (Is (.bytes [n]) l) := by
  refine Cw.def (F := topF 11 103) (xs := [Str.ofString "n", Str.ofString "size"]) (hK.fn 11 103 (by decide +kernel)) (Binds.of2 fun _ _ _ _ _ _ => by kernel_rfl) (by kernel_rfl) rfl fun c E => ?_
  show Wb c E [(Str.ofString "n", .int n), (Str.ofString "size", .none)] l (_ :: _ :: _ :: _ :: _) _
  with_reducible apply Wb.assign
  · exact Ev.fn hK 10 96 (by kernel_rfl) (by kernel_rfl) rfl (by walk_at "evs") (varint_size_C hK n l h0 h1) (by decide) (fun h => nomatch h)
  · kernel_rfl
  refine Wb.if (by walk_at "te") (fun _ => ?_) (fun h => absurd trivial h)
  walk_at "as"
  refine Wb.beh ?_
  with_reducible apply Wb.if_no
  · walk_at "te"
  · rintro (h | h | h)
    · omega
    · exact h (by decide)
    · exact h
  have C := put_whole_C (w := w) hK (Builtin.bitOr (0 * 2 ^ (8 * 1 - 2 : Int).toNat) n) 1 l (by rw [bor_zero h0]; exact h0) (by decide) (by decide) (by rw [bor_zero h0]; exact Int.lt_trans h1 (by decide))
  with_reducible apply Wb.ret
  · with_reducible apply Ev.fnA
    · assumption
    · kernel_rfl
    · rfl
    · kernel_rfl
    · with_reducible apply Evs.cons
      · with_reducible apply Ev.bin
        · with_reducible apply Ev.bin
          · with_reducible apply Ev.meth
            · walk_at "ev"
            · exact Mt.index75 hK
            · exact keeps_builtin
            · walk_at "evs"
            · exact Bw.index75 hK
            · rfl
            · rfl
          · walk_at "ev"
          · walk_at "bop"
        · walk_at "ev"
        · walk_at "bop"
      · walk_at "evs"
      · rfl
    · exact C
    · rfl
  · refine ⟨?_, rfl⟩
    rw [bor_zero h0, be_one h0 h1]
theorem get_varint_C {w : World} {K : Frag} (hK : KOk K) (ks : List Int) (at_ v : Int) (l : AL) (h0 : 0 ≤ at_) (h1 : at_ < ks.length) (hl : ks.length ≤ 10000) (hv : ks.getD at_.toNat 0 = v) (v0 : 0 ≤ v) (v1 : v < 64) : Cw w K 110 2 false [.bytes ks, .int at_] l (New (.tup [.int v, .int (at_ + 1)]) l) := by
  refine Cw.def (F := topF 12 110) (xs := [Str.ofString "data", Str.ofString "at"]) (hK.fn 12 110 (by decide +kernel)) (Binds.of2 fun _ _ _ _ _ _ => by kernel_rfl) (by kernel_rfl) rfl fun c E => ?_
  show Wb c E [(Str.ofString "data", .bytes ks), (Str.ofString "at", .int at_)] l (_ :: _ :: _ :: _) _
  have hs : (ks.getD at_.toNat 0).fdiv (2 ^ (6 : Int).toNat) = 0 := by
    rw [hv, show (2 : Int) ^ (6 : Int).toNat = 64 by decide, Int.fdiv_eq_ediv_of_nonneg _ (by decide)]; omega
  with_reducible apply Wb.if_no
  · walk_at "te"
  · omega
  with_reducible apply Wb.assign
  · with_reducible apply Ev.item75
    · assumption
    · walk_at "ev"
    · walk_at "ev"
    · rw [hs]; decide
    · rw [hs]; rfl
    · rfl
  · kernel_rfl
  have C := get_whole_C (w := w) hK ks at_ 1 l h0 (by decide) (by omega) hl
  with_reducible apply Wb.ret_tup
  · walk_at "evs"
  · rfl
  · intro D
    rw [val_one h0 h1, hv, band63 v0 v1]
    exact ⟨D, rfl, rfl⟩

theorem mixed_C {w : World} {K : Frag} (hK : KOk K) (start : Int) (ks : List Int) (l : AL) : Cw w K 293 1 false [.int start, .bytes ks] l (Is (.int (mixed start ks)) l) := by
  refine Cw.def (F := topF 44 293) (xs := [Str.ofString "start", Str.ofString "data"]) (hK.fn 44 293 (by decide +kernel)) (Binds.of2 fun _ _ _ _ _ _ => by kernel_rfl) (by kernel_rfl) rfl fun c E => ?_
  show Wb c E [(Str.ofString "start", .int start), (Str.ofString "data", .bytes ks)] l (_ :: _ :: _) _
  walk_at "as"
  refine Wb.for (fun _ => True) (fun i => [(Str.ofString "found", .int ((ks.take i).foldl mixStep (start.fmod 170141183460469231731687303715884105727)))]) (fun _ => l) (Iter.bytes (by walk_at "ev")) ⟨rfl, by walk_at "sub", trivial⟩ ?_ ?_ (by kernel_rfl)
  · intro c₁ E₁ i v I o hv _
    rw [List.getElem?_map] at hv
    (refine El.eaxx (Option.map_eq_some_iff.mp hv) fun k hk zz1 => ?_; (first | subst zz1 | cases zz1))
    walk_at "as"
    refine Wb.nil ⟨rfl, Sub.cons ?_ Sub.nil, trivial⟩
    rw [List.take_add_one, hk, List.foldl_append]
    rfl
  · intro _
    rw [List.length_map, List.take_length]
    with_reducible apply Wb.ret
    · walk_at "ev"
    · exact ⟨rfl, rfl⟩
theorem reserved_C {w : World} {K : Frag} (hK : KOk K) (first : Int) (l : AL) : Cw w K 410 1 false [.int first] l (Is (.int (if first ≥ 128 then (first.fdiv 4).fmod 4 else (first.fdiv 8).fmod 4)) l) := by
  refine Cw.def (F := topF 62 410) (xs := [Str.ofString "first"]) (hK.fn 62 410 (by decide +kernel)) (Binds.of1 fun _ _ _ _ _ => by kernel_rfl) (by kernel_rfl) rfl fun c E => ?_
  show Wb c E [(Str.ofString "first", .int first)] l (_ :: _) _
  refine Wb.ret (v := .int (if first ≥ 128 then (first.fdiv 4).fmod 4 else (first.fdiv 8).fmod 4)) ?_ ⟨rfl, rfl⟩
  with_reducible apply Ev.ifexp
  · walk_at "te"
  · intro hp; rw [if_pos (by omega)]; walk_at "ev"
  · intro hp; rw [if_neg (by omega)]; walk_at "ev"
theorem take_map_succ {ks : List Int} {i : Nat} {k : Int} (h : ks[i]? = some k) : ks.take (i + 1) = ks.take i ++ [k] := by rw [List.take_add_one, h]; rfl
theorem turned_C {w : World} {K : Frag} (hK : KOk K) (key : List Int) (number : Int) (data : List Int) (l : AL) (ho : Oct data) (hl : data.length ≤ 10000) : Cw w K 300 2 false [.bytes key, .int number, .bytes data] l (Is (.bytes (turned key number data)) l) := by
  refine Cw.def (F := topF 45 300) (xs := [Str.ofString "key", Str.ofString "number", Str.ofString "data"]) (hK.fn 45 300 (by decide +kernel)) (Binds.of3 fun _ _ _ _ _ _ _ => by kernel_rfl) (by kernel_rfl) rfl fun c E => ?_
  show Wb c E [(Str.ofString "key", .bytes key), (Str.ofString "number", .int number), (Str.ofString "data", .bytes data)] l (_ :: _ :: _ :: _) _
  have C1 := mixed_C (w := w) hK (number + 1) key l
  have C2 := mixed_C (w := w) hK (mixed (number + 1) key) (([98, 111, 100, 121] : List UInt8).map fun y => (y.toNat : Int)) l
  refine Wb.swap (xs := [Str.ofString "state", Str.ofString "found"]) (RL := fun vs l0 => ∃ D, vs = [.int (mixed (mixed (number + 1) key) [98, 111, 100, 121]), .ref D] ∧ l0 = (D, .list []) :: l) ?_ (fun vs l0 h => by (refine El.eaxx (h) fun D zz1 zz2 => ?_; try clear h; (first | subst zz1 | cases zz1); (first | subst zz2 | cases zz2)); rfl) (by kernel_rfl) rfl ?_
  · with_reducible apply Exs.vcons
    · walk_at "ev"
    · refine Exs.cons (Ex.list Evs.nil (by decide)) ?_ rfl
      (intro zr1 zr2 zr3; refine El.eaxx (zr3) fun D zz1 zz2 => ?_; try clear zr3; (first | subst zz1 | cases zz1); (first | subst zz2 | cases zz2))
      exact Exs.done ⟨D, rfl, rfl⟩
    · rfl
  (intro zr1 zr2 zr3; refine El.eaxx (zr3) fun D zz1 zz2 => ?_; try clear zr3; (first | subst zz1 | cases zz1); (first | subst zz2 | cases zz2))
  generalize hst : mixed (mixed (number + 1) key) [98, 111, 100, 121] = st
  refine Wb.for (fun _ => True) (fun i => [(Str.ofString "state", .int ((data.take i).foldl (fun a _ => turnStep a) st)), (Str.ofString "found", .ref D)]) (fun i => (D, .list ((outs (fun a _ => turnStep a) (fun a k => Builtin.bitXor k (((turnStep a).fdiv 65536).fmod 256)) st (data.take i)).map .int)) :: l) (Iter.bytes (by walk_at "ev")) ⟨rfl, by walk_at "sub", trivial⟩ ?_ ?_ (by kernel_rfl)
  · intro c₁ E₁ i v I o hv _
    rw [List.getElem?_map] at hv
    (refine El.eaxx (Option.map_eq_some_iff.mp hv) fun k hk zz1 => ?_; (first | subst zz1 | cases zz1))
    have hk' : i < data.length := (List.getElem?_eq_some_iff.mp hk).1
    walk_at "as"
    with_reducible apply Wb.expr
    · with_reducible apply Ex.meth
      · walk_at "ev"
      · exact Mt.append (.tail _ (.head _))
      · exact keeps_builtin
      · exact Evs.x (by walk_at "evs")
      · (intro zr1 zr2 zr3; refine El.axx (zr3) fun zz1 zz2 => ?_; try clear zr3; (first | subst zz1 | cases zz1); (first | subst zz2 | cases zz2))
        exact Bw.append (.tail .head) (.tail _ (.head _)) (by rw [List.length_map, outs_length, List.length_take]; omega)
      · rfl
      · rfl
    · rfl
    (intro zr1 zr2 zr3; refine El.axx (zr3) fun zz1 zz2 => ?_; try clear zr3; (first | subst zz1 | cases zz1); (first | subst zz2 | cases zz2))
    refine Wb.nil ⟨?_, ?_, trivial⟩
    · rw [outs_take _ _ _ _ _ _ hk, List.map_append]; rfl
    · rw [take_map_succ hk, List.foldl_append]; walk_at "sub"
  · intro _
    rw [List.length_map, List.take_length, turnedGo_outs]
    with_reducible apply Wb.retP (l0 := l)
    · with_reducible apply Ev.bytes_l
      · assumption
      · kernel_rfl
      · walk_at "ev"
      · exact .head _
      · exact fun x hx => turnedGo_oct ho x hx
      · rw [turnedGo_length]; omega
    · exact .skip .refl
    · refine ⟨?_, rfl⟩
      rw [← hst]; rfl
theorem tag_of_C {w : World} {K : Frag} (hK : KOk K) (key : List Int) (number : Int) (head body : List Int) (l : AL) (h1 : head.length ≤ 3000) (h2 : body.length ≤ 3000) : Cw w K 307 2 true [.bytes key, .int number, .bytes head, .bytes body] l (Is (.bytes (tagOf key number head body)) l) := by
  refine Cw.def (F := topF 46 307) (xs := [Str.ofString "key", Str.ofString "number", Str.ofString "head", Str.ofString "body"]) (hK.fn 46 307 (by decide +kernel)) (Binds.of4 fun _ _ _ _ _ _ _ _ => by kernel_rfl) (by kernel_rfl) rfl fun c E => ?_
  show Wb c E [(Str.ofString "key", .bytes key), (Str.ofString "number", .int number), (Str.ofString "head", .bytes head), (Str.ofString "body", .bytes body)] l (_ :: _ :: _) _
  have C1 := mixed_C (w := w) hK (number + 1) key l
  have C2 := put_whole_C (w := w) hK (head.length : Nat) 4 l (by omega) (by decide) (by decide) (Int.lt_of_lt_of_le (b := 5000) (by omega) (by decide))
  have hb : (be (4 : Int).toNat (head.length : Nat)).length = 4 := be_length _ _
  have C3 := mixed_C (w := w) hK (mixed (number + 1) key) (be (4 : Int).toNat (head.length : Nat) ++ head ++ body) l
  have C4 := put_whole_C (w := w) hK (mixed (mixed (number + 1) key) (be (4 : Int).toNat (head.length : Nat) ++ head ++ body)) 16 l (mixed_lo _ _) (by decide) (by decide) (mixed_fit _ _)
  walk_at "as"
  with_reducible apply Wb.ret
  · walk_at "ev"
  · exact ⟨rfl, rfl⟩
theorem seal_C {w : World} {K : Frag} (hK : KOk K) (key : List Int) (number : Int) (head payload : List Int) (l : AL) (ho : Oct payload) (h1 : head.length ≤ 3000) (h2 : payload.length ≤ 3000) : Cw w K 314 3 true [.bytes key, .int number, .bytes head, .bytes payload] l (Is (.bytes (sealedOf key number head payload)) l) := by
  refine Cw.def (F := topF 47 314) (xs := [Str.ofString "key", Str.ofString "number", Str.ofString "head", Str.ofString "payload"]) (hK.fn 47 314 (by decide +kernel)) (Binds.of4 fun _ _ _ _ _ _ _ _ => by kernel_rfl) (by kernel_rfl) rfl fun c E => ?_
  show Wb c E [(Str.ofString "key", .bytes key), (Str.ofString "number", .int number), (Str.ofString "head", .bytes head), (Str.ofString "payload", .bytes payload)] l (_ :: _ :: _) _
  have ht := turned_length key number payload
  have C1 := turned_C (w := w) hK key number payload l ho (by omega)
  have C2 := tag_of_C (w := w) hK key number head (turned key number payload) l h1 (by omega)
  have hg := tagOf_length key number head (turned key number payload)
  walk_at "as"
  with_reducible apply Wb.ret
  · walk_at "ev"
  · exact ⟨rfl, rfl⟩

theorem open_sealed_C {w : World} {K : Frag} (hK : KOk K) (key : List Int) (number : Int) (head body : List Int) (l : AL) (ho : Oct body) (h1 : head.length ≤ 3000) (h2 : body.length ≤ 3000) : Cw w K 321 3 true [.bytes key, .int number, .bytes head, .bytes (body ++ tagOf key number head body)] l (Is (.bytes (turned key number body)) l) := by
  refine Cw.def (F := topF 48 321) (xs := [Str.ofString "key", Str.ofString "number", Str.ofString "head", Str.ofString "sealed"]) (hK.fn 48 321 (by decide +kernel)) (Binds.of4 fun _ _ _ _ _ _ _ _ => by kernel_rfl) (by kernel_rfl) rfl fun c E => ?_
  show Wb c E [(Str.ofString "key", .bytes key), (Str.ofString "number", .int number), (Str.ofString "head", .bytes head), (Str.ofString "sealed", .bytes (body ++ tagOf key number head body))] l (_ :: _ :: _ :: _ :: _) _
  have hg := tagOf_length key number head body
  generalize htag : tagOf key number head body = tag at hg ⊢
  have hl : (body ++ tag).length = body.length + 16 := by rw [List.length_append, hg]
  have e1 : (body ++ tag).take (((body ++ tag).length : Nat) - 16 : Int).toNat = body := by
    rw [hl, show (((body.length + 16 : Nat) : Int) - 16).toNat = body.length by omega]; exact List.take_left
  have e2 : (body ++ tag).drop (((body ++ tag).length : Nat) - 16 : Int).toNat = tag := by
    rw [hl, show (((body.length + 16 : Nat) : Int) - 16).toNat = body.length by omega]; exact List.drop_left
  have C1 := tag_of_C (w := w) hK key number head body l h1 h2
  have C2 := turned_C (w := w) hK key number body l ho (by omega)
  rw [htag] at C1
  with_reducible apply Wb.if_no
  · walk_at "te"
  · omega
  walk_at "as"
  rw [e1]
  with_reducible apply Wb.if_no
  · walk_at "te"
  · rw [e2]; exact fun q => q rfl
  with_reducible apply Wb.ret
  · walk_at "ev"
  · exact ⟨rfl, rfl⟩
theorem head_mask_C {w : World} {K : Frag} (hK : KOk K) (key sample : List Int) (l : AL) : Cw w K 328 2 true [.bytes key, .bytes sample] l (Is (.bytes (maskOf key sample)) l) := by
  refine Cw.def (F := topF 49 328) (xs := [Str.ofString "key", Str.ofString "sample"]) (hK.fn 49 328 (by decide +kernel)) (Binds.of2 fun _ _ _ _ _ _ => by kernel_rfl) (by kernel_rfl) rfl fun c E => ?_
  show Wb c E [(Str.ofString "key", .bytes key), (Str.ofString "sample", .bytes sample)] l (_ :: _) _
  have C1 := mixed_C (w := w) hK 7 key l
  have C2 := mixed_C (w := w) hK (mixed 7 key) sample l
  have C3 := put_whole_C (w := w) hK (mixed (mixed 7 key) sample) 16 l (mixed_lo _ _) (by decide) (by decide) (mixed_fit _ _)
  have hb : (be (16 : Int).toNat (mixed (mixed 7 key) sample)).length = 16 := be_length _ _
  with_reducible apply Wb.ret
  · walk_at "ev"
  · exact ⟨rfl, rfl⟩
theorem turned_first_C {w : World} {K : Frag} (hK : KOk K) (first : Int) (mask : List Int) (l : AL) (h0 : 1 ≤ mask.length) (h1 : mask.length ≤ 100) : Cw w K 335 1 false [.int first, .bytes mask] l (Is (.int (turnedFirst first mask)) l) := by
  refine Cw.def (F := topF 50 335) (xs := [Str.ofString "first", Str.ofString "mask"]) (hK.fn 50 335 (by decide +kernel)) (Binds.of2 fun _ _ _ _ _ _ => by kernel_rfl) (by kernel_rfl) rfl fun c E => ?_
  show Wb c E [(Str.ofString "first", .int first), (Str.ofString "mask", .bytes mask)] l (_ :: _) _
  with_reducible apply Wb.ret
  · with_reducible apply Ev.bin
    · walk_at "ev"
    · with_reducible apply Ev.bin (y := .int (if first ≥ 128 then 15 else 31))
      · walk_at "ev"
      · with_reducible apply Ev.ifexp
        · walk_at "te"
        · intro hp; rw [if_pos (by omega)]; walk_at "ev"
        · intro hp; rw [if_neg (by omega)]; walk_at "ev"
      · walk_at "bop"
    · walk_at "bop"
  · exact ⟨rfl, rfl⟩
theorem sample_at_C {w : World} {K : Frag} (hK : KOk K) (ks : List Int) (na e : Int) (l : AL) (h0 : 0 ≤ na) (h1 : na + 20 ≤ e) (h2 : e ≤ ks.length) (hl : ks.length ≤ 10000) : Cw w K 347 1 false [.bytes ks, .int na, .int e] l (Is (.bytes ((ks.drop (na + 4).toNat).take 16)) l) := by
  refine Cw.def (F := topF 52 347) (xs := [Str.ofString "data", Str.ofString "number_at", Str.ofString "end"]) (hK.fn 52 347 (by decide +kernel)) (Binds.of3 fun _ _ _ _ _ _ _ => by kernel_rfl) (by kernel_rfl) rfl fun c E => ?_
  show Wb c E [(Str.ofString "data", .bytes ks), (Str.ofString "number_at", .int na), (Str.ofString "end", .int e)] l (_ :: _ :: _) _
  with_reducible apply Wb.if_no
  · walk_at "te"
  · omega
  with_reducible apply Wb.ret
  · walk_at "ev"
  · rw [show (na + 4 + 16 - (na + 4)).toNat = 16 by omega]
    exact ⟨rfl, rfl⟩
theorem padded_C {w : World} {K : Frag} (hK : KOk K) (ks : List Int) (ns : Int) (l : AL) (h0 : 1 ≤ ns) (h1 : ns ≤ 4) (hl : ks.length ≤ 1000) : Cw w K 354 1 false [.bytes ks, .int ns] l (Is (.bytes (padded ks ns)) l) := by
  refine Cw.def (F := topF 53 354) (xs := [Str.ofString "payload", Str.ofString "number_size"]) (hK.fn 53 354 (by decide +kernel)) (Binds.of2 fun _ _ _ _ _ _ => by kernel_rfl) (by kernel_rfl) rfl fun c E => ?_
  show Wb c E [(Str.ofString "payload", .bytes ks), (Str.ofString "number_size", .int ns)] l (_ :: _ :: _) _
  walk_at "as"
  refine Wb.ret (v := .bytes (padded ks ns)) ?_ ⟨rfl, rfl⟩
  with_reducible apply Ev.ifexp
  · walk_at "te"
  · intro hp
    show Ev c E _ _ _ (.bytes (ks ++ List.replicate (4 - ns - ks.length).toNat 0))
    with_reducible apply Ev.bin
    · walk_at "ev"
    · with_reducible apply Ev.bytes_n
      · assumption
      · kernel_rfl
      · walk_at "ev"
      · omega
      · omega
    · walk_at "bop"
  · intro hp
    have e : padded ks ns = ks := by unfold padded; rw [show (4 - ns - (ks.length : Int)).toNat = 0 by omega]; exact List.append_nil _
    rw [e]; walk_at "ev"
theorem number_size_C {w : World} {K : Frag} (hK : KOk K) (full : Int) (la : AV) (sz : Int) (l : AL) (h : LaOk full la sz) : Cw w K 272 1 false [.int full, la] l (Is (.int sz) l) := by
  refine Cw.def (F := topF 35 272) (xs := [Str.ofString "full", Str.ofString "largest_acked"]) (hK.fn 35 272 (by decide +kernel)) (Binds.of2 fun _ _ _ _ _ _ => by kernel_rfl) (by kernel_rfl) rfl fun c E => ?_
  show Wb c E [(Str.ofString "full", .int full), (Str.ofString "largest_acked", la)] l (_ :: _ :: _ :: _) _
  obtain ⟨ap, hla, h1, h2, rfl⟩ : ∃ ap, ((la = .none ∧ ap = full + 1) ∨ ∃ a, la = .int a ∧ ap = full - a) ∧ 1 ≤ ap ∧ ap ≤ 2147483647 ∧ sz = nsize ap := by
    rcases h with ⟨rfl, rfl, a, b⟩ | ⟨a, rfl, rfl, b, d⟩
    · exact ⟨_, .inl ⟨rfl, rfl⟩, by omega, by omega, rfl⟩
    · exact ⟨_, .inr ⟨a, rfl, rfl⟩, b, d, rfl⟩
  with_reducible apply Wb.assign (v := .int ap)
  · rcases hla with ⟨rfl, rfl⟩ | ⟨a, rfl, rfl⟩
    · with_reducible apply Ev.ifexp
      · walk_at "te"
      · intro _; walk_at "ev"
      · intro h; exact absurd trivial h
    · with_reducible apply Ev.ifexp
      · walk_at "te"
      · intro h; exact h.elim
      · intro _; walk_at "ev"
  · kernel_rfl
  refine Wb.for (items := (List.range 4).map fun i => .int (1 + (i : Nat) * 1)) (fun i => ∀ j : Nat, 1 ≤ j → j ≤ i → ¬ 2 * ap ≤ 1 * 2 ^ (8 * j)) (fun i => [(Str.ofString "apart", .int ap)]) (fun _ => l) ?_ ⟨rfl, by walk_at "sub", fun j a b => by omega⟩ ?_ ?_ (by kernel_rfl)
  · refine Iter.of_rng (a := 1) (z := 4 + 1) (st := 1) ?_ (by decide) (by decide)
    refine Ex.callE ?_ keeps_type ?_ Bw.range2 rfl
    · walk_at "bt"
    · walk_at "evs"
  · intro c₁ E₁ i v I o hv hH
    rw [List.getElem?_map] at hv
    (refine El.eaxx (Option.map_eq_some_iff.mp hv) fun j hj zz1 => ?_; (first | subst zz1 | cases zz1))
    (refine El.ex (List.getElem?_eq_some_iff.mp hj) fun hj1 hj2 => ?_)
    rw [List.getElem_range] at hj2
    rw [List.length_range] at hj1
    subst hj2
    with_reducible apply Wb.if
    · walk_at "te"
    · intro hp
      with_reducible apply Wb.retP (l0 := l)
      · walk_at "ev"
      · exact .skip .refl
      · exact ⟨by rw [nsize_of hj1 hH hp], rfl⟩
    · intro hp
      exact Wb.nil (Wb.nil ⟨rfl, by walk_at "sub", nsize_next hH hp⟩)
  · intro hH
    exfalso
    refine hH 4 (by decide) (by decide) ?_
    rw [show (1 : Int) * 2 ^ (8 * 4) = 4294967296 by decide]
    omega
theorem cut_number_C {w : World} {K : Frag} (hK : KOk K) (full : Int) (la : AV) (sz : Int) (l : AL) (h : LaOk full la sz) : Cw w K 279 2 true [.int full, la] l (Is (.bytes (cutOf full sz)) l) := by
  refine Cw.def (F := topF 36 279) (xs := [Str.ofString "full", Str.ofString "largest_acked"]) (hK.fn 36 279 (by decide +kernel)) (Binds.of2 fun _ _ _ _ _ _ => by kernel_rfl) (by kernel_rfl) rfl fun c E => ?_
  show Wb c E [(Str.ofString "full", .int full), (Str.ofString "largest_acked", la)] l (_ :: _ :: _) _
  have C1 := number_size_C (w := w) hK full la sz l h
  have hr := h.range
  have hm : 0 ≤ full.fmod (1 * 2 ^ (8 * sz).toNat) ∧ full.fmod (1 * 2 ^ (8 * sz).toNat) < 256 ^ sz.toNat := by
    rcases h with ⟨_, rfl, _⟩ | ⟨_, _, rfl, _⟩ <;> exact nsize_mod _ _
  have C2 := put_whole_C (w := w) hK (full.fmod (1 * 2 ^ (8 * sz).toNat)) sz l hm.1 hr.1 (by omega) hm.2
  have hp : (1 : Int) * 2 ^ (8 * sz).toNat ≠ 0 := pow2_ne _
  walk_at "as"
  with_reducible apply Wb.ret
  · walk_at "ev"
  · exact ⟨rfl, rfl⟩
theorem intBits_small {x : Int} (h : x.natAbs < 2 ^ 64) : Builtin.Int.intBits x ≤ 64 := by
  unfold Builtin.Int.intBits
  split
  · omega
  · rename_i hx
    have hx' : x.natAbs ≠ 0 := fun q => hx (by simp [Int.natAbs_eq_zero.mp q])
    have := (Nat.log2_lt hx').mpr h
    omega
theorem restore_C {w : World} {K : Frag} (hK : KOk K) (tr size ex : Int) (seen : AV) (l : AL) (h : SeenOk seen ex) (h0 : 1 ≤ size) (h1 : size ≤ 4) : Cw w K 286 1 false [.int tr, .int size, seen] l (Is (.int (restored tr size ex)) l) := by
  refine Cw.def (F := topF 37 286) (xs := [Str.ofString "truncated", Str.ofString "size", Str.ofString "largest_seen"]) (hK.fn 37 286 (by decide +kernel)) (Binds.of3 fun _ _ _ _ _ _ _ => by kernel_rfl) (by kernel_rfl) rfl fun c E => ?_
  show Wb c E [(Str.ofString "truncated", .int tr), (Str.ofString "size", .int size), (Str.ofString "largest_seen", seen)] l (_ :: _ :: _ :: _ :: _ :: _) _
  (refine El.axaxx (window_facts h0 h1) fun hw hw2 hw3 => ?_)
  have e62 : (1 : Int) * 2 ^ (62 : Int).toNat = 4611686018427387904 := by decide
  have q1 := pow2_ne (8 * size).toNat
  have q2 := pow2_log (k := (8 * size).toNat) (by omega)
  have q3 : IntMulOk (ex.fdiv (1 * 2 ^ (8 * size).toNat)) (1 * 2 ^ (8 * size).toNat) := IntMulOk.of_right (intBits_small (by omega))
  with_reducible apply Wb.assign (v := .int ex)
  · rcases h with ⟨rfl, rfl⟩ | ⟨a, rfl, rfl⟩
    · with_reducible apply Ev.ifexp
      · walk_at "te"
      · intro _; walk_at "ev"
      · intro h; exact absurd trivial h
    · with_reducible apply Ev.ifexp
      · walk_at "te"
      · intro h; exact h.elim
      · intro _; walk_at "ev"
  · kernel_rfl
  walk_at "as"
  walk_at "as"
  walk_at "as"
  with_reducible apply Wb.if
  · walk_at "te"
  · (intro zr1; refine El.axaxx (zr1) fun p1 p2 zz1 => ?_; try clear zr1; clear zz1)
    rw [e62] at p2
    with_reducible apply Wb.ret
    · walk_at "ev"
    · refine ⟨?_, rfl⟩
      dsimp only [restored]
      rw [if_pos ⟨p1, p2⟩]
  · intro hp
    refine Wb.beh ?_
    have hp' : ¬ (ex.fdiv (1 * 2 ^ (8 * size).toNat) * (1 * 2 ^ (8 * size).toNat) + tr ≤ ex - ((1 : Int) * 2 ^ (8 * size).toNat).fdiv 2 ∧ ex.fdiv (1 * 2 ^ (8 * size).toNat) * (1 * 2 ^ (8 * size).toNat) + tr < 4611686018427387904 - 1 * 2 ^ (8 * size).toNat) := fun q => hp ⟨q.1, by rw [e62]; exact q.2, trivial⟩
    with_reducible apply Wb.if
    · walk_at "te"
    · (intro zr1; refine El.axaxx (zr1) fun p1 p2 zz1 => ?_; try clear zr1; clear zz1)
      with_reducible apply Wb.ret
      · walk_at "ev"
      · refine ⟨?_, rfl⟩
        dsimp only [restored]
        rw [if_neg hp', if_pos ⟨p1, p2⟩]
    · intro hq
      refine Wb.beh ?_
      with_reducible apply Wb.ret
      · walk_at "ev"
      · refine ⟨?_, rfl⟩
        dsimp only [restored]
        rw [if_neg hp', if_neg fun q => hq ⟨q.1, q.2, trivial⟩]
theorem put_ids_C {w : World} {K : Frag} (hK : KOk K) (kb kc : List Int) (l : AL) (h0 : kb.length ≤ 20) (h1 : kc.length ≤ 20) : Cw w K 195 1 false [.bytes kb, .bytes kc] l (Is (.bytes ((kb.length : Int) :: kb ++ (kc.length : Int) :: kc)) l) := by
  refine Cw.def (F := topF 22 195) (xs := [Str.ofString "dcid", Str.ofString "scid"]) (hK.fn 22 195 (by decide +kernel)) (Binds.of2 fun _ _ _ _ _ _ => by kernel_rfl) (by kernel_rfl) rfl fun c E => ?_
  show Wb c E [(Str.ofString "dcid", .bytes kb), (Str.ofString "scid", .bytes kc)] l (_ :: _) _
  with_reducible apply Wb.ret
  · walk_at "ev"
  · refine ⟨?_, rfl⟩
    simp
theorem long_first_C {w : World} {K : Frag} (hK : KOk K) (x : Str) (j : Nat) (n : Int) (l : AL) (hj : [Str.ofString "initial", Str.ofString "zero", Str.ofString "handshake", Str.ofString "retry"][j]? = some x) (hno : ∀ i, i < j → [Str.ofString "initial", Str.ofString "zero", Str.ofString "handshake", Str.ofString "retry"][i]? ≠ some x) : Cw w K 202 1 false [.str x, .int n] l (Is (.int (192 + 16 * (j : Nat) + n)) l) := by
  refine Cw.def (F := topF 23 202) (xs := [Str.ofString "kind", Str.ofString "low_bits"]) (hK.fn 23 202 (by decide +kernel)) (Binds.of2 fun _ _ _ _ _ _ => by kernel_rfl) (by kernel_rfl) rfl fun c E => ?_
  show Wb c E [(Str.ofString "kind", .str x), (Str.ofString "low_bits", .int n)] l (_ :: _) _
  with_reducible apply Wb.ret
  · with_reducible apply Ev.bin
    · with_reducible apply Ev.bin
      · walk_at "ev"
      · with_reducible apply Ev.bin
        · walk_at "ev"
        · with_reducible apply Ev.meth
          · walk_at "ev"
          · exact Mt.index167 hK
          · exact keeps_builtin
          · walk_at "evs"
          · exact Bw.index167 hK hj hno
          · rfl
          · rfl
        · walk_at "bop"
      · walk_at "bop"
    · walk_at "ev"
    · walk_at "bop"
  · exact ⟨rfl, rfl⟩
theorem long_head_C {w : World} {K : Frag} (hK : KOk K) (x : Str) (j : Nat) (kd ks tok mid : List Int) (rest ns : Int) (l : AL) (hj : [Str.ofString "initial", Str.ofString "zero", Str.ofString "handshake", Str.ofString "retry"][j]? = some x) (hno : ∀ i, i < j → [Str.ofString "initial", Str.ofString "zero", Str.ofString "handshake", Str.ofString "retry"][i]? ≠ some x)
    (hmid : (x = Str.ofString "initial" ∧ mid = (tok.length : Int) :: tok) ∨ (x ≠ Str.ofString "initial" ∧ mid = [])) (hj3 : j ≤ 2) (h1 : 1 ≤ ns) (h2 : ns ≤ 4) (ld : kd.length ≤ 20) (ls : ks.length ≤ 20) (lt : tok.length < 64) (r0 : 0 ≤ rest) (r1 : rest < 64) :
    Cw w K 209 3 true [.str x, .int 1, .bytes kd, .bytes ks, .bytes tok, .int rest, .int ns] l (Is (.bytes (longHd j ns kd ks mid rest)) l) := by
  refine Cw.def (F := topF 24 209) (xs := [Str.ofString "kind", Str.ofString "version", Str.ofString "dcid", Str.ofString "scid", Str.ofString "token", Str.ofString "rest_size", Str.ofString "number_size"]) (hK.fn 24 209 (by decide +kernel)) (Binds.of7 fun _ _ _ _ _ _ _ _ _ _ _ => by kernel_rfl) (by kernel_rfl) rfl fun c E => ?_
  show Wb c E [(Str.ofString "kind", .str x), (Str.ofString "version", .int 1), (Str.ofString "dcid", .bytes kd), (Str.ofString "scid", .bytes ks), (Str.ofString "token", .bytes tok), (Str.ofString "rest_size", .int rest), (Str.ofString "number_size", .int ns)] l (_ :: _ :: _ :: _) _
  have C1 := long_first_C (w := w) hK x j (ns - 1) l hj hno
  have C2 := put_whole_C (w := w) hK 1 4 l (by decide) (by decide) (by decide) (by decide)
  have C3 := put_ids_C (w := w) hK kd ks l ld ls
  have C4 := put_varint_C (w := w) hK (tok.length : Nat) l (by omega) (by omega)
  have C5 := put_varint_C (w := w) hK rest l r0 r1
  rw [be4] at C2
  walk_at "as"
  with_reducible apply Wb.if
  · walk_at "te"
  · intro hp
    obtain ⟨_, rfl⟩ | ⟨hq, _⟩ := hmid
    · walk_at "as"
      refine Wb.beh ?_
      with_reducible apply Wb.ret
      · walk_at "ev"
      · refine ⟨?_, rfl⟩
        simp [longHd]
    · exact absurd hp hq
  · intro hp
    obtain ⟨hq, _⟩ | ⟨_, rfl⟩ := hmid
    · exact absurd hq hp
    · refine Wb.nil ?_
      show Wb c E _ _ _ _
      with_reducible apply Wb.ret
      · walk_at "ev"
      · refine ⟨?_, rfl⟩
        simp [longHd]

theorem turned_number_C {w : World} {K : Frag} (hK : KOk K) (octets mask : List Int) (l : AL) (h0 : octets.length + 1 ≤ mask.length) (h1 : mask.length ≤ 16) : Cw w K 340 2 false [.bytes octets, .bytes mask] l (Is (.bytes (turnedNumber octets mask)) l) := by
  refine Cw.oct fun hO => ?_
  have oo := hO octets (by simp)
  have om := hO mask (by simp)
  refine Cw.defC1 (F := topF 51 340) (xs := [Str.ofString "octets", Str.ofString "mask"]) (Str.ofString "mask") (.bytes mask) [(Str.ofString "octets", .bytes octets)] (hK.fn 51 340 (by decide +kernel)) (Binds.of2 fun _ _ _ _ _ _ => by kernel_rfl) (by kernel_rfl) rfl rfl rfl (fun n => by kernel_rfl) rfl (fun us r => ?_) fun c E a hcl => ?_
  · (refine El.eeaxaxx (r.two) fun u1 u2 zz1 r1 r2 => ?_; (first | subst zz1 | cases zz1))
    have e1 : bindL (fun x => (topF 51 340).scope.names.lookup x) [(Str.ofString "octets", u1), (Str.ofString "mask", u2)] (fun _ => none) = fun z => if z = Str.ofString "octets" then some u1 else none := by kernel_rfl
    have e2 : bindC (fun x => (topF 51 340).scope.names.lookup x) [(Str.ofString "octets", u1), (Str.ofString "mask", u2)] (fun _ => none) = fun z => if z = Str.ofString "mask" then some u2 else none := by kernel_rfl
    refine ⟨fun x v hx => ?_, u2, (congrFun e2 _).trans (if_pos rfl), r2⟩
    rw [List.lookup_cons] at hx
    split at hx
    · rename_i e; cases hx; exact ⟨u1, (congrFun e1 x).trans (if_pos (eq_of_beq e)), r1⟩
    · cases hx
  · show Wb c E [(Str.ofString "octets", .bytes octets)] ((a, .cell (.bytes mask)) :: l) (_ :: _) _
    have hI1 : KBa.In (turnedNumber octets mask) := turnedNumber_oct oo om
    have hI2 := turnedNumber_length octets mask
    refine Wb.retQ (R := fun v l' => v = .bytes (turnedNumber octets mask) ∧ ∃ D, l' = (D, .list ((turnedNumber octets mask).map .int)) :: (a, .cell (.bytes mask)) :: l) ?_ ?_
    · with_reducible apply Ex.callB
      · exact Ev.bt hK (u := .type "bytes") (by kernel_rfl) (by kernel_rfl) (by kernel_rfl)
      · exact keeps_type
      · with_reducible apply Exs.one
        · with_reducible apply Ex.enum
          · assumption
          · exact hcl
          · exact .head _
          · exact h0
          · omega
          · with_unfolding_all rfl
          · decide +kernel
          · rfl
          · decide +kernel
          · rfl
          · rfl
          · decide +kernel
          · with_unfolding_all rfl
          · with_unfolding_all rfl
          · with_unfolding_all rfl
          · rfl
          · kernel_rfl
          · kernel_rfl
          · rfl
        · rfl
      · (intro zr1 zr2 zr3; refine El.ex (zr3) fun zz1 zq58 => ?_; try clear zr3; refine El.axeaxx (zq58) fun zz2 D zz3 zz4 => ?_; try clear zq58; (first | subst zz2 | cases zz2); (first | subst zz3 | cases zz3); (first | subst zz4 | cases zz4))
        exact fun Q h tk us S r k => Bw.bytes_list (.head _) hI1 (by omega) Q h tk us S r fun h' tk' u v l' hv S' r' => k h' tk' u v l' (by (refine El.axx (hv) fun zz1 zz2 => ?_; try clear hv; (first | subst zz1 | cases zz1); (first | subst zz2 | cases zz2)); exact ⟨rfl, D, rfl⟩) S' r'
      · rfl
    · (intro zr1 zr2 zr3; refine El.axex (zr3) fun zz1 D zz2 => ?_; try clear zr3; (first | subst zz1 | cases zz1); (first | subst zz2 | cases zz2))
      exact ⟨l, .skip (.skip .refl), rfl, rfl⟩
theorem short_head_C {w : World} {K : Frag} (hK : KOk K) (sp kp ns : Int) (kd : List Int) (l : AL) (h0 : 0 ≤ sp) (h1 : sp ≤ 1) (h2 : 0 ≤ kp) (h3 : kp ≤ 1) (h4 : 1 ≤ ns) (h5 : ns ≤ 4) (hl : kd.length ≤ 20) : Cw w K 375 1 false [.int sp, .int kp, .bytes kd, .int ns] l (Is (.bytes ((64 + 32 * sp + 4 * kp + ns - 1) :: kd)) l) := by
  refine Cw.def (F := topF 57 375) (xs := [Str.ofString "spin", Str.ofString "key_phase", Str.ofString "dcid", Str.ofString "number_size"]) (hK.fn 57 375 (by decide +kernel)) (Binds.of4 fun _ _ _ _ _ _ _ _ => by kernel_rfl) (by kernel_rfl) rfl fun c E => ?_
  show Wb c E [(Str.ofString "spin", .int sp), (Str.ofString "key_phase", .int kp), (Str.ofString "dcid", .bytes kd), (Str.ofString "number_size", .int ns)] l (_ :: _) _
  with_reducible apply Wb.ret
  · walk_at "ev"
  · exact ⟨rfl, rfl⟩
theorem first_zero : ∀ i, i < 1 → [Str.ofString "initial", Str.ofString "zero", Str.ofString "handshake", Str.ofString "retry"][i]? ≠ some (Str.ofString "zero") := fun i hi => by
  have : i = 0 := by omega
  subst this; decide
theorem first_handshake : ∀ i, i < 2 → [Str.ofString "initial", Str.ofString "zero", Str.ofString "handshake", Str.ofString "retry"][i]? ≠ some (Str.ofString "handshake") := fun i hi => by
  have : i = 0 ∨ i = 1 := by omega
  rcases this with rfl | rfl <;> decide
theorem head_of_C {w : World} {K : Frag} (hK : KOk K) (pk : Pk) (P : Addr) (ns : Int) (pay : List Int) (l : AL) (ok : pk.Ok) (hm : (P, AO.tup pk.tup) ∈ l) (h4 : 1 ≤ ns) (h5 : ns ≤ 4) (hl : pay.length ≤ 20) : Cw w K 382 4 true [.ref P, .int ns, .bytes pay] l (Is (.bytes (headBytes pk ns (ns + (pay.length : Nat) + 16))) l) := by
  refine Cw.def (F := topF 58 382) (xs := [Str.ofString "packet", Str.ofString "number_size", Str.ofString "payload"]) (hK.fn 58 382 (by decide +kernel)) (Binds.of3 fun _ _ _ _ _ _ _ => by kernel_rfl) (by kernel_rfl) rfl fun c E => ?_
  show Wb c E [(Str.ofString "packet", .ref P), (Str.ofString "number_size", .int ns), (Str.ofString "payload", .bytes pay)] l (_ :: _ :: _ :: _ :: _) _
  obtain ⟨sort, sp, kp, kd, ks, tok, num, ppay⟩ := pk
  obtain ⟨a0, a1, a2, a3, a4, a5, a6, a7, a8, a9⟩ := ok
  dsimp only at a0 a1 a2 a3 a4 a5 a6
  have r0 : 0 ≤ ns + (pay.length : Nat) + 16 := by omega
  have r1 : ns + (pay.length : Nat) + 16 < 64 := by omega
  cases sort with
  | initial =>
    have hm' : (P, AO.tup [.str (Str.ofString "initial"), .int 1, .bytes kd, .bytes ks, .bytes tok, .int num, .bytes ppay]) ∈ l := hm
    have C := long_head_C (w := w) hK (Str.ofString "initial") 0 kd ks tok _ (ns + (pay.length : Nat) + 16) ns l rfl (fun i hi => absurd hi (Nat.not_lt_zero _)) (.inl ⟨rfl, rfl⟩) (by decide) h4 h5 a4 a5 a6 r0 r1
    walk_at "as"
    walk_at "as"
    with_reducible apply Wb.if_no
    · walk_at "te"
    · decide
    with_reducible apply Wb.assign (v := .bytes tok)
    · with_reducible apply Ev.ifexp
      · walk_at "te"
      · intro h; walk_at "ev"
      · intro h; exact absurd rfl h
    · kernel_rfl
    with_reducible apply Wb.ret
    · walk_at "ev"
    · exact ⟨rfl, rfl⟩
  | zero =>
    have hm' : (P, AO.tup [.str (Str.ofString "zero"), .int 1, .bytes kd, .bytes ks, .int num, .bytes ppay]) ∈ l := hm
    have C := long_head_C (w := w) hK (Str.ofString "zero") 1 kd ks [] _ (ns + (pay.length : Nat) + 16) ns l rfl first_zero (.inr ⟨by decide, rfl⟩) (by decide) h4 h5 a4 a5 (by decide) r0 r1
    walk_at "as"
    walk_at "as"
    with_reducible apply Wb.if_no
    · walk_at "te"
    · decide
    with_reducible apply Wb.assign (v := .bytes [])
    · with_reducible apply Ev.ifexp
      · walk_at "te"
      · intro h; exact absurd h (by decide)
      · intro h; exact Ev.eq Ev.const_bytes rfl
    · kernel_rfl
    with_reducible apply Wb.ret
    · walk_at "ev"
    · exact ⟨rfl, rfl⟩
  | handshake =>
    have hm' : (P, AO.tup [.str (Str.ofString "handshake"), .int 1, .bytes kd, .bytes ks, .int num, .bytes ppay]) ∈ l := hm
    have C := long_head_C (w := w) hK (Str.ofString "handshake") 2 kd ks [] _ (ns + (pay.length : Nat) + 16) ns l rfl first_handshake (.inr ⟨by decide, rfl⟩) (by decide) h4 h5 a4 a5 (by decide) r0 r1
    walk_at "as"
    walk_at "as"
    with_reducible apply Wb.if_no
    · walk_at "te"
    · decide
    with_reducible apply Wb.assign (v := .bytes [])
    · with_reducible apply Ev.ifexp
      · walk_at "te"
      · intro h; exact absurd h (by decide)
      · intro h; exact Ev.eq Ev.const_bytes rfl
    · kernel_rfl
    with_reducible apply Wb.ret
    · walk_at "ev"
    · exact ⟨rfl, rfl⟩
  | short =>
    have hm' : (P, AO.tup [.str (Str.ofString "short"), .int sp, .int kp, .bytes kd, .int num, .bytes ppay]) ∈ l := hm
    have C := short_head_C (w := w) hK sp kp ns kd l a0 a1 a2 a3 h4 h5 a4
    walk_at "as"
    walk_at "as"
    with_reducible apply Wb.if
    · walk_at "te"
    · intro _
      with_reducible apply Wb.ret
      · walk_at "ev"
      · exact ⟨rfl, rfl⟩
    · intro h; exact absurd rfl h
theorem protected_C {w : World} {K : Frag} (hK : KOk K) (key : List Int) (number : Int) (head cut pay : List Int) (l : AL) (hh0 : 1 ≤ head.length) (hhl : head.length ≤ 500) (hcl : 1 ≤ cut.length) (hcl2 : cut.length ≤ 4) (hbl : pay.length ≤ 800) (hlack : 4 ≤ cut.length + pay.length) : Cw w K 361 4 true [.bytes key, .int number, .bytes head, .bytes cut, .bytes pay] l (Is (.bytes (sealedPacket key number head cut pay)) l) := by
  refine Cw.oct fun hO => ?_
  have oh := hO head (by simp)
  have op := hO pay (by simp)
  refine Cw.def (F := topF 54 361) (xs := [Str.ofString "key", Str.ofString "number", Str.ofString "head", Str.ofString "cut", Str.ofString "payload"]) (hK.fn 54 361 (by decide +kernel)) (Binds.of5 fun _ _ _ _ _ _ _ _ _ => by kernel_rfl) (by kernel_rfl) rfl fun c E => ?_
  show Wb c E [(Str.ofString "key", .bytes key), (Str.ofString "number", .int number), (Str.ofString "head", .bytes head), (Str.ofString "cut", .bytes cut), (Str.ofString "payload", .bytes pay)] l (_ :: _ :: _ :: _ :: _ :: _) _
  have C1 := seal_C (w := w) hK key number (head ++ cut) pay l op (by rw [List.length_append]; omega) (by omega)
  have hs := sealedOf_length key number (head ++ cut) pay
  generalize hsd : sealedOf key number (head ++ cut) pay = sealed at hs C1
  have C2 := sample_at_C (w := w) hK (head ++ cut ++ sealed) (head.length : Nat) ((head ++ cut ++ sealed).length : Nat) l (by omega) (by simp only [List.length_append]; omega) (by omega) (by simp only [List.length_append]; omega)
  have C3 := head_mask_C (w := w) hK key (((head ++ cut ++ sealed).drop ((head.length : Nat) + 4 : Int).toNat).take 16) l
  have hm := maskOf_length key (((head ++ cut ++ sealed).drop ((head.length : Nat) + 4 : Int).toNat).take 16)
  have hmi := maskOf_in key (((head ++ cut ++ sealed).drop ((head.length : Nat) + 4 : Int).toNat).take 16)
  generalize hmd : maskOf key (((head ++ cut ++ sealed).drop ((head.length : Nat) + 4 : Int).toNat).take 16) = mask at hm hmi C3
  have C4 := turned_first_C (w := w) hK (head.getD (0 : Int).toNat 0) mask l (by omega) (by omega)
  have C5 := turned_number_C (w := w) hK cut mask l (by omega) (by omega)
  have hf := turnedFirst_in (getD_in oh _).1 (getD_in oh (0 : Int).toNat).2 hmi
  have ht := turnedNumber_length cut mask
  walk_at "as"
  walk_at "as"
  walk_at "as"
  walk_at "as"
  with_reducible apply Wb.ret
  · walk_at "ev"
  · refine ⟨?_, rfl⟩
    unfold sealedPacket
    have e : ((head.length : Nat) + 4 : Int).toNat = head.length + 4 := by omega
    rw [e] at hmd
    simp only [hsd, hmd]
    rfl
theorem bare_head_C {w : World} {K : Frag} (hK : KOk K) (key ks mk hv : List Int) (st na en f sz : Int) (l : AL) (hl : ks.length ≤ 10000) (h0 : 0 ≤ st) (h1 : st < na) (h2 : na + 20 ≤ en) (h3 : en ≤ ks.length) (hmk : maskOf key ((ks.drop (na + 4).toNat).take 16) = mk) (hf : turnedFirst (ks.getD st.toNat 0) mk = f) (hsz : f.fmod 4 + 1 = sz)
    (hhv : f :: ((ks.drop (st + 1).toNat).take (na - (st + 1)).toNat ++ turnedNumber ((ks.drop na.toNat).take sz.toNat) mk) = hv) : Cw w K 368 3 true [.bytes key, .bytes ks, .int st, .int na, .int en] l (New (.tup [.bytes hv, .int sz]) l) := by
  refine Cw.oct fun hO => ?_
  have ok := hO ks (by simp)
  refine Cw.def (F := topF 55 368) (xs := [Str.ofString "key", Str.ofString "data", Str.ofString "start", Str.ofString "number_at", Str.ofString "end"]) (hK.fn 55 368 (by decide +kernel)) (Binds.of5 fun _ _ _ _ _ _ _ _ _ => by kernel_rfl) (by kernel_rfl) rfl fun c E => ?_
  show Wb c E [(Str.ofString "key", .bytes key), (Str.ofString "data", .bytes ks), (Str.ofString "start", .int st), (Str.ofString "number_at", .int na), (Str.ofString "end", .int en)] l (_ :: _ :: _ :: _ :: _ :: _ :: _) _
  have C2 := sample_at_C (w := w) hK ks na en l (by omega) (by omega) (by omega) hl
  have C3 := head_mask_C (w := w) hK key ((ks.drop (na + 4).toNat).take 16) l
  have hm := maskOf_length key ((ks.drop (na + 4).toNat).take 16)
  have hmi := maskOf_in key ((ks.drop (na + 4).toNat).take 16)
  rw [hmk] at C3 hm hmi
  have C4 := turned_first_C (w := w) hK (ks.getD st.toNat 0) mk l (by omega) (by omega)
  have hfi := turnedFirst_in (getD_in ok _).1 (getD_in ok st.toNat).2 hmi
  rw [hf] at C4 hfi
  have hs0 := fmod_lo f (n := 4) (by decide)
  have hs1 := fmod_hi f (n := 4) (by decide)
  have lt : ((ks.drop na.toNat).take (na + (f.fmod 4 + 1) - na).toNat).length = (na + (f.fmod 4 + 1) - na).toNat := by rw [List.length_take, List.length_drop]; omega
  have C5 := turned_number_C (w := w) hK ((ks.drop na.toNat).take (na + (f.fmod 4 + 1) - na).toNat) mk l (by omega) (by omega)
  have htl := turnedNumber_length ((ks.drop na.toNat).take (na + (f.fmod 4 + 1) - na).toNat) mk
  walk_at "as"
  with_reducible apply Wb.if_no
  · walk_at "te"
  · exact id
  walk_at "as"
  walk_at "as"
  walk_at "as"
  walk_at "as"
  with_reducible apply Wb.ret_tup
  · walk_at "evs"
  · rfl
  · intro D
    refine ⟨D, rfl, ?_⟩
    rw [show (na + (f.fmod 4 + 1) - na) = sz by omega, hsz, ← hhv]
    rfl
theorem number_in_C {w : World} {K : Frag} (hK : KOk K) (pk : Pk) (P : Addr) (l : AL) (hm : (P, AO.tup pk.tup) ∈ l) : Cw w K 389 1 false [.ref P] l (Is (.int pk.num) l) := by
  refine Cw.def (F := topF 59 389) (xs := [Str.ofString "packet"]) (hK.fn 59 389 (by decide +kernel)) (Binds.of1 fun _ _ _ _ _ => by kernel_rfl) (by kernel_rfl) rfl fun c E => ?_
  show Wb c E [(Str.ofString "packet", .ref P)] l (_ :: _) _
  have hl := pk.tup_len
  with_reducible apply Wb.ret
  · with_reducible apply Ev.item_t (j := pk.tup.length - 2)
    · walk_at "ev"
    · walk_at "ev"
    · exact hm
    · rw [show ((pk.tup.length : Nat) : Int) - 2 = ((pk.tup.length - 2 : Nat) : Int) by omega]
      exact seqIndex_of (by omega) (by omega)
    · exact pk.tup_number
    · omega
    · rfl
  · exact ⟨rfl, rfl⟩
theorem put_packet_C {w : World} {K : Frag} (hK : KOk K) (pk : Pk) (P : Addr) (la : AV) (key : List Int) (sz : Int) (l : AL) (ok : pk.Ok) (hm : (P, AO.tup pk.tup) ∈ l) (hla : LaOk pk.num la sz) : Cw w K 396 5 true [.ref P, la, .bytes key] l (Is (.bytes (packetBytes key pk sz)) l) := by
  refine Cw.def (F := topF 60 396) (xs := [Str.ofString "packet", Str.ofString "largest_acked", Str.ofString "key"]) (hK.fn 60 396 (by decide +kernel)) (Binds.of3 fun _ _ _ _ _ _ _ => by kernel_rfl) (by kernel_rfl) rfl fun c E => ?_
  show Wb c E [(Str.ofString "packet", .ref P), (Str.ofString "largest_acked", la), (Str.ofString "key", .bytes key)] l (_ :: _ :: _ :: _ :: _) _
  have hl := pk.tup_len
  have hr := hla.range
  have hpl := ok.pl
  have hc := cutOf_length pk.num (sz := sz) (by omega)
  have C2 := cut_number_C (w := w) hK pk.num la sz l hla
  generalize hcut : cutOf pk.num sz = cut at hc C2
  subst hc
  have hp := padded_length pk.pay (cut.length : Nat)
  have C1 := number_in_C (w := w) hK pk P l hm
  have C3 := padded_C (w := w) hK pk.pay (cut.length : Nat) l (by omega) (by omega) (by omega)
  generalize hpad : padded pk.pay (cut.length : Nat) = pay at hp C3
  have hb := headBytes_length pk ok (cut.length : Nat) ((cut.length : Nat) + (pay.length : Nat) + 16)
  have C4 := head_of_C (w := w) hK pk P (cut.length : Nat) pay l ok hm (by omega) (by omega) (by omega)
  generalize hhead : headBytes pk (cut.length : Nat) ((cut.length : Nat) + (pay.length : Nat) + 16) = head at hb C4
  have C5 := protected_C (w := w) hK key pk.num head cut pay l (by omega) (by omega) (by omega) (by omega) (by omega) (by omega)
  walk_at "as"
  walk_at "as"
  with_reducible apply Wb.assign (v := .bytes pay)
  · with_reducible apply Ev.fnA
    · assumption
    · kernel_rfl
    · rfl
    · kernel_rfl
    · with_reducible apply Evs.cons
      · with_reducible apply Ev.item_t (j := pk.tup.length - 1)
        · walk_at "ev"
        · walk_at "ev"
        · exact hm
        · rw [show ((pk.tup.length : Nat) : Int) - 1 = ((pk.tup.length - 1 : Nat) : Int) by omega]
          exact seqIndex_of (by omega) (by omega)
        · exact pk.tup_payload
        · omega
        · rfl
      · walk_at "evs"
      · exact rfl
    · walk_at "con"
    · kernel_rfl
  · kernel_rfl
  with_reducible apply Wb.ret
  · walk_at "ev"
  · refine ⟨?_, rfl⟩
    unfold packetBytes headOf
    rw [hcut, hpad, hhead]
theorem packet_size_C {w : World} {K : Frag} (hK : KOk K) (pk : Pk) (P : Addr) (la : AV) (key : List Int) (sz : Int) (l : AL) (ok : pk.Ok) (hm : (P, AO.tup pk.tup) ∈ l) (hla : LaOk pk.num la sz) : Cw w K 403 5 true [.ref P, la] l (Is (.int ((headOf pk sz).length + sz + (padded pk.pay sz).length + 16)) l) := by
  refine Cw.def (F := topF 61 403) (xs := [Str.ofString "packet", Str.ofString "largest_acked"]) (hK.fn 61 403 (by decide +kernel)) (Binds.of2 fun _ _ _ _ _ _ => by kernel_rfl) (by kernel_rfl) rfl fun c E => ?_
  show Wb c E [(Str.ofString "packet", .ref P), (Str.ofString "largest_acked", la)] l (_ :: _ :: _ :: _) _
  have hl := pk.tup_len
  have hr := hla.range
  have hpl := ok.pl
  have hc := cutOf_length pk.num (sz := sz) (by omega)
  have C2 := cut_number_C (w := w) hK pk.num la sz l hla
  generalize hcut : cutOf pk.num sz = cut at hc C2
  subst hc
  have hp := padded_length pk.pay (cut.length : Nat)
  have C1 := number_in_C (w := w) hK pk P l hm
  have C3 := padded_C (w := w) hK pk.pay (cut.length : Nat) l (by omega) (by omega) (by omega)
  generalize hpad : padded pk.pay (cut.length : Nat) = pay at hp C3
  have hb := headBytes_length pk ok (cut.length : Nat) ((cut.length : Nat) + (pay.length : Nat) + 16)
  have C4 := head_of_C (w := w) hK pk P (cut.length : Nat) pay l ok hm (by omega) (by omega) (by omega)
  generalize hhead : headBytes pk (cut.length : Nat) ((cut.length : Nat) + (pay.length : Nat) + 16) = head at hb C4
  walk_at "as"
  with_reducible apply Wb.assign (v := .bytes pay)
  · with_reducible apply Ev.fnA
    · assumption
    · kernel_rfl
    · rfl
    · kernel_rfl
    · with_reducible apply Evs.cons
      · with_reducible apply Ev.item_t (j := pk.tup.length - 1)
        · walk_at "ev"
        · walk_at "ev"
        · exact hm
        · rw [show ((pk.tup.length : Nat) : Int) - 1 = ((pk.tup.length - 1 : Nat) : Int) by omega]
          exact seqIndex_of (by omega) (by omega)
        · exact pk.tup_payload
        · omega
        · rfl
      · walk_at "evs"
      · exact rfl
    · walk_at "con"
    · kernel_rfl
  · kernel_rfl
  with_reducible apply Wb.ret
  · walk_at "ev"
  · refine ⟨?_, rfl⟩
    unfold headOf
    rw [hpad, hhead]

theorem keeps_mth {K : Frag} (H : KOk K) {f : Addr} (h : mthTab.any (fun p => p.2.2 == f) = true) : Keeps K (.ref f) := by
  (refine El.eaxx (List.any_eq_true.mp h) fun zz1 hm e => ?_; obtain ⟨C, x, f'⟩ := zz1)
  rw [beq_iff_eq] at e
  exact keeps_of (e ▸ (H.mths _ hm).2.2)
noncomputable abbrev rdr (ks : List Int) (a : Int) : AO := .inst 162 [(Str.ofString "data", .bytes ks), (Str.ofString "at", .int a)]
theorem reader_make {w : World} {K : Frag} (hK : KOk K) {F : Fn} {n : Nat} {b : Bool} {c : Cx w K F n b} {E : Value → Shared → Prop} {m : AM} {l : AL} (ks : List Int) (hn : 2 ≤ n) : Bw c E m (.ref 162) [.bytes ks] l (New (rdr ks 0) l) := by
  refine Bw.make hK (F' := methF (Str.ofString "Reader.__init__") 14 0 124) (xs := [Str.ofString "self", Str.ofString "data"]) (d := 0) (by decide +kernel) (hK.meths (Str.ofString "Reader.__init__", 14, 0, 124) (by decide +kernel)) (Binds.of2 fun _ _ _ _ _ _ => by kernel_rfl) (by kernel_rfl) rfl hn ?_
  intro I c E
  show Wb c E [(Str.ofString "self", .ref I), (Str.ofString "data", .bytes ks)] ((I, .inst 162 []) :: l) (_ :: _) _
  with_reducible apply Wb.setattr
  · assumption
  · walk_at "ev"
  · walk_at "ev"
  · exact Mine.Upd.head
  · kernel_rfl
  · rfl
  with_reducible apply Wb.setattr
  · assumption
  · walk_at "ev"
  · walk_at "ev"
  · exact Mine.Upd.head
  · kernel_rfl
  · rfl
  exact Wb.nil ⟨trivial, I, rfl, rfl⟩
theorem left_C {w : World} {K : Frag} (hK : KOk K) (I : Addr) (ks : List Int) (a : Int) (l : AL) (hl : ks.length ≤ 10000) : Cw w K 131 1 false [.ref I] ((I, rdr ks a) :: l) (Is (.int (ks.length - a)) ((I, rdr ks a) :: l)) := by
  refine Cw.def (F := methF (Str.ofString "Reader.left") 14 1 131) (xs := [Str.ofString "self"]) (hK.meths (Str.ofString "Reader.left", 14, 1, 131) (by decide +kernel)) (Binds.of1 fun _ _ _ _ _ => by kernel_rfl) (by kernel_rfl) rfl fun c E => ?_
  show Wb c E [(Str.ofString "self", .ref I)] ((I, rdr ks a) :: l) (_ :: _) _
  with_reducible apply Wb.ret
  · walk_at "ev"
  · exact ⟨rfl, rfl⟩
theorem take_C {w : World} {K : Frag} (hK : KOk K) (I : Addr) (ks : List Int) (a k : Int) (l : AL) (hl : ks.length ≤ 10000) (h0 : 0 ≤ a) (h1 : 0 ≤ k) (h2 : a + k ≤ ks.length) : Cw w K 138 2 false [.ref I, .int k] ((I, rdr ks a) :: l) (Is (.bytes ((ks.drop a.toNat).take k.toNat)) ((I, rdr ks (a + k)) :: l)) := by
  refine Cw.def (F := methF (Str.ofString "Reader.take") 14 2 138) (xs := [Str.ofString "self", Str.ofString "many"]) (hK.meths (Str.ofString "Reader.take", 14, 2, 138) (by decide +kernel)) (Binds.of2 fun _ _ _ _ _ _ => by kernel_rfl) (by kernel_rfl) rfl fun c E => ?_
  show Wb c E [(Str.ofString "self", .ref I), (Str.ofString "many", .int k)] ((I, rdr ks a) :: l) (_ :: _ :: _ :: _) _
  with_reducible apply Wb.if_no
  · with_reducible apply Te.cmp
    · walk_at "ev"
    · with_reducible apply Ex.v
      with_reducible apply Ex.meth0
      · walk_at "ev"
      · exact Mt.inst hK 131 (.head _) (by kernel_rfl) rfl
      · exact keeps_mth hK (by kernel_rfl)
      · exact (left_C hK I ks a l hl).toB (by decide) (fun h => nomatch h)
      · rfl
    · walk_at "cop"
    · with_unfolding_all rfl
  · omega
  with_reducible apply Wb.addattr
  · assumption
  · walk_at "ev"
  · walk_at "mem"
  · rfl
  · walk_at "ev"
  · exact Mine.Upd.head
  · kernel_rfl
  · rfl
  show Wb c E _ ((I, rdr ks (a + k)) :: l) _ _
  with_reducible apply Wb.ret
  · walk_at "ev"
  · rw [show a + k - k = a by omega, show (a + k - a).toNat = k.toNat by omega]
    exact ⟨rfl, rfl⟩
theorem whole_C {w : World} {K : Frag} (hK : KOk K) (I : Addr) (ks : List Int) (a k : Int) (l : AL) (hl : ks.length ≤ 10000) (h0 : 0 ≤ a) (h1 : 0 ≤ k) (h2 : a + k ≤ ks.length) : Cw w K 152 2 false [.ref I, .int k] ((I, rdr ks a) :: l) (Is (.int (val ((ks.drop a.toNat).take k.toNat))) ((I, rdr ks (a + k)) :: l)) := by
  refine Cw.def (F := methF (Str.ofString "Reader.whole") 14 4 152) (xs := [Str.ofString "self", Str.ofString "size"]) (hK.meths (Str.ofString "Reader.whole", 14, 4, 152) (by decide +kernel)) (Binds.of2 fun _ _ _ _ _ _ => by kernel_rfl) (by kernel_rfl) rfl fun c E => ?_
  show Wb c E [(Str.ofString "self", .ref I), (Str.ofString "size", .int k)] ((I, rdr ks a) :: l) (_ :: _ :: _ :: _) _
  have C1 := get_whole_C (w := w) hK ks a k ((I, rdr ks a) :: l) h0 h1 h2 hl
  walk_at "as"
  with_reducible apply Wb.addattr
  · assumption
  · walk_at "ev"
  · walk_at "mem"
  · rfl
  · walk_at "ev"
  · exact Mine.Upd.head
  · kernel_rfl
  · rfl
  show Wb c E _ ((I, rdr ks (a + k)) :: l) _ _
  with_reducible apply Wb.ret
  · walk_at "ev"
  · exact ⟨rfl, rfl⟩
theorem varint_C {w : World} {K : Frag} (hK : KOk K) (I : Addr) (ks : List Int) (a v : Int) (l : AL) (hl : ks.length ≤ 10000) (h0 : 0 ≤ a) (h1 : a < ks.length) (hv : ks.getD a.toNat 0 = v) (v0 : 0 ≤ v) (v1 : v < 64) : Cw w K 159 3 false [.ref I] ((I, rdr ks a) :: l) (Is (.int v) ((I, rdr ks (a + 1)) :: l)) := by
  refine Cw.def (F := methF (Str.ofString "Reader.varint") 14 5 159) (xs := [Str.ofString "self"]) (hK.meths (Str.ofString "Reader.varint", 14, 5, 159) (by decide +kernel)) (Binds.of1 fun _ _ _ _ _ => by kernel_rfl) (by kernel_rfl) rfl fun c E => ?_
  show Wb c E [(Str.ofString "self", .ref I)] ((I, rdr ks a) :: l) (_ :: _ :: _) _
  have C1 := get_varint_C (w := w) hK ks a v ((I, rdr ks a) :: l) h0 h1 hl hv v0 v1
  with_reducible apply Wb.unpack
  · with_reducible apply Ex.fnA
    · assumption
    · kernel_rfl
    · rfl
    · kernel_rfl
    · walk_at "evs"
    · exact C1
    · rfl
  · kernel_rfl
  · rfl
  · (intro zr1 zr2 zr3; refine El.eaxx (zr3) fun D zz1 zz2 => ?_; try clear zr3; (first | subst zz1 | cases zz1); (first | subst zz2 | cases zz2))
    refine ⟨D, _, _, _, rfl, .head _, rfl, Asgs.name (by kernel_rfl) (Asgs.attr hK (I := I) (by walk_at "ev") (.tail .head) (by kernel_rfl) rfl Asgs.nil), ?_⟩
    refine Wb.pick (t := (I, rdr ks (a + 1)) :: l) ?_ (.skip .refl)
    with_reducible apply Wb.ret
    · walk_at "ev"
    · exact ⟨rfl, rfl⟩

theorem keeps_cls {K : Frag} (H : KOk K) {C : Addr} (h : clsTab.any (fun p => p.1 == C) = true) : Keeps K (.ref C) := by
  (refine El.ex (cls_any h) fun fi hm => ?_)
  exact keeps_of (H.cls _ hm).keep
section
variable {w : World} {K : Frag} {F : Fn} {n : Nat} {b : Bool} {c : Cx w K F n b} {E : Value → Shared → Prop} {m : AM} {l : AL}
theorem Ex.mth (H : KOk K) {o : PySem.Expr} {name : Str} {apos pos cpos : Pos} {e0 : PySem.Expr} {es : List PySem.Expr} {I C f : Addr} {fs : List (Str × AV)} {d : Nat} {b2 : Bool} {RA : List AV → AL → Prop} {R : AV → AL → Prop} {pl : Sem Bool} (ho : Ev c E m l o (.ref I)) (hm : (I, AO.inst C fs) ∈ l) (hx : fs.lookup name = none)
    (ha : Exs c E m l (e0 :: es) RA) (C0 : ∀ vs l', RA vs l' → Cw w K f d b2 (.ref I :: vs) l' R) (hC : ((clsTab.any (fun p => p.1 == C) && mthTab.contains (C, name, f)) && (noStar (e0 :: es) && (decide (d ≤ n) && (!b2 || b)))) = true)
    (he : eval (.Call (.Attribute o name apos) (e0 :: es) [] pos) c.env = (do
      let ov ← eval o c.env
      standAt apos.atName
      let (f, first) ← holding [ov] (getMethod ov name pl)
      callWith cpos f first (backTo pos (starEach (e0 :: es) c.env)) [])) : Ex c E m l (.Call (.Attribute o name apos) (e0 :: es) [] pos) R := by
  have h1 := (Bool.and_eq_true _ _ ▸ hC).1
  have h2 := (Bool.and_eq_true _ _ ▸ hC).2
  simp only [Bool.and_eq_true, decide_eq_true_eq, Bool.or_eq_true, Bool.not_eq_true'] at h2
  have h3 := h1
  simp only [Bool.and_eq_true, List.contains_iff_mem] at h3
  exact Ex.meth ho (Mt.inst H f hm h1 hx) (keeps_of (H.mths _ h3.2).2.2) ha (fun vs l' hR => (C0 vs l' hR).toB h2.2.1 (fun q => h2.2.2.elim (fun z => by rw [q] at z; cases z) id)) h2.1 he
theorem Ex.mth0 (H : KOk K) {o : PySem.Expr} {name : Str} {apos pos cpos : Pos} {I C f : Addr} {fs : List (Str × AV)} {d : Nat} {b2 : Bool} {R : AV → AL → Prop} {pl : Sem Bool} (ho : Ev c E m l o (.ref I)) (hm : (I, AO.inst C fs) ∈ l) (hx : fs.lookup name = none)
    (C0 : Cw w K f d b2 [.ref I] l R) (hC : ((clsTab.any (fun p => p.1 == C) && mthTab.contains (C, name, f)) && (decide (d ≤ n) && (!b2 || b))) = true)
    (he : eval (.Call (.Attribute o name apos) [] [] pos) c.env = (do
      let ov ← eval o c.env
      standAt apos.atName
      let (f, first) ← holding [ov] (getMethod ov name pl)
      callWith cpos f first (backTo pos (starEach [] c.env)) [])) : Ex c E m l (.Call (.Attribute o name apos) [] [] pos) R := by
  have h1 := (Bool.and_eq_true _ _ ▸ hC).1
  have h2 := (Bool.and_eq_true _ _ ▸ hC).2
  simp only [Bool.and_eq_true, decide_eq_true_eq, Bool.or_eq_true, Bool.not_eq_true'] at h2
  have h3 := h1
  simp only [Bool.and_eq_true, List.contains_iff_mem] at h3
  exact Ex.meth0 ho (Mt.inst H f hm h1 hx) (keeps_of (H.mths _ h3.2).2.2) (C0.toB h2.1 (fun q => h2.2.elim (fun z => by rw [q] at z; cases z) id)) he
theorem Wb.setattrX (H : KOk K) {o value : PySem.Expr} {x : Str} {pos' pos : Pos} {rest : List Stmt} {R : AV → AL → Prop} {P : Fl → AM → AL → Prop} (hv : Ex c E m l value R) (hc : isComp value = false)
    (k : ∀ v l1, R v l1 → ∃ I C fs l', Ev c E m l1 o (.ref I) ∧ Mine.Upd I (.inst C fs) (.inst C (putF x v fs)) l1 l' ∧ (clsTab.any (fun p => p.1 == C) && attrTab.contains (C, x)) = true ∧ Nat.ble fs.length 100 = true ∧ Wb c E m l' rest P) : Wb c E m l (.Assign [.Attribute o x pos'] value pos :: rest) P := Wb.cons fun Q h tk S kk => by
  refine G_Assign_Attribute (A := c.A) (hv _ h tk S fun h' tk' u v l1 hR S' r => ?_) (swaps_plain hc)
  (refine El.eeeeaxaxaxaxx (k v l1 hR) fun I C fs l' ho U hC hz hk => ?_)
  simp only [Bool.and_eq_true, List.contains_iff_mem] at hC
  (refine El.ex (cls_any hC.1) fun fi hfi => ?_)
  refine G_assign_Attribute c.hΓ (ho _ h' tk' S' fun h2 tk2 u' S2 r' => ?_)
  cases r'
  exact G_any c.hΓ (S2.setattr H U hfi hC.2 r (Nat.le_of_ble_eq_true hz) fun h3 tk3 S3 => kk .next .next _ _ h3 tk3 hk S3 rfl)
end
noncomputable abbrev rawO (kind : Str) (f ver : Int) (d sc tok : List Int) (V : Addr) (st na en : Int) : AO := .inst 184 [(Str.ofString "kind", .str kind), (Str.ofString "first", .int f), (Str.ofString "version", .int ver), (Str.ofString "dcid", .bytes d), (Str.ofString "scid", .bytes sc), (Str.ofString "token", .bytes tok), (Str.ofString "tag", .bytes []), (Str.ofString "versions", .ref V), (Str.ofString "start", .int st), (Str.ofString "number_at", .int na), (Str.ofString "end", .int en)]
noncomputable def NewRaw (kind : Str) (f ver : Int) (d sc tok : List Int) (st na en : Int) (l : AL) : AV → AL → Prop := fun v l' => ∃ I V, v = .ref I ∧ l' = (I, rawO kind f ver d sc tok V st na en) :: l
theorem raw_make {w : World} {K : Frag} (hK : KOk K) {F : Fn} {n : Nat} {b : Bool} {c : Cx w K F n b} {E : Value → Shared → Prop} {m : AM} {l : AL} (kind : Str) (f : Int) (d : List Int) (st : Int) (hn : 2 ≤ n) : Bw c E m (.ref 184) [.str kind, .int f, .bytes d, .int st] l (NewRaw kind f 0 d [] [] st st st l) := by
  refine Bw.make hK (F' := methF (Str.ofString "RawPacket.__init__") 21 0 181) (xs := [Str.ofString "self", Str.ofString "kind", Str.ofString "first", Str.ofString "dcid", Str.ofString "start"]) (d := 0) (by decide +kernel) (hK.meths (Str.ofString "RawPacket.__init__", 21, 0, 181) (by decide +kernel)) (Binds.of5 fun _ _ _ _ _ _ _ _ _ => by kernel_rfl) (by kernel_rfl) rfl hn ?_
  intro I c E
  show Wb c E [(Str.ofString "self", .ref I), (Str.ofString "kind", .str kind), (Str.ofString "first", .int f), (Str.ofString "dcid", .bytes d), (Str.ofString "start", .int st)] ((I, .inst 184 []) :: l) (_ :: _) _
  iterate 7
    with_reducible apply Wb.setattr
    · assumption
    · walk_at "ev"
    · walk_at "ev"
    · exact Mine.Upd.head
    · kernel_rfl
    · kernel_rfl
  refine Wb.setattrX hK (Ex.list Evs.nil (by decide)) rfl ?_
  (intro zr1 zr2 zr3; refine El.eaxx (zr3) fun V zz1 zz2 => ?_; try clear zr3; (first | subst zz1 | cases zz1); (first | subst zz2 | cases zz2))
  refine ⟨I, 184, _, _, by walk_at "ev", .tail .head, by kernel_rfl, by kernel_rfl, ?_⟩
  refine Wb.pick ?_ (.skip .refl)
  iterate 3
    with_reducible apply Wb.setattr
    · assumption
    · walk_at "ev"
    · walk_at "ev"
    · exact Mine.Upd.head
    · kernel_rfl
    · kernel_rfl
  exact Wb.nil ⟨trivial, I, V, rfl, by kernel_rfl⟩

theorem read_inv_C {w : World} {K : Frag} (hK : KOk K) (ks : List Int) (start f dl sl : Int) (l : AL) (h0 : 0 ≤ start) (hl : ks.length ≤ 10000) (e1 : val ((ks.drop start.toNat).take (1 : Int).toNat) = f) (e2 : val ((ks.drop (start + 1).toNat).take (4 : Int).toNat) = 1) (e3 : val ((ks.drop (start + 1 + 4).toNat).take (1 : Int).toNat) = dl) (e4 : val ((ks.drop (start + 1 + 4 + 1 + dl).toNat).take (1 : Int).toNat) = sl) (d0 : 0 ≤ dl) (s0 : 0 ≤ sl) (hend : start + 1 + 4 + 1 + dl + 1 + sl ≤ ks.length) :
    Cw w K 216 4 false [.bytes ks, .int start] l (New (.tup [.int f, .int 1, .bytes ((ks.drop (start + 1 + 4 + 1).toNat).take dl.toNat), .bytes ((ks.drop (start + 1 + 4 + 1 + dl + 1).toNat).take sl.toNat), .int (start + 1 + 4 + 1 + dl + 1 + sl)]) l) := by
  refine Cw.def (F := topF 25 216) (xs := [Str.ofString "data", Str.ofString "start"]) (hK.fn 25 216 (by decide +kernel)) (Binds.of2 fun _ _ _ _ _ _ => by kernel_rfl) (by kernel_rfl) rfl fun c E => ?_
  show Wb c E [(Str.ofString "data", .bytes ks), (Str.ofString "start", .int start)] l (_ :: _ :: _ :: _ :: _) _
  refine Wb.assignX (Ex.callE (by walk_at "ev") (keeps_cls hK (by decide +kernel)) (by walk_at "evs") (reader_make hK ks (by decide)) rfl) (by kernel_rfl) ?_
  (intro zr1 zr2 zr3; refine El.eaxx (zr3) fun I zz1 zz2 => ?_; try clear zr3; (first | subst zz1 | cases zz1); (first | subst zz2 | cases zz2))
  with_reducible apply Wb.setattr
  · assumption
  · walk_at "ev"
  · walk_at "ev"
  · exact Mine.Upd.head
  · kernel_rfl
  · rfl
  show Wb c E _ ((I, rdr ks start) :: l) _ _
  refine Wb.swap (xs := [Str.ofString "first", Str.ofString "version"]) (RL := fun vs l0 => vs = [.int f, .int 1] ∧ l0 = (I, rdr ks (start + 1 + 4)) :: l) ?_ (fun vs l0 h => by (refine El.axx (h) fun zz1 zz2 => ?_; try clear h; (first | subst zz1 | cases zz1); (first | subst zz2 | cases zz2)); rfl) (by kernel_rfl) rfl ?_
  · with_reducible apply Exs.cons
    · with_reducible apply Ex.mth
      · assumption
      · walk_at "ev"
      · exact .head _
      · rfl
      · exact Evs.x (by walk_at "evs")
      · (intro zr1 zr2 zr3; refine El.axx (zr3) fun zz1 zz2 => ?_; try clear zr3; (first | subst zz1 | cases zz1); (first | subst zz2 | cases zz2))
        exact whole_C hK I ks start 1 l hl h0 (by decide) (by omega)
      · kernel_rfl
      · rfl
    · (intro zr1 zr2 zr3; refine El.axx (zr3) fun zz1 zz2 => ?_; try clear zr3; (first | subst zz1 | cases zz1); (first | subst zz2 | cases zz2))
      with_reducible apply Exs.cons
      · with_reducible apply Ex.mth
        · assumption
        · walk_at "ev"
        · exact .head _
        · rfl
        · exact Evs.x (by walk_at "evs")
        · (intro zr1 zr2 zr3; refine El.axx (zr3) fun zz1 zz2 => ?_; try clear zr3; (first | subst zz1 | cases zz1); (first | subst zz2 | cases zz2))
          exact whole_C hK I ks (start + 1) 4 l hl (by omega) (by decide) (by omega)
        · kernel_rfl
        · rfl
      · (intro zr1 zr2 zr3; refine El.axx (zr3) fun zz1 zz2 => ?_; try clear zr3; (first | subst zz1 | cases zz1); (first | subst zz2 | cases zz2))
        exact Exs.done ⟨by rw [e1, e2], rfl⟩
      · rfl
    · rfl
  (intro zr1 zr2 zr3; refine El.axx (zr3) fun zz1 zz2 => ?_; try clear zr3; (first | subst zz1 | cases zz1); (first | subst zz2 | cases zz2))
  with_reducible apply Wb.assignX
  · with_reducible apply Ex.mth
    · assumption
    · walk_at "ev"
    · exact .head _
    · rfl
    · with_reducible apply Exs.one
      · with_reducible apply Ex.mth
        · assumption
        · walk_at "ev"
        · exact .head _
        · rfl
        · exact Evs.x (by walk_at "evs")
        · (intro zr1 zr2 zr3; refine El.axx (zr3) fun zz1 zz2 => ?_; try clear zr3; (first | subst zz1 | cases zz1); (first | subst zz2 | cases zz2))
          exact whole_C hK I ks (start + 1 + 4) 1 l hl (by omega) (by decide) (by omega)
        · kernel_rfl
        · rfl
      · rfl
    · (intro zr1 zr2 zr3; refine El.eaxaxx (zr3) fun zz1 zz2 zz3 zz4 => ?_; try clear zr3; (first | subst zz2 | cases zz2); (first | subst zz3 | cases zz3); (first | subst zz4 | cases zz4))
      rw [e3]
      exact take_C hK I ks (start + 1 + 4 + 1) dl l hl (by omega) d0 (by omega)
    · kernel_rfl
    · rfl
  · kernel_rfl
  (intro zr1 zr2 zr3; refine El.axx (zr3) fun zz1 zz2 => ?_; try clear zr3; (first | subst zz1 | cases zz1); (first | subst zz2 | cases zz2))
  with_reducible apply Wb.assignX
  · with_reducible apply Ex.mth
    · assumption
    · walk_at "ev"
    · exact .head _
    · rfl
    · with_reducible apply Exs.one
      · with_reducible apply Ex.mth
        · assumption
        · walk_at "ev"
        · exact .head _
        · rfl
        · exact Evs.x (by walk_at "evs")
        · (intro zr1 zr2 zr3; refine El.axx (zr3) fun zz1 zz2 => ?_; try clear zr3; (first | subst zz1 | cases zz1); (first | subst zz2 | cases zz2))
          exact whole_C hK I ks (start + 1 + 4 + 1 + dl) 1 l hl (by omega) (by decide) (by omega)
        · kernel_rfl
        · rfl
      · rfl
    · (intro zr1 zr2 zr3; refine El.eaxaxx (zr3) fun zz1 zz2 zz3 zz4 => ?_; try clear zr3; (first | subst zz2 | cases zz2); (first | subst zz3 | cases zz3); (first | subst zz4 | cases zz4))
      rw [e4]
      exact take_C hK I ks (start + 1 + 4 + 1 + dl + 1) sl l hl (by omega) s0 (by omega)
    · kernel_rfl
    · rfl
  · kernel_rfl
  (intro zr1 zr2 zr3; refine El.axx (zr3) fun zz1 zz2 => ?_; try clear zr3; (first | subst zz1 | cases zz1); (first | subst zz2 | cases zz2))
  refine Wb.retQ (Ex.tup (by walk_at "evs") (Nat.le_of_ble_eq_true rfl)) ?_
  (intro zr1 zr2 zr3; refine El.eaxx (zr3) fun D zz1 zz2 => ?_; try clear zr3; (first | subst zz1 | cases zz1); (first | subst zz2 | cases zz2))
  exact ⟨_, .cons .head (.skip .refl), D, rfl, rfl⟩
theorem read_short_C {w : World} {K : Frag} (hK : KOk K) (ks : List Int) (start cs f : Int) (l : AL) (h0 : 0 ≤ start) (h1 : 0 ≤ cs) (h2 : start + 1 + cs ≤ ks.length) (hl : ks.length ≤ 10000) (hf : ks.getD start.toNat 0 = f) (hx : f.fdiv 64 = 1) :
    Cw w K 251 3 false [.bytes ks, .int start, .int cs] l (NewRaw (Str.ofString "short") f 1 ((ks.drop (start + 1).toNat).take cs.toNat) [] [] start (start + 1 + cs) ks.length l) := by
  refine Cw.def (F := topF 30 251) (xs := [Str.ofString "data", Str.ofString "start", Str.ofString "cid_size"]) (hK.fn 30 251 (by decide +kernel)) (Binds.of3 fun _ _ _ _ _ _ _ => by kernel_rfl) (by kernel_rfl) rfl fun c E => ?_
  show Wb c E [(Str.ofString "data", .bytes ks), (Str.ofString "start", .int start), (Str.ofString "cid_size", .int cs)] l (_ :: _ :: _ :: _ :: _ :: _) _
  walk_at "as"
  rw [hf]
  with_reducible apply Wb.if_no
  · walk_at "te"
  · rw [hx]
    rintro (h | h | h)
    · exact absurd h (by decide)
    · omega
    · exact h
  refine Wb.assignX (Ex.callE (by walk_at "ev") (keeps_cls hK (by decide +kernel)) (by walk_at "evs") (raw_make hK _ _ _ _ (by decide)) rfl) (by kernel_rfl) ?_
  (intro zr1 zr2 zr3; refine El.eeaxx (zr3) fun I V zz1 zz2 => ?_; try clear zr3; (first | subst zz1 | cases zz1); (first | subst zz2 | cases zz2))
  rw [show start + 1 + cs - (start + 1) = cs by omega]
  with_reducible apply Wb.setattr
  · assumption
  · walk_at "ev"
  · walk_at "ev"
  · exact Mine.Upd.head
  · kernel_rfl
  · kernel_rfl
  with_reducible apply Wb.unpack
  · with_reducible apply Ex.tup
    · walk_at "evs"
    · exact Nat.le_of_ble_eq_true rfl
  · kernel_rfl
  · rfl
  · (intro zr1 zr2 zr3; refine El.eaxx (zr3) fun D zz1 zz2 => ?_; try clear zr3; (first | subst zz1 | cases zz1); (first | subst zz2 | cases zz2))
    refine ⟨D, _, _, _, rfl, .head _, rfl, Asgs.attr hK (I := I) (by walk_at "ev") (.tail .head) (by kernel_rfl) (by kernel_rfl) (Asgs.attr hK (I := I) (by walk_at "ev") (.tail .head) (by kernel_rfl) (by kernel_rfl) Asgs.nil), ?_⟩
    refine Wb.retP (l0 := (I, _) :: l) (by walk_at "ev") (.skip .refl) ⟨I, V, rfl, by kernel_rfl⟩

theorem read_numbered_C {w : World} {K : Frag} (hK : KOk K) (ks : List Int) (at_ : Int) (X : Addr) (kind : Str) (f : Int) (d sc : List Int) (V : Addr) (st na0 en0 A rest : Int) (tok : List Int) (l : AL) (hl : ks.length ≤ 10000) (h0 : 0 ≤ at_) (h1 : at_ < ks.length)
    (hk : (kind = Str.ofString "initial" ∧ ∃ tl, ks.getD at_.toNat 0 = tl ∧ 0 ≤ tl ∧ tl < 64 ∧ A = at_ + 1 + tl ∧ tok = (ks.drop (at_ + 1).toNat).take tl.toNat) ∨ (kind ≠ Str.ofString "initial" ∧ A = at_ ∧ tok = []))
    (e6 : ks.getD A.toNat 0 = rest) (r0 : 0 ≤ rest) (r1 : rest < 64) (hend : A + 1 + rest ≤ ks.length) :
    Cw w K 244 4 false [.bytes ks, .int at_, .ref X] ((X, rawO kind f 1 d sc [] V st na0 en0) :: l) (Is (.ref X) ((X, rawO kind f 1 d sc tok V st (A + 1) (A + 1 + rest)) :: l)) := by
  refine Cw.def (F := topF 29 244) (xs := [Str.ofString "data", Str.ofString "at", Str.ofString "raw"]) (hK.fn 29 244 (by decide +kernel)) (Binds.of3 fun _ _ _ _ _ _ _ => by kernel_rfl) (by kernel_rfl) rfl fun c E => ?_
  show Wb c E [(Str.ofString "data", .bytes ks), (Str.ofString "at", .int at_), (Str.ofString "raw", .ref X)] ((X, rawO kind f 1 d sc [] V st na0 en0) :: l) (_ :: _ :: _ :: _ :: _ :: _) _
  refine Wb.assignX (Ex.callE (by walk_at "ev") (keeps_cls hK (by decide +kernel)) (by walk_at "evs") (reader_make hK ks (by decide)) rfl) (by kernel_rfl) ?_
  (intro zr1 zr2 zr3; refine El.eaxx (zr3) fun I zz1 zz2 => ?_; try clear zr3; (first | subst zz1 | cases zz1); (first | subst zz2 | cases zz2))
  with_reducible apply Wb.setattr
  · assumption
  · walk_at "ev"
  · walk_at "ev"
  · exact Mine.Upd.head
  · kernel_rfl
  · rfl
  show Wb c E _ ((I, rdr ks at_) :: (X, rawO kind f 1 d sc [] V st na0 en0) :: l) _ _
  have hA : 0 ≤ A ∧ A < ks.length := by rcases hk with ⟨_, tl, _, a, b, rfl, _⟩ | ⟨_, rfl, _⟩ <;> omega
  refine Wb.try ?_
  refine Wb.meet [(Str.ofString "reader", .ref I), (Str.ofString "raw", .ref X)] ((I, rdr ks A) :: (X, rawO kind f 1 d sc tok V st na0 en0) :: l) (p := kind = Str.ofString "initial") ?_ ?_ ?_ ?_
  · walk_at "te"
  · intro hp
    obtain ⟨_, tl, e5, t0, t1, rfl, rfl⟩ | ⟨hq, _⟩ := hk
    · refine Wb.setattrX hK (R := Is (.bytes ((ks.drop (at_ + 1).toNat).take tl.toNat)) ((I, rdr ks (at_ + 1 + tl)) :: (X, rawO kind f 1 d sc [] V st na0 en0) :: l)) ?_ rfl ?_
      · with_reducible apply Ex.mth
        · assumption
        · walk_at "ev"
        · exact .head _
        · rfl
        · with_reducible apply Exs.one
          · with_reducible apply Ex.mth0
            · assumption
            · walk_at "ev"
            · exact .head _
            · rfl
            · exact varint_C hK I ks at_ tl _ hl h0 h1 e5 t0 t1
            · kernel_rfl
            · rfl
          · rfl
        · (intro zr1 zr2 zr3; refine El.eaxaxx (zr3) fun zz1 zz2 zz3 zz4 => ?_; try clear zr3; (first | subst zz2 | cases zz2); (first | subst zz3 | cases zz3); (first | subst zz4 | cases zz4))
          exact take_C hK I ks (at_ + 1) tl _ hl (by omega) t0 (by omega)
        · kernel_rfl
        · rfl
      · (intro zr1 zr2 zr3; refine El.axx (zr3) fun zz1 zz2 => ?_; try clear zr3; (first | subst zz1 | cases zz1); (first | subst zz2 | cases zz2))
        refine ⟨X, 184, _, _, by walk_at "ev", .tail .head, by kernel_rfl, by kernel_rfl, ?_⟩
        exact Wb.nil ⟨rfl, by walk_at "sub", by kernel_rfl⟩
    · exact absurd hp hq
  · intro hp
    obtain ⟨hq, _⟩ | ⟨_, rfl, rfl⟩ := hk
    · exact absurd hq hp
    · exact ⟨by walk_at "sub", rfl⟩
  with_reducible apply Wb.assignX
  · with_reducible apply Ex.mth0
    · assumption
    · walk_at "ev"
    · exact .head _
    · rfl
    · exact varint_C hK I ks A rest _ hl hA.1 hA.2 e6 r0 r1
    · kernel_rfl
    · rfl
  · kernel_rfl
  (intro zr1 zr2 zr3; refine El.axx (zr3) fun zz1 zz2 => ?_; try clear zr3; (first | subst zz1 | cases zz1); (first | subst zz2 | cases zz2))
  refine Wb.nil ?_
  show Wb c E _ _ _ _
  with_reducible apply Wb.if_no
  · with_reducible apply Te.cmp
    · walk_at "ev"
    · with_reducible apply Ex.v
      with_reducible apply Ex.mth0
      · assumption
      · walk_at "ev"
      · exact .head _
      · rfl
      · exact left_C hK I ks (A + 1) _ hl
      · kernel_rfl
      · rfl
    · walk_at "cop"
    · with_unfolding_all rfl
  · omega
  with_reducible apply Wb.unpack
  · with_reducible apply Ex.tup
    · walk_at "evs"
    · exact Nat.le_of_ble_eq_true rfl
  · kernel_rfl
  · rfl
  · (intro zr1 zr2 zr3; refine El.eaxx (zr3) fun D zz1 zz2 => ?_; try clear zr3; (first | subst zz1 | cases zz1); (first | subst zz2 | cases zz2))
    refine ⟨D, _, _, _, rfl, .head _, rfl, Asgs.attr hK (I := X) (by walk_at "ev") (.tail (.tail .head)) (by kernel_rfl) (by kernel_rfl) (Asgs.attr hK (I := X) (by walk_at "ev") (.tail (.tail .head)) (by kernel_rfl) (by kernel_rfl) Asgs.nil), ?_⟩
    refine Wb.retP (l0 := (X, _) :: l) (by walk_at "ev") (.skip (.skip .refl)) ⟨rfl, by kernel_rfl⟩
theorem read_raw_long_C {w : World} {K : Frag} (hK : KOk K) (ks : List Int) (start cs : Int) (l : AL) (R : AV → AL → Prop) (h0 : 0 ≤ start) (h1 : start < ks.length) (hl : ks.length ≤ 10000) (hf : 128 ≤ ks.getD start.toNat 0) (C : Cw w K 230 6 false [.bytes ks, .int start] l R) :
    Cw w K 258 7 false [.bytes ks, .int start, .int cs] l R := by
  refine Cw.def (F := topF 31 258) (xs := [Str.ofString "data", Str.ofString "start", Str.ofString "cid_size"]) (hK.fn 31 258 (by decide +kernel)) (Binds.of3 fun _ _ _ _ _ _ _ => by kernel_rfl) (by kernel_rfl) rfl fun c E => ?_
  show Wb c E [(Str.ofString "data", .bytes ks), (Str.ofString "start", .int start), (Str.ofString "cid_size", .int cs)] l (_ :: _) _
  with_reducible apply Wb.retX
  · with_reducible apply Ex.ifexp
    · walk_at "te"
    · intro _
      with_reducible apply Ex.fnA
      · assumption
      · kernel_rfl
      · rfl
      · kernel_rfl
      · walk_at "evs"
      · exact C
      · kernel_rfl
    · intro h; omega
  · exact fun _ _ h => h
theorem read_raw_short_C {w : World} {K : Frag} (hK : KOk K) (ks : List Int) (start cs : Int) (l : AL) (R : AV → AL → Prop) (h0 : 0 ≤ start) (h1 : start < ks.length) (hl : ks.length ≤ 10000) (hf : ks.getD start.toNat 0 < 128) (C : Cw w K 251 3 false [.bytes ks, .int start, .int cs] l R) :
    Cw w K 258 7 false [.bytes ks, .int start, .int cs] l R := by
  refine Cw.def (F := topF 31 258) (xs := [Str.ofString "data", Str.ofString "start", Str.ofString "cid_size"]) (hK.fn 31 258 (by decide +kernel)) (Binds.of3 fun _ _ _ _ _ _ _ => by kernel_rfl) (by kernel_rfl) rfl fun c E => ?_
  show Wb c E [(Str.ofString "data", .bytes ks), (Str.ofString "start", .int start), (Str.ofString "cid_size", .int cs)] l (_ :: _) _
  with_reducible apply Wb.retX
  · with_reducible apply Ex.ifexp
    · walk_at "te"
    · intro h; omega
    · intro _
      with_reducible apply Ex.fnA
      · assumption
      · kernel_rfl
      · rfl
      · kernel_rfl
      · walk_at "evs"
      · exact C
      · kernel_rfl
  · exact fun _ _ h => h
theorem read_long_C {w : World} {K : Frag} (hK : KOk K) (ks : List Int) (start f dl sl A rest : Int) (j : Nat) (x : Str) (tok : List Int) (l : AL) (h0 : 0 ≤ start) (hl : ks.length ≤ 10000) (e1 : val ((ks.drop start.toNat).take (1 : Int).toNat) = f) (e2 : val ((ks.drop (start + 1).toNat).take (4 : Int).toNat) = 1) (e3 : val ((ks.drop (start + 1 + 4).toNat).take (1 : Int).toNat) = dl) (e4 : val ((ks.drop (start + 1 + 4 + 1 + dl).toNat).take (1 : Int).toNat) = sl)
    (hk : (x = Str.ofString "initial" ∧ ∃ tl, ks.getD (start + 1 + 4 + 1 + dl + 1 + sl).toNat 0 = tl ∧ 0 ≤ tl ∧ tl < 64 ∧ A = (start + 1 + 4 + 1 + dl + 1 + sl) + 1 + tl ∧ tok = (ks.drop ((start + 1 + 4 + 1 + dl + 1 + sl) + 1).toNat).take tl.toNat) ∨ (x ≠ Str.ofString "initial" ∧ A = (start + 1 + 4 + 1 + dl + 1 + sl) ∧ tok = []))
    (e6 : ks.getD A.toNat 0 = rest) (r0 : 0 ≤ rest) (r1 : rest < 64) (d0 : 0 ≤ dl) (d1 : dl ≤ 20) (s0 : 0 ≤ sl) (s1 : sl ≤ 20) (hend : A + 1 + rest ≤ ks.length) (hj : j < 3) (hk16 : (f.fdiv 16).fmod 4 = j) (hf64 : (f.fdiv 64).fmod 2 = 1) (hx : [Str.ofString "initial", Str.ofString "zero", Str.ofString "handshake", Str.ofString "retry"][j]? = some x) :
    Cw w K 230 6 false [.bytes ks, .int start] l (NewRaw x f 1 ((ks.drop (start + 1 + 4 + 1).toNat).take dl.toNat) ((ks.drop (start + 1 + 4 + 1 + dl + 1).toNat).take sl.toNat) tok start (A + 1) (A + 1 + rest) l) := by
  refine Cw.def (F := topF 27 230) (xs := [Str.ofString "data", Str.ofString "start"]) (hK.fn 27 230 (by decide +kernel)) (Binds.of2 fun _ _ _ _ _ _ => by kernel_rfl) (by kernel_rfl) rfl fun c E => ?_
  show Wb c E [(Str.ofString "data", .bytes ks), (Str.ofString "start", .int start)] l (_ :: _ :: _ :: _ :: _ :: _ :: _ :: _) _
  have hA : start + 1 + 4 + 1 + dl + 1 + sl < ks.length := by rcases hk with ⟨_, tl, _, a, b, rfl, _⟩ | ⟨_, rfl, _⟩ <;> omega
  have C1 := read_inv_C (w := w) hK ks start f dl sl l h0 hl e1 e2 e3 e4 d0 s0 (by omega)
  have hdl : ((ks.drop (start + 1 + 4 + 1).toNat).take dl.toNat).length ≤ 20 := by rw [List.length_take]; omega
  have hsl : ((ks.drop (start + 1 + 4 + 1 + dl + 1).toNat).take sl.toNat).length ≤ 20 := by rw [List.length_take]; omega
  generalize (ks.drop (start + 1 + 4 + 1).toNat).take dl.toNat = d at C1 hdl ⊢
  generalize (ks.drop (start + 1 + 4 + 1 + dl + 1).toNat).take sl.toNat = sc at C1 hsl ⊢
  generalize hat : start + 1 + 4 + 1 + dl + 1 + sl = at_ at C1 hA hk
  refine Wb.try ?_
  with_reducible apply Wb.unpack
  · with_reducible apply Ex.fnA
    · assumption
    · kernel_rfl
    · rfl
    · kernel_rfl
    · walk_at "evs"
    · exact C1
    · kernel_rfl
  · kernel_rfl
  · rfl
  · (intro zr1 zr2 zr3; refine El.eaxx (zr3) fun D zz1 zz2 => ?_; try clear zr3; (first | subst zz1 | cases zz1); (first | subst zz2 | cases zz2))
    refine ⟨D, _, _, _, rfl, .head _, rfl, Asgs.name (by kernel_rfl) (Asgs.name (by kernel_rfl) (Asgs.name (by kernel_rfl) (Asgs.name (by kernel_rfl) (Asgs.name (by kernel_rfl) Asgs.nil)))), ?_⟩
    refine Wb.pick (t := l) ?_ (.skip .refl)
    refine Wb.nil ?_
    show Wb c E _ _ _ _
    refine Wb.assignX (Ex.callE (by walk_at "ev") (keeps_cls hK (by decide +kernel)) (by walk_at "evs") (raw_make hK _ _ _ _ (by decide)) rfl) (by kernel_rfl) ?_
    (intro zr1 zr2 zr3; refine El.eeaxx (zr3) fun X V zz1 zz2 => ?_; try clear zr3; (first | subst zz1 | cases zz1); (first | subst zz2 | cases zz2))
    with_reducible apply Wb.unpack
    · with_reducible apply Ex.tup
      · walk_at "evs"
      · exact Nat.le_of_ble_eq_true rfl
    · kernel_rfl
    · rfl
    · (intro zr1 zr2 zr3; refine El.eaxx (zr3) fun D zz1 zz2 => ?_; try clear zr3; (first | subst zz1 | cases zz1); (first | subst zz2 | cases zz2))
      refine ⟨D, _, _, _, rfl, .head _, rfl, Asgs.attr hK (I := X) (by walk_at "ev") (.tail .head) (by kernel_rfl) (by kernel_rfl) (Asgs.attr hK (I := X) (by walk_at "ev") (.tail .head) (by kernel_rfl) (by kernel_rfl) (Asgs.attr hK (I := X) (by walk_at "ev") (.tail .head) (by kernel_rfl) (by kernel_rfl) Asgs.nil)), ?_⟩
      refine Wb.pick (t := (X, _) :: l) ?_ (.skip .refl)
      with_reducible apply Wb.if_no
      · walk_at "te"
      · decide
      with_reducible apply Wb.if_no
      · walk_at "te"
      · decide
      with_reducible apply Wb.if_no
      · walk_at "te"
      · rw [hf64]
        rintro (h | h | h | h)
        · omega
        · omega
        · exact absurd h (by decide)
        · exact h
      with_reducible apply Wb.setattr hK (v := .str x)
      · with_reducible apply Ev.item167
        · assumption
        · walk_at "ev"
        · walk_at "ev"
        · rw [hk16]; omega
        · rw [hk16]
          have e : ([AV.str (Str.ofString "initial"), .str (Str.ofString "zero"), .str (Str.ofString "handshake"), .str (Str.ofString "retry")] : List AV) = [Str.ofString "initial", Str.ofString "zero", Str.ofString "handshake", Str.ofString "retry"].map AV.str := rfl
          rw [e, List.getElem?_map, Int.toNat_natCast, hx]
          rfl
        · rfl
      · walk_at "ev"
      · exact Mine.Upd.head
      · kernel_rfl
      · kernel_rfl
      show Wb c E _ ((X, rawO x f 1 d sc [] V start start ks.length) :: l) _ _
      have hxr : x ≠ Str.ofString "retry" := by
        have : j = 0 ∨ j = 1 ∨ j = 2 := by omega
        rcases this with rfl | rfl | rfl <;> (cases hx; decide)
      with_reducible apply Wb.retX
      · with_reducible apply Ex.ifexp
        · walk_at "te"
        · intro h; exact absurd h hxr
        · intro _
          with_reducible apply Ex.fnA
          · assumption
          · kernel_rfl
          · rfl
          · kernel_rfl
          · walk_at "evs"
          · exact read_numbered_C hK ks at_ X x f d sc V start start ks.length A rest tok l hl (by omega) hA hk e6 r0 r1 hend
          · kernel_rfl
      · (intro zr1 zr2 zr3; refine El.axx (zr3) fun zz1 zz2 => ?_; try clear zr3; (first | subst zz1 | cases zz1); (first | subst zz2 | cases zz2))
        exact ⟨X, V, rfl, rfl⟩

structure Seg where
  kind : Str
  f : Int
  start : Int
  na : Int
  en : Int
  d : List Int
  sc : List Int
  tok : List Int
noncomputable abbrev Seg.raw (g : Seg) (V : Addr) : AO := rawO g.kind g.f 1 g.d g.sc g.tok V g.start g.na g.en
noncomputable def SegAt (w : World) (K : Frag) (ks : List Int) (cs : Int) (g : Seg) : Prop := ∀ l, Cw w K 258 7 false [.bytes ks, .int g.start, .int cs] l (NewRaw g.kind g.f 1 g.d g.sc g.tok g.start g.na g.en l)
inductive RawLs : List Seg → List Addr → AL → Prop
  | nil : RawLs [] [] []
  | cons {g : Seg} {gs : List Seg} {Xs : List Addr} {os : AL} (X V : Addr) : RawLs gs Xs os → RawLs (g :: gs) (X :: Xs) ((X, g.raw V) :: os)
theorem RawLs.snoc {gs : List Seg} {Xs : List Addr} {os : AL} (h : RawLs gs Xs os) (g : Seg) (X V : Addr) : RawLs (gs ++ [g]) (Xs ++ [X]) (os ++ [(X, g.raw V)]) := by
  induction h with
  | nil => exact .cons X V .nil
  | cons X' V' _ ih => exact .cons X' V' ih
theorem RawLs.length {gs : List Seg} {Xs : List Addr} {os : AL} (h : RawLs gs Xs os) : Xs.length = gs.length := by
  induction h with
  | nil => rfl
  | cons _ _ _ ih => simp only [List.length_cons, ih]
noncomputable def Chain : Int → List Seg → Int → Prop
  | a, [], e => a = e
  | a, g :: gs, e => g.start = a ∧ a < g.en ∧ Chain g.en gs e
theorem Chain.le : ∀ {a e : Int} {gs : List Seg}, Chain a gs e → a ≤ e
  | _, _, [], h => Int.le_of_eq h
  | _, _, _ :: _, h => Int.le_trans (Int.le_of_lt h.2.1) h.2.2.le
theorem Chain.len : ∀ {a e : Int} {gs : List Seg}, Chain a gs e → a + gs.length ≤ e
  | _, _, [], h => by have : _ = _ := h; simp; omega
  | _, _, _ :: _, h => by have h1 := h.2.1; have := h.2.2.len; simp only [List.length_cons]; omega
noncomputable def keptOf (d0 : List Int) (gs : List Seg) : List Seg := gs.filter fun g => decide (g.d = d0)
inductive Raws (gs : List Seg) (l : AL) (v : AV) (l' : AL) : Prop
  | mk (D : Addr) (Xs : List Addr) (os : AL) (e : v = .ref D) (el : l' = (D, .list (Xs.map .ref)) :: (os ++ l)) (hR : RawLs gs Xs os) : Raws gs l v l'
inductive SplitJ (ks : List Int) (cs : Int) (all : List Seg) (d0 : List Int) (D : Addr) (l : AL) (e : Int) (k : Nat) (m1 : AM) (l1 : AL) : Prop
  | mk (past todo : List Seg) (a : Int) (Xs : List Addr) (os : AL) (hall : all = past ++ todo) (hk : todo.length = k) (hc : Chain a todo e) (ha : 0 ≤ a) (hpa : past.length ≤ a)
    (hs : Sub [(Str.ofString "data", .bytes ks), (Str.ofString "cid_size", .int cs), (Str.ofString "found", .ref D), (Str.ofString "at", .int a)] m1) (el : l1 = (D, .list (Xs.map .ref)) :: (os ++ l)) (hR : RawLs (keptOf d0 past) Xs os) : SplitJ ks cs all d0 D l e k m1 l1
noncomputable def whileBody : Stmt → List Stmt
  | .While _ b _ _ => b
  | _ => []
noncomputable abbrev splitBody : List Stmt := whileBody (sAt (topR 32).body 1)
theorem split_turn {w : World} {K : Frag} (hK : KOk K) {ks : List Int} {cs : Int} {all : List Seg} {d0 : List Int} {D : Addr} {l : AL} {e : Int} (hl : ks.length ≤ 10000) (he : e ≤ ks.length) (hd0 : ∀ g gs, all = g :: gs → g.d = d0) (hat : ∀ g ∈ all, SegAt w K ks cs g)
    {c₁ : Cx w K (topF 32 265) 8 false} {E₁ : Value → Shared → Prop} {k : Nat} {m1 : AM} {l1 : AL} (J : SplitJ ks cs all d0 D l e k m1 l1) (hz : k ≠ 0) : Wb c₁ E₁ m1 l1 splitBody (fun f m' l' => f = .next ∧ ∃ k', k' < k ∧ SplitJ ks cs all d0 D l e k' m' l') := by
  obtain ⟨past, todo, a, Xs, os, hall, hk, hc, ha, hpa, hs, rfl, hR⟩ := J
  show Wb c₁ E₁ m1 _ (_ :: _ :: _ :: _) _
  cases todo with
  | nil => exact absurd hk.symm hz
  | cons g gs =>
    (refine El.axaxx (hc) fun zz1 hen hc' => ?_; try clear hc; (first | subst zz1 | cases zz1))
    have hle := hc'.le
    have C := hat g (by rw [hall]; simp) ((D, AO.list (Xs.map .ref)) :: (os ++ l))
    have hXl := hR.length
    have hkl : (keptOf d0 past).length ≤ past.length := List.length_filter_le ..
    have hbig : Xs.length ≤ 10000 := by omega
    refine Wb.sub ?_ hs
    refine Wb.try ?_
    with_reducible apply Wb.assignX
    · with_reducible apply Ex.fnA
      · assumption
      · kernel_rfl
      · rfl
      · kernel_rfl
      · walk_at "evs"
      · exact C
      · kernel_rfl
    · kernel_rfl
    (intro zr1 zr2 zr3; refine El.eeaxx (zr3) fun X V zz1 zz2 => ?_; try clear zr3; (first | subst zz1 | cases zz1); (first | subst zz2 | cases zz2))
    refine Wb.nil ?_
    show Wb c₁ E₁ _ _ _ _
    have hkept : keptOf d0 (past ++ [g]) = keptOf d0 past ++ (if g.d = d0 then [g] else []) := by
      unfold keptOf
      rw [List.filter_append]
      by_cases hd : g.d = d0 <;> simp [hd]
    have hfin : ∀ (Xs' : List Addr) (os' : AL) (m' : AM), Sub [(Str.ofString "data", .bytes ks), (Str.ofString "cid_size", .int cs), (Str.ofString "found", .ref D), (Str.ofString "at", .int g.en)] m' → RawLs (keptOf d0 (past ++ [g])) Xs' os' → ∃ k', k' < k ∧ SplitJ ks cs all d0 D l e k' m' ((D, .list (Xs'.map .ref)) :: (os' ++ l)) := fun Xs' os' m' hs' hR' =>
      ⟨gs.length, by rw [← hk]; simp, past ++ [g], gs, g.en, Xs', os', by rw [hall]; simp, rfl, hc', by omega, by simp; omega, hs', rfl, hR'⟩
    have hpast : past = [] ∧ g.d = d0 ∨ ∃ p V0 X0 Xs' os', p.d = d0 ∧ Xs = X0 :: Xs' ∧ os = (X0, Seg.raw p V0) :: os' := by
      cases past with
      | nil => exact .inl ⟨rfl, hd0 _ _ hall⟩
      | cons p ps =>
        right
        have hp := hd0 _ _ hall
        have : keptOf d0 (p :: ps) = p :: keptOf d0 ps := by unfold keptOf; simp [hp]
        rw [this] at hR
        obtain _ | ⟨X0, V0, _⟩ := hR
        exact ⟨p, V0, X0, _, _, hp, rfl, rfl⟩
    with_reducible apply Wb.if (p := (((Xs.map AV.ref).length : Nat) : Int) = 0 ∨ g.d = d0 ∨ False)
    · with_reducible apply Te.or
      · walk_at "te"
      · intro hp
        obtain ⟨rfl, _⟩ | ⟨p, V0, X0, Xs', os', hpd, rfl, rfl⟩ := hpast
        · cases hR; exact absurd rfl hp
        rw [← hpd]
        with_reducible apply Te.or
        · with_reducible apply Te.cmp
          · walk_at "ev"
          · with_reducible apply Ev.attr
            · assumption
            · with_reducible apply Ev.item_l
              · walk_at "ev"
              · walk_at "ev"
              · exact .tail _ (.head _)
              · decide
              · rfl
              · rfl
            · exact .tail _ (.tail _ (.head _))
            · kernel_rfl
            · rfl
          · walk_at "cop"
          · with_unfolding_all rfl
        · intro _; exact Te.or_nil
    · intro hp
      have hd : g.d = d0 := by
        rcases hp with hp | hp | hp
        · obtain ⟨rfl, hgd⟩ | ⟨p, V0, X0, Xs', os', hpd, rfl, rfl⟩ := hpast
          · exact hgd
          · simp at hp; omega
        · exact hp
        · exact hp.elim
      rw [if_pos hd] at hkept
      with_reducible apply Wb.expr
      · with_reducible apply Ex.meth
        · walk_at "ev"
        · exact Mt.append (.tail _ (.head _))
        · exact keeps_builtin
        · exact Evs.x (by walk_at "evs")
        · (intro zr1 zr2 zr3; refine El.axx (zr3) fun zz1 zz2 => ?_; try clear zr3; (first | subst zz1 | cases zz1); (first | subst zz2 | cases zz2))
          exact Bw.append (.tail .head) (.tail _ (.head _)) (by rw [List.length_map]; exact hbig)
        · rfl
        · rfl
      · rfl
      (intro zr1 zr2 zr3; refine El.axx (zr3) fun zz1 zz2 => ?_; try clear zr3; (first | subst zz1 | cases zz1); (first | subst zz2 | cases zz2))
      refine Wb.beh ?_
      walk_at "as"
      refine Wb.pick (t := (D, .list ((Xs ++ [X]).map .ref)) :: ((os ++ [(X, g.raw V)]) ++ l)) ?_ (Pick.of_perm ?_)
      · exact Wb.nil ⟨rfl, hfin (Xs ++ [X]) (os ++ [(X, g.raw V)]) _ (by walk_at "sub") (by rw [hkept]; exact hR.snoc g X V)⟩
      · rw [List.map_append]
        refine (List.Perm.swap _ _ _).trans (List.Perm.cons _ ?_)
        rw [List.append_assoc]
        exact List.perm_middle.symm
    · intro hp
      have hd : g.d ≠ d0 := fun q => hp (.inr (.inl q))
      rw [if_neg hd, List.append_nil] at hkept
      refine Wb.beh ?_
      walk_at "as"
      refine Wb.pick (t := (D, .list (Xs.map .ref)) :: (os ++ l)) ?_ (.skip .refl)
      exact Wb.nil ⟨rfl, hfin Xs os _ (by walk_at "sub") (by rw [hkept]; exact hR)⟩
theorem split_C {w : World} {K : Frag} (hK : KOk K) (ks : List Int) (cs : Int) (g0 : Seg) (rest : List Seg) (l : AL) (hl : ks.length ≤ 10000) (hch : Chain 0 (g0 :: rest) ks.length) (hat : ∀ g ∈ g0 :: rest, SegAt w K ks cs g) :
    Cw w K 265 9 false [.bytes ks, .int cs] l (Raws (keptOf g0.d (g0 :: rest)) l) := by
  refine Cw.def (F := topF 32 265) (xs := [Str.ofString "data", Str.ofString "cid_size"]) (hK.fn 32 265 (by decide +kernel)) (Binds.of2 fun _ _ _ _ _ _ => by kernel_rfl) (by kernel_rfl) rfl fun c E => ?_
  show Wb c E [(Str.ofString "data", .bytes ks), (Str.ofString "cid_size", .int cs)] l (_ :: _ :: _ :: _) _
  refine Wb.swap (xs := [Str.ofString "found", Str.ofString "at"]) (RL := fun vs l0 => ∃ D, vs = [.ref D, .int 0] ∧ l0 = (D, .list []) :: l) ?_ (fun vs l0 h => by (refine El.eaxx (h) fun D zz1 zz2 => ?_; try clear h; (first | subst zz1 | cases zz1); (first | subst zz2 | cases zz2)); rfl) (by kernel_rfl) rfl ?_
  · refine Exs.cons (Ex.list Evs.nil (by decide)) ?_ rfl
    (intro zr1 zr2 zr3; refine El.eaxx (zr3) fun D zz1 zz2 => ?_; try clear zr3; (first | subst zz1 | cases zz1); (first | subst zz2 | cases zz2))
    with_reducible apply Exs.vcons
    · walk_at "ev"
    · exact Exs.done ⟨D, rfl, rfl⟩
    · rfl
  (intro zr1 zr2 zr3; refine El.eaxx (zr3) fun D zz1 zz2 => ?_; try clear zr3; (first | subst zz1 | cases zz1); (first | subst zz2 | cases zz2))
  refine Wb.while (SplitJ ks cs (g0 :: rest) g0.d D l ks.length) (fun k _ _ => k ≠ 0) (rest.length + 1) ⟨[], g0 :: rest, 0, [], [], rfl, rfl, hch, Int.le_refl 0, Int.le_refl 0, by walk_at "sub", rfl, .nil⟩ ?_ ?_ ?_
  · rintro c₁ E₁ k m1 l1 ⟨past, todo, a, Xs, os, hall, hk, hc, ha, hpa, hs, rfl, hR⟩
    refine Te.iff (p := a < ks.length) ?_ ?_
    · with_reducible apply Te.cmp
      · exact Ev.local (hs _ _ rfl) (by kernel_rfl)
      · with_reducible apply Ev.len_b
        · assumption
        · kernel_rfl
        · exact Ev.local (hs (Str.ofString "data") _ rfl) (by kernel_rfl)
        · omega
      · walk_at "cop"
      · with_unfolding_all rfl
    · cases todo with
      | nil => have : a = ks.length := hc; subst hk; simp; omega
      | cons g gs => have := hc.2.1; have := hc.2.2.le; subst hk; simp; omega
  · intro c₁ E₁ k m1 l1 J hz
    exact (split_turn hK hl (Int.le_refl _) (fun g gs q => by cases q; rfl) hat J hz).mono fun f m' l' hP => by (refine El.axx (hP) fun zz1 hJ => ?_; try clear hP; (first | subst zz1 | cases zz1)); exact hJ
  · rintro k m1 l1 ⟨past, todo, a, Xs, os, hall, hk, hc, ha, hpa, hs, rfl, hR⟩ hz
    have hk0 : todo = [] := List.length_eq_zero_iff.mp (by omega)
    subst hk0
    rw [List.append_nil] at hall
    subst hall
    refine Wb.sub ?_ hs
    with_reducible apply Wb.ret
    · walk_at "ev"
    · exact ⟨D, Xs, os, rfl, rfl, hR⟩

theorem opened_C {w : World} {K : Frag} (hK : KOk K) (pk : Pk) (first f0 : Int) (sc tok : List Int) (V X : Addr) (st na en : Int) (l : AL) (hm : (X, rawO pk.sort.word f0 1 pk.d sc tok V st na en) ∈ l)
    (hs : match pk.sort with | .short => (first.fdiv 32).fmod 2 = pk.sp ∧ (first.fdiv 4).fmod 2 = pk.kp | .initial => sc = pk.sc ∧ tok = pk.tok | _ => sc = pk.sc) : Cw w K 424 1 false [.ref X, .int first, .int pk.num, .bytes pk.pay] l (New (.tup pk.tup) l) := by
  refine Cw.def (F := topF 64 424) (xs := [Str.ofString "raw", Str.ofString "first", Str.ofString "number", Str.ofString "payload"]) (hK.fn 64 424 (by decide +kernel)) (Binds.of4 fun _ _ _ _ _ _ _ _ => by kernel_rfl) (by kernel_rfl) rfl fun c E => ?_
  obtain ⟨sort, sp, kp, d, psc, ptok, num, pay⟩ := pk
  show Wb c E [(Str.ofString "raw", .ref X), (Str.ofString "first", .int first), (Str.ofString "number", .int num), (Str.ofString "payload", .bytes pay)] l (_ :: _ :: _ :: _) _
  cases sort with
  | short =>
    (refine El.axx (hs) fun h1 h2 => ?_; try clear hs)
    dsimp only at h1 h2
    have hm' : (X, rawO (Str.ofString "short") f0 1 d sc tok V st na en) ∈ l := hm
    with_reducible apply Wb.if
    · walk_at "te"
    · intro _
      with_reducible apply Wb.ret_tup
      · walk_at "evs"
      · rfl
      · intro D; rw [h1, h2]; exact ⟨D, rfl, rfl⟩
    · intro h; exact absurd rfl h
  | initial =>
    (refine El.axx (hs) fun h1 h2 => ?_; try clear hs)
    dsimp only at h1 h2
    subst h1 h2
    have hm' : (X, rawO (Str.ofString "initial") f0 1 d sc tok V st na en) ∈ l := hm
    with_reducible apply Wb.if_no
    · walk_at "te"
    · decide
    with_reducible apply Wb.if
    · walk_at "te"
    · intro _
      with_reducible apply Wb.ret_tup
      · walk_at "evs"
      · rfl
      · intro D; exact ⟨D, rfl, rfl⟩
    · intro h; exact absurd rfl h
  | zero =>
    dsimp only at hs
    subst hs
    have hm' : (X, rawO (Str.ofString "zero") f0 1 d sc tok V st na en) ∈ l := hm
    with_reducible apply Wb.if_no
    · walk_at "te"
    · decide
    with_reducible apply Wb.if_no
    · walk_at "te"
    · decide
    with_reducible apply Wb.ret_tup
    · walk_at "evs"
    · rfl
    · intro D; exact ⟨D, rfl, rfl⟩
  | handshake =>
    dsimp only at hs
    subst hs
    have hm' : (X, rawO (Str.ofString "handshake") f0 1 d sc tok V st na en) ∈ l := hm
    with_reducible apply Wb.if_no
    · walk_at "te"
    · decide
    with_reducible apply Wb.if_no
    · walk_at "te"
    · decide
    with_reducible apply Wb.ret_tup
    · walk_at "evs"
    · rfl
    · intro D; exact ⟨D, rfl, rfl⟩
theorem open_packet_C {w : World} {K : Frag} (hK : KOk K) (pk : Pk) (ks key hv mk body : List Int) (f0 f tr sz ex : Int) (seen : AV) (sc tok : List Int) (V X : Addr) (st na en : Int) (l : AL) (hm : (X, rawO pk.sort.word f0 1 pk.d sc tok V st na en) ∈ l) (hl : ks.length ≤ 10000) (h0 : 0 ≤ st) (h1 : st < na) (h2 : na + 20 ≤ en) (h3 : en ≤ ks.length)
    (hmk : maskOf key ((ks.drop (na + 4).toNat).take 16) = mk) (hf : turnedFirst (ks.getD st.toNat 0) mk = f) (hsz : f.fmod 4 + 1 = sz) (hhv : f :: ((ks.drop (st + 1).toNat).take (na - (st + 1)).toNat ++ turnedNumber ((ks.drop na.toNat).take sz.toNat) mk) = hv)
    (hvl : hv.length ≤ 3000) (hvs : sz ≤ hv.length) (htr : val ((hv.drop ((hv.length : Nat) - sz).toNat).take sz.toNat) = tr) (hseen : SeenOk seen ex) (hnum : restored tr sz ex = pk.num)
    (hbody : (ks.drop (na + sz).toNat).take (en - (na + sz)).toNat = body ++ tagOf key pk.num hv body) (hbl : body.length ≤ 3000) (hpay : turned key pk.num body = pk.pay) (hres : (if f ≥ 128 then (f.fdiv 4).fmod 4 else (f.fdiv 8).fmod 4) = 0)
    (hs : match pk.sort with | .short => (f.fdiv 32).fmod 2 = pk.sp ∧ (f.fdiv 4).fmod 2 = pk.kp | .initial => sc = pk.sc ∧ tok = pk.tok | _ => sc = pk.sc) :
    Cw w K 417 5 true [.bytes ks, .ref X, .bytes key, seen] l (New (.tup pk.tup) l) := by
  refine Cw.oct fun hO => ?_
  have ok := hO ks (by simp)
  have ob : Oct body := fun x hx => ok x (List.mem_of_mem_drop (List.mem_of_mem_take (hbody ▸ List.mem_append_left _ hx)))
  refine Cw.def (F := topF 63 417) (xs := [Str.ofString "data", Str.ofString "raw", Str.ofString "key", Str.ofString "largest_seen"]) (hK.fn 63 417 (by decide +kernel)) (Binds.of4 fun _ _ _ _ _ _ _ _ => by kernel_rfl) (by kernel_rfl) rfl fun c E => ?_
  show Wb c E [(Str.ofString "data", .bytes ks), (Str.ofString "raw", .ref X), (Str.ofString "key", .bytes key), (Str.ofString "largest_seen", seen)] l (_ :: _ :: _ :: _ :: _ :: _ :: _ :: _) _
  have hs0 := fmod_lo f (n := 4) (by decide)
  have hs1 := fmod_hi f (n := 4) (by decide)
  have C1 := bare_head_C (w := w) hK key ks mk hv st na en f sz l hl h0 h1 h2 h3 hmk hf hsz hhv
  have C2 := get_whole_C (w := w) hK hv ((hv.length : Nat) - sz) sz l (by omega) (by omega) (by omega) (by omega)
  rw [htr] at C2
  have C3 := restore_C (w := w) hK tr sz ex seen l hseen (by omega) (by omega)
  rw [hnum] at C3
  have C4 := open_sealed_C (w := w) hK key pk.num hv body l ob hvl hbl
  rw [hpay, ← hbody] at C4
  have hg : hv.getD (0 : Int).toNat 0 = f := by rw [← hhv]; rfl
  have C5 := reserved_C (w := w) hK f l
  rw [hres] at C5
  have C6 := opened_C (w := w) hK pk f f0 sc tok V X st na en l hm hs
  have hna : na + sz ≤ en := by omega
  with_reducible apply Wb.assignX
  · with_reducible apply Ex.fnA
    · assumption
    · kernel_rfl
    · rfl
    · kernel_rfl
    · walk_at "evs"
    · exact C1
    · kernel_rfl
  · kernel_rfl
  (intro zr1 zr2 zr3; refine El.eaxx (zr3) fun D zz1 zz2 => ?_; try clear zr3; (first | subst zz1 | cases zz1); (first | subst zz2 | cases zz2))
  with_reducible apply Wb.if_no
  · walk_at "te"
  · exact id
  with_reducible apply Wb.unpack
  · exact Ev.x (by walk_at "ev")
  · kernel_rfl
  · rfl
  · (intro zr1 zr2 zr3; refine El.axx (zr3) fun zz1 zz2 => ?_; try clear zr3; (first | subst zz1 | cases zz1); (first | subst zz2 | cases zz2))
    refine ⟨D, _, _, _, rfl, .head _, rfl, Asgs.name (by kernel_rfl) (Asgs.name (by kernel_rfl) Asgs.nil), ?_⟩
    refine Wb.pick (t := l) ?_ (.skip .refl)
    walk_at "as"
    walk_at "as"
    with_reducible apply Wb.if_no
    · walk_at "te"
    · exact id
    have hvp : 1 ≤ hv.length := by omega
    with_reducible apply Wb.if_no
    · with_reducible apply Te.cmp
      · with_reducible apply Ev.fnA
        · assumption
        · kernel_rfl
        · rfl
        · kernel_rfl
        · with_reducible apply Evs.cons
          · exact Ev.eq (by walk_at "ev") (congrArg AV.int hg)
          · exact Evs.nil
          · exact rfl
        · exact C5
        · kernel_rfl
      · walk_at "ev"
      · walk_at "cop"
      · with_unfolding_all rfl
    · exact fun q => q rfl
    with_reducible apply Wb.retX
    · with_reducible apply Ex.fnA
      · assumption
      · kernel_rfl
      · rfl
      · kernel_rfl
      · with_reducible apply Evs.cons
        · walk_at "ev"
        · with_reducible apply Evs.cons
          · exact Ev.eq (by walk_at "ev") (congrArg AV.int hg)
          · walk_at "evs"
          · exact rfl
        · exact rfl
      · exact C6
      · kernel_rfl
    · exact fun _ _ h => h
theorem space_of_C {w : World} {K : Frag} (hK : KOk K) (sr : Sort4) (l : AL) : Cw w K 431 1 false [.str sr.word] l (Is (.str sr.space) l) := by
  refine Cw.def (F := topF 65 431) (xs := [Str.ofString "kind"]) (hK.fn 65 431 (by decide +kernel)) (Binds.of1 fun _ _ _ _ _ => by kernel_rfl) (by kernel_rfl) rfl fun c E => ?_
  show Wb c E [(Str.ofString "kind", .str sr.word)] l (_ :: _ :: _) _
  have hin : ∀ {c : Cx w K (topF 65 431) 0 false} {m : AM} {E : Value → Shared → Prop} {l : AL} {x a b : Str} {e : PySem.Expr} {p1 p2 p3 p4 : Pos} {k0 k1 k2 : Nat}, Ev c E m l e (.str x) → Te c E m l (.Compare e [.In] [.Tuple [.Constant (.str a) k0 p1, .Constant (.str b) k1 p2] k2 p3] p4) (x ∈ [a, b]) := fun h =>
    Te.cmpX h (Ex.tup (Evs.cons Ev.const_str (Evs.cons Ev.const_str .nil rfl) rfl) (Nat.le_of_ble_eq_true rfl)) (fun y l' hy => by (refine El.eaxx (hy) fun D zz1 zz2 => ?_; try clear hy; (first | subst zz1 | cases zz1); (first | subst zz2 | cases zz2)); exact ⟨.skip .refl, Cp.in_strs (ys := [_, _]) (.head _)⟩) (by rfl)
  cases sr with
  | initial =>
    with_reducible apply Wb.if
    · exact hin (by walk_at "ev")
    · intro _
      with_reducible apply Wb.ret
      · walk_at "ev"
      · exact ⟨rfl, rfl⟩
    · intro h; exact absurd (by decide) h
  | handshake =>
    with_reducible apply Wb.if
    · exact hin (by walk_at "ev")
    · intro _
      with_reducible apply Wb.ret
      · walk_at "ev"
      · exact ⟨rfl, rfl⟩
    · intro h; exact absurd (by decide) h
  | zero =>
    with_reducible apply Wb.if_no
    · exact hin (by walk_at "ev")
    · decide
    with_reducible apply Wb.ret (v := .str (Str.ofString "application"))
    · with_reducible apply Ev.ifexp
      · exact hin (by walk_at "ev")
      · intro _; walk_at "ev"
      · intro h; exact absurd (by decide) h
    · exact ⟨rfl, rfl⟩
  | short =>
    with_reducible apply Wb.if_no
    · exact hin (by walk_at "ev")
    · decide
    with_reducible apply Wb.ret (v := .str (Str.ofString "application"))
    · with_reducible apply Ev.ifexp
      · exact hin (by walk_at "ev")
      · intro _; walk_at "ev"
      · intro h; exact absurd (by decide) h
    · exact ⟨rfl, rfl⟩

theorem ltake_C {w : World} {K : Frag} (hK : KOk K) (d r : Addr) (seed many : Int) (rows : List Int) (pre post : AL) (hr : rows.length ≤ 40) (hm : 1 ≤ many) : Cw w K 443 1 false [.ref d, .int many] (drw pre post d r seed rows) (Took pre post d r many) := by
  refine Cw.def (F := topF 68 443) (xs := [Str.ofString "draws", Str.ofString "many"]) (hK.fn 68 443 (by decide +kernel)) (Binds.of2 fun _ _ _ _ _ _ => by kernel_rfl) (by kernel_rfl) rfl fun c E => ?_
  show Wb c E [(Str.ofString "draws", .ref d), (Str.ofString "many", .int many)] (drw pre post d r seed rows) (_ :: _ :: _ :: _) _
  have m1 : (d, AO.list [.ref r, .int seed]) ∈ drw pre post d r seed rows := List.mem_append_right _ (.head _)
  have m2 : (r, AO.list (rows.map .int)) ∈ drw pre post d r seed rows := List.mem_append_right _ (.tail _ (.head _))
  have q1 : many ≠ 0 := by omega
  with_reducible apply Wb.if (p := rows.map AV.int ≠ [])
  · with_reducible apply Te.cmpX
    · with_reducible apply Ev.item_l
      · walk_at "ev"
      · walk_at "ev"
      · exact m1
      · decide
      · rfl
      · rfl
    · exact Ex.list Evs.nil (by decide)
    · (intro zr1 zr2 zr3; refine El.eaxx (zr3) fun D zz1 zz2 => ?_; try clear zr3; (first | subst zz1 | cases zz1); (first | subst zz2 | cases zz2))
      exact ⟨.skip .refl, Cp.ne_nil (.tail _ m2) (.head _)⟩
    · with_unfolding_all rfl
  · intro hne
    cases rows with
    | nil => exact absurd rfl hne
    | cons a rows =>
      have m3 : (r, AO.list (.int a :: rows.map .int)) ∈ drw pre post d r seed (a :: rows) := m2
      with_reducible apply Wb.retX
      · refine Ex.bin (R := Took pre post d r many) (R1 := Is (.int a) (drw pre post d r seed rows)) ?_ ?_
        · with_reducible apply Ex.meth
          · with_reducible apply Ev.item_l
            · walk_at "ev"
            · walk_at "ev"
            · exact m1
            · decide
            · rfl
            · rfl
          · exact Mt.pop m3
          · exact keeps_builtin
          · exact Evs.x (by walk_at "evs")
          · (intro zr1 zr2 zr3; refine El.axx (zr3) fun zz1 zz2 => ?_; try clear zr3; (first | subst zz1 | cases zz1); (first | subst zz2 | cases zz2))
            exact Bw.pop0 Upd.mid2 (by rw [List.length_map]; simp only [List.length_cons] at hr; omega)
          · rfl
          · rfl
        · (intro zr1 zr2 zr3; refine El.axx (zr3) fun zz1 zz2 => ?_; try clear zr3; (first | subst zz1 | cases zz1); (first | subst zz2 | cases zz2))
          exact ⟨.int many, .int (a.fmod many), by walk_at "ev", Bop.mod q1, _, seed, rows, rfl, Int.fmod_nonneg_of_pos _ (by omega), Int.fmod_lt_of_pos _ (by omega), by simp only [List.length_cons] at hr; omega, rfl⟩
      · exact fun _ _ h => h
  · intro _
    refine Wb.beh ?_
    with_reducible apply Wb.setitem
    · with_reducible apply Ev.bin
      · with_reducible apply Ev.bin
        · with_reducible apply Ev.bin
          · with_reducible apply Ev.item_l
            · walk_at "ev"
            · walk_at "ev"
            · exact m1
            · decide
            · rfl
            · rfl
          · walk_at "ev"
          · walk_at "bop"
        · walk_at "ev"
        · walk_at "bop"
      · walk_at "ev"
      · walk_at "bop"
    · walk_at "ev"
    · walk_at "ev"
    · exact Upd.mid
    · decide
    · show (1 : Int) < 2; decide
    · exact Nat.le_of_ble_eq_true rfl
    · rfl
    have m4 : (d, AO.list [.ref r, .int ((seed * 48271 + 23).fmod 2147483647)]) ∈ drw pre post d r ((seed * 48271 + 23).fmod 2147483647) rows := List.mem_append_right _ (.head _)
    show Wb c E _ (drw pre post d r ((seed * 48271 + 23).fmod 2147483647) rows) _ _
    with_reducible apply Wb.ret
    · with_reducible apply Ev.bin
      · with_reducible apply Ev.bin
        · with_reducible apply Ev.item_l
          · walk_at "ev"
          · walk_at "ev"
          · exact m4
          · decide
          · rfl
          · rfl
        · walk_at "ev"
        · walk_at "bop"
      · walk_at "ev"
      · walk_at "bop"
    · exact ⟨_, _, rows, rfl, Int.fmod_nonneg_of_pos _ (by omega), Int.fmod_lt_of_pos _ (by omega), hr, rfl⟩
section
variable {w : World} {K : Frag} {F : Fn} {n : Nat} {b : Bool} {c : Cx w K F n b} {E : Value → Shared → Prop} {m : AM}
theorem Ex.take (hK : KOk K) {np pos : Pos} {e1 e2 : PySem.Expr} {d r : Addr} {seed many : Int} {rows : List Int} {pre post : AL} (h1 : Ev c E m (drw pre post d r seed rows) e1 (.ref d)) (h2 : Ev c E m (drw pre post d r seed rows) e2 (.int many)) (hr : rows.length ≤ 40) (hm : 1 ≤ many)
    (hx : (isGlo F (Str.ofString "_law_take") && noStar [e1, e2] && Nat.ble 1 n) = true) : Ex c E m (drw pre post d r seed rows) (.Call (.Name (Str.ofString "_law_take") np) [e1, e2] [] pos) (Took pre post d r many) := by
  simp only [Bool.and_eq_true] at hx
  have hs := hx.1.2
  simp only [noStar, List.all_cons, Bool.and_eq_true, Bool.not_eq_true'] at hs
  exact Ex.call (Ev.glob hK (v := .ref 443) rfl hx.1.1) (hK.keepA (by decide +kernel)) (.cons h1 (.cons h2 .nil hs.2.1) hs.1) (ltake_C hK d r seed many rows pre post hr hm) (Nat.le_of_ble_eq_true hx.2) (fun q => nomatch q) hx.1.2
end

inductive LOct (pre post : AL) (d r : Addr) (most : Int) (v : AV) (l' : AL) : Prop
  | mk (ks : List Int) (seed : Int) (rows : List Int) (e : v = .bytes ks) (hk : KBa.In ks) (hl : (ks.length : Int) ≤ most) (hr : rows.length ≤ 40) (el : l' = drw pre post d r seed rows) : LOct pre post d r most v l'
theorem loct_C {w : World} {K : Frag} (hK : KOk K) (d r : Addr) (seed most : Int) (rows : List Int) (pre post : AL) (hr : rows.length ≤ 40) (h0 : 0 ≤ most) (h1 : most ≤ 100) : Cw w K 448 2 false [.ref d, .int most] (drw pre post d r seed rows) (LOct pre post d r most) := by
  refine Cw.defC1 (F := topF 69 448) (xs := [Str.ofString "draws", Str.ofString "most"]) (Str.ofString "draws") (.ref d) [(Str.ofString "most", .int most)] (hK.fn 69 448 (by decide +kernel)) (Binds.of2 fun _ _ _ _ _ _ => by kernel_rfl) (by kernel_rfl) rfl rfl rfl (fun n => by kernel_rfl) rfl (fun us r => ?_) fun c E a hcl => ?_
  · (refine El.eeaxaxx (r.two) fun u1 u2 zz1 r1 r2 => ?_; (first | subst zz1 | cases zz1))
    have e1 : bindL (fun x => (topF 69 448).scope.names.lookup x) [(Str.ofString "draws", u1), (Str.ofString "most", u2)] (fun _ => none) = fun z => if z = Str.ofString "most" then some u2 else none := by kernel_rfl
    have e2 : bindC (fun x => (topF 69 448).scope.names.lookup x) [(Str.ofString "draws", u1), (Str.ofString "most", u2)] (fun _ => none) = fun z => if z = Str.ofString "draws" then some u1 else none := by kernel_rfl
    refine ⟨fun x v hx => ?_, u1, (congrFun e2 _).trans (if_pos rfl), r1⟩
    rw [List.lookup_cons] at hx
    split at hx
    · rename_i e; cases hx; exact ⟨u2, (congrFun e1 x).trans (if_pos (eq_of_beq e)), r2⟩
    · cases hx
  · show Wb c E [(Str.ofString "most", .int most)] (drw ((a, .cell (.ref d)) :: pre) post d r seed rows) (_ :: _) _
    refine Wb.retQ (R := fun v l' => ∃ ks D, v = .bytes ks ∧ KBa.In ks ∧ (ks.length : Int) ≤ most ∧ ∃ seed rows, rows.length ≤ 40 ∧ l' = (D, .list (ks.map .int)) :: drw ((a, .cell (.ref d)) :: pre) post d r seed rows) ?_ ?_
    · with_reducible apply Ex.callB
      · exact Ev.bt hK (u := .type "bytes") (by kernel_rfl) (by kernel_rfl) (by kernel_rfl)
      · exact keeps_type
      · refine Exs.one (R1 := fun v l' => ∃ D ks seed rows, v = .ref D ∧ (ks.length : Int) ≤ most ∧ KBa.In ks ∧ rows.length ≤ 40 ∧ l' = (D, .list (ks.map .int)) :: drw ((a, .cell (.ref d)) :: pre) post d r seed rows) ?_ rfl
        refine Ex.compR (cl := [(Str.ofString "draws", a)]) (fun k i zs lJ => (k : Int) ≤ most ∧ zs.length = i ∧ KBa.In zs ∧ ∃ seed rows, rows.length ≤ 40 ∧ lJ = drw ((a, .cell (.ref d)) :: pre) post d r seed rows) (by show closureFor _ (envX _ _ _ _ _ c.cl) = _; rw [hcl]; with_unfolding_all rfl) (by decide +kernel) rfl (by decide +kernel) rfl ?_ ?_ ?_ rfl
        · intro Γ hΓ
          refine (Ex.callB (R := fun v l' => ∃ k l1, Rng 0 k 1 l1 v l' ∧ 0 ≤ k ∧ k < most + 1 ∧ ∃ seed rows, rows.length ≤ 40 ∧ l1 = drw ((a, .cell (.ref d)) :: pre) post d r seed rows) (Ev.bt hK (u := .type "range") (by kernel_rfl) (by kernel_rfl) (by kernel_rfl)) keeps_type (Exs.one (R1 := Took ((a, .cell (.ref d)) :: pre) post d r (most + 1)) (Ex.take hK (many := most + 1) (pre := (a, .cell (.ref d)) :: pre) (post := post) (r := r) (seed := seed) (rows := rows) (Ev.cel (.head _) (by show c.cl.lookup _ = _; rw [hcl]; rfl) (by kernel_rfl)) ?_ hr (by omega) (by kernel_rfl)) rfl) ?_ rfl).mono ?_
          · walk_at "ev"
          · (intro zr1 zr2 zr3; refine El.eaxx (zr3) fun zz1 zz2 zz3 => ?_; try clear zr3; (first | subst zz2 | cases zz2); obtain ⟨k, seed', rows', rfl, h2, h3, h4, rfl⟩ := zz3)
            exact fun Q h tk us S r kk => Bw.range1 Q h tk us S r fun h' tk' u v l' hv S' r' => kk h' tk' u v l' ⟨k, _, hv, h2, h3, seed', rows', h4, rfl⟩ S' r'
          · (intro v l' zr3; refine El.eex (zr3) fun k l1 zq25 => ?_; try clear zr3; refine El.axaxaxx (zq25) fun hR h2 h3 zq26 => ?_; try clear zq25; refine El.eeaxx (zq26) fun seed' rows' h4 zz1 => ?_; try clear zq26; (first | subst zz1 | cases zz1))
            refine ⟨k.toNat, _, by omega, ?_, by omega, rfl, fun x hx => (nomatch hx), seed', rows', h4, rfl⟩
            rw [show ((k.toNat : Nat) : Int) = k by omega]; exact hR
        · (intro c₁ k i zs lJ o3 C Q E' h tk hc₁ hi hzl zr15 S kk; refine El.axaxaxx (zr15) fun j1 j2 j3 zq27 => ?_; try clear zr15; refine El.eeaxx (zq27) fun seed' rows' j4 zz1 => ?_; try clear zq27; (first | subst zz1 | cases zz1))
          rw [drw_app] at S
          refine Gc_take hK rfl (by with_unfolding_all rfl) (by with_unfolding_all rfl) rfl S (List.mem_append_left _ (List.mem_append_right _ (.head _))) (ltake_C hK d r seed' 256 rows' (o3 ++ ((a, .cell (.ref d)) :: pre)) post j4 (by decide)) (by decide) ?_
          rintro h' tk' u v l' ⟨z, seed2, rows2, rfl, z0, z1, z2, rfl⟩ S' ⟨t, rfl⟩
          refine kk h' tk' t z _ ⟨j1, by simp [j2], fun x hx => ?_, seed2, rows2, z2, rfl⟩ (by rw [drw_app]; exact S')
          rcases List.mem_append.mp hx with hx | hx
          · exact j3 x hx
          · rw [List.mem_singleton.mp hx]; exact ⟨z0, z1⟩
        · (intro k zs lJ D zr5; refine El.axaxaxx (zr5) fun j1 j2 j3 zq28 => ?_; try clear zr5; refine El.eeaxx (zq28) fun seed' rows' j4 zz1 => ?_; try clear zq28; (first | subst zz1 | cases zz1))
          exact ⟨D, zs, seed', rows', rfl, by omega, j3, j4, rfl⟩
      · (intro zr1 zr2 zr3; refine El.ex (zr3) fun zz1 zq29 => ?_; try clear zr3; refine El.axx (zq29) fun zz2 zq30 => ?_; try clear zq29; refine El.eeeeaxaxaxaxx (zq30) fun D ks seed' rows' zz3 j1 j3 j4 zz4 => ?_; try clear zq30; (first | subst zz2 | cases zz2); (first | subst zz3 | cases zz3); (first | subst zz4 | cases zz4))
        exact fun Q h tk us S r kk => Bw.bytes_list (.head _) j3 (by omega) Q h tk us S r fun h' tk' u v l' hv S' r' => kk h' tk' u v l' (by (refine El.axx (hv) fun zz1 zz2 => ?_; try clear hv; (first | subst zz1 | cases zz1); (first | subst zz2 | cases zz2)); exact ⟨ks, D, rfl, j3, j1, seed', rows', j4, rfl⟩) S' r'
      · rfl
    · (intro zr1 zr2 zr3; refine El.eex (zr3) fun ks D zq31 => ?_; try clear zr3; refine El.axaxaxx (zq31) fun zz1 j3 j1 zq32 => ?_; try clear zq31; refine El.eeaxx (zq32) fun seed' rows' j4 zz2 => ?_; try clear zq32; (first | subst zz1 | cases zz1); (first | subst zz2 | cases zz2))
      exact ⟨drw pre post d r seed' rows', .skip (.skip .refl), ks, seed', rows', rfl, j3, j1, j4, rfl⟩
section
variable {w : World} {K : Frag} {F : Fn} {n : Nat} {b : Bool} {c : Cx w K F n b} {E : Value → Shared → Prop} {m : AM}
theorem Ex.oct (hK : KOk K) {np pos : Pos} {e1 e2 : PySem.Expr} {d r : Addr} {seed most : Int} {rows : List Int} {pre post : AL} (h1 : Ev c E m (drw pre post d r seed rows) e1 (.ref d)) (h2 : Ev c E m (drw pre post d r seed rows) e2 (.int most)) (hr : rows.length ≤ 40) (hm : 0 ≤ most) (hm1 : most ≤ 100)
    (hx : (isGlo F (Str.ofString "_law_octets") && noStar [e1, e2] && Nat.ble 2 n) = true) : Ex c E m (drw pre post d r seed rows) (.Call (.Name (Str.ofString "_law_octets") np) [e1, e2] [] pos) (LOct pre post d r most) := by
  simp only [Bool.and_eq_true] at hx
  have hs := hx.1.2
  simp only [noStar, List.all_cons, Bool.and_eq_true, Bool.not_eq_true'] at hs
  exact Ex.call (Ev.glob hK (v := .ref 448) rfl hx.1.1) (hK.keepA (by decide +kernel)) (.cons h1 (.cons h2 .nil hs.2.1) hs.1) (loct_C hK d r seed most rows pre post hr hm hm1) (Nat.le_of_ble_eq_true hx.2) (fun q => nomatch q) hx.1.2
end

inductive LPk (pre post : AL) (d r : Addr) (kd ks : List Int) (last : Bool) (v : AV) (l' : AL) : Prop
  | mk (P : Addr) (pk : Pk) (seed : Int) (rows : List Int) (e : v = .ref P) (hd : Drawn kd ks last pk) (hr : rows.length ≤ 40) (el : l' = drw ((P, .tup pk.tup) :: pre) post d r seed rows) : LPk pre post d r kd ks last v l'
theorem three_in {v : Int} {a : AV} (h : ([AV.int 300, .int 70000, .int (2 ^ (30 : Int).toNat)] : List AV)[v.toNat]? = some a) : ∃ k, a = .int k ∧ 1 ≤ k ∧ k ≤ 1073741824 := by
  have h3 : v.toNat < 3 := (List.getElem?_eq_some_iff.mp h).1
  have hk : v.toNat = 0 ∨ v.toNat = 1 ∨ v.toNat = 2 := by omega
  rcases hk with e | e | e <;> rw [e] at h <;> cases h <;> exact ⟨_, rfl, by decide, by decide⟩
theorem lpacket_C {w : World} {K : Frag} (hK : KOk K) (d r : Addr) (seed : Int) (kd ks : List Int) (last : Bool) (rows : List Int) (pre post : AL) (hr : rows.length ≤ 40) :
    Cw w K 455 3 false [.ref d, .bytes kd, .bytes ks, .bool last] (drw pre post d r seed rows) (LPk pre post d r kd ks last) := by
  refine Cw.def (F := topF 70 455) (xs := [Str.ofString "draws", Str.ofString "dcid", Str.ofString "scid", Str.ofString "is_last"]) (hK.fn 70 455 (by decide +kernel)) (Binds.of4 fun _ _ _ _ _ _ _ _ => by kernel_rfl) (by kernel_rfl) rfl fun c E => ?_
  show Wb c E [(Str.ofString "draws", .ref d), (Str.ofString "dcid", .bytes kd), (Str.ofString "scid", .bytes ks), (Str.ofString "is_last", .bool last)] (drw pre post d r seed rows) (_ :: _ :: _ :: _ :: _) _
  refine Wb.swap (xs := [Str.ofString "number", Str.ofString "payload"]) (RL := fun vs l0 => ∃ num pay X seed rows, vs = [.int num, .bytes pay] ∧ 0 ≤ num ∧ num < 1073741824 ∧ pay.length ≤ 6 ∧ Oct pay ∧ rows.length ≤ 40 ∧ l0 = drw (X :: pre) post d r seed rows) ?_ (fun vs l0 h => by (refine El.eeeeex (h) fun zz1 zz2 zz3 zz4 zz5 zq64 => ?_; try clear h; refine El.axx (zq64) fun zz6 zz7 => ?_; try clear zq64; (first | subst zz6 | cases zz6)); rfl) (by kernel_rfl) rfl ?_
  · refine Exs.cons (R1 := fun v l' => ∃ num X seed rows, v = .int num ∧ 0 ≤ num ∧ num < 1073741824 ∧ rows.length ≤ 40 ∧ l' = drw (X :: pre) post d r seed rows) ?_ ?_ rfl
    · refine Ex.callX (RA := fun vs l' => ∃ many X seed rows, vs = [.ref d, .int many] ∧ 1 ≤ many ∧ many ≤ 1073741824 ∧ rows.length ≤ 40 ∧ l' = drw (X :: pre) post d r seed rows) (f := 443) (d := 1) (b2 := false) (by walk_at "ev") (hK.keepA (by decide +kernel)) ?_ ?_ (by decide) (fun h => nomatch h) rfl
      · refine Exs.vcons (by walk_at "ev") (Exs.cons (R1 := fun v l' => ∃ k X seed rows, v = .int k ∧ 1 ≤ k ∧ k ≤ 1073741824 ∧ rows.length ≤ 40 ∧ l' = drw (X :: pre) post d r seed rows) ?_ ?_ rfl) rfl
        · refine Ex.item_lX (vs := [.int 300, .int 70000, .int (2 ^ (30 : Int).toNat)]) (R2 := fun D => Took ((D, .list [.int 300, .int 70000, .int (2 ^ (30 : Int).toNat)]) :: pre) post d r 3) (Ex.list (Evs.cons Ev.const_int (Evs.cons Ev.const_int (Evs.cons (Ev.bin Ev.const_int Ev.const_int (Bop.pow (by decide) (by decide) (by decide))) .nil rfl) rfl) rfl) (by decide)) (fun D => ?_) ?_ rfl
          · exact Ex.take hK (pre := _ :: pre) (by walk_at "ev") (by walk_at "ev") hr (by decide) (by kernel_rfl)
          · rintro D _ _ ⟨k, seed', rows', rfl, k0, k1, k2, rfl⟩
            have h3 : k.toNat < ([AV.int 300, .int 70000, .int (2 ^ (30 : Int).toNat)] : List AV).length := by simp only [List.length_cons, List.length_nil]; omega
            (refine El.eaxaxx (three_in (List.getElem?_eq_getElem h3)) fun j e j1 j2 => ?_)
            exact ⟨k, _, rfl, .head _, k0, by omega, List.getElem?_eq_getElem h3, j, _, seed', rows', e, j1, j2, k2, rfl⟩
        · (intro zr1 zr2 zr3; refine El.eeeeaxaxaxaxx (zr3) fun k X seed' rows' zz1 k1 k2 k3 zz2 => ?_; try clear zr3; (first | subst zz1 | cases zz1); (first | subst zz2 | cases zz2))
          exact Exs.done ⟨k, X, seed', rows', rfl, k1, k2, k3, rfl⟩
      · (intro zr1 zr2 zr3; refine El.eeeeaxaxaxaxx (zr3) fun many X seed' rows' zz1 k1 k2 k3 zz2 => ?_; try clear zr3; (first | subst zz1 | cases zz1); (first | subst zz2 | cases zz2))
        exact fun F n b' c E m Q h tk us hd hb S hr kk => ltake_C hK d r seed' many rows' (X :: pre) post k3 k1 F n b' c E m Q h tk us hd hb S hr fun h' tk' u v l' ⟨k, s2, r2, e, a0, a1, a2, a3⟩ => kk h' tk' u v l' ⟨k, X, s2, r2, e, a0, by omega, a2, a3⟩
    · (intro zr1 zr2 zr3; refine El.eeeeaxaxaxaxx (zr3) fun num X seed' rows' zz1 k1 k2 k3 zz2 => ?_; try clear zr3; (first | subst zz1 | cases zz1); (first | subst zz2 | cases zz2))
      refine Exs.cons (Ex.oct hK (pre := X :: pre) (most := 6) (by walk_at "ev") (by walk_at "ev") k3 (by decide) (by decide) (by kernel_rfl)) ?_ rfl
      rintro _ _ ⟨pay, s2, r2, rfl, ao, a0, a1, rfl⟩
      exact Exs.done ⟨num, pay, X, s2, r2, rfl, k1, k2, by omega, ao, a1, rfl⟩
  (intro zr1 zr2 zr3; refine El.eeeeex (zr3) fun num pay X s1 r1 zq65 => ?_; try clear zr3; refine El.axaxaxaxaxaxx (zq65) fun zz1 n0 n1 hp po hr1 zz2 => ?_; try clear zq65; (first | subst zz1 | cases zz1); (first | subst zz2 | cases zz2))
  refine Wb.pick (t := drw pre post d r s1 r1) ?_ (.skip .refl)
  have hl34 : 3 ≤ (if last then 4 else 3 : Int) ∧ (if last then 4 else 3 : Int) ≤ 4 := by split <;> decide
  refine Wb.assignX (R := Took pre post d r (if last then 4 else 3)) (Ex.take hK (by walk_at "ev") (Ev.ifexp (Te.ofV (x := last) (by walk_at "ev") rfl) (fun h => ?_) fun h => ?_) hr1 (by omega) (by kernel_rfl)) (by kernel_rfl) ?_
  · rw [if_pos h]; exact Ev.const_int
  · rw [if_neg h]; exact Ev.const_int
  rintro _ _ ⟨form, s2, r2, rfl, f0, f1, hr2, rfl⟩
  with_reducible apply Wb.if
  · walk_at "te"
  · rintro rfl
    have hlast : last = true := by cases last with | true => rfl | false => exact absurd f1 (by decide)
    refine Wb.retQ (Ex.tupX (RL := fun vs l0 => ∃ sp kp seed rows, vs = [.str (Str.ofString "short"), .int sp, .int kp, .bytes kd, .int num, .bytes pay] ∧ 0 ≤ sp ∧ sp < 2 ∧ 0 ≤ kp ∧ kp < 2 ∧ rows.length ≤ 40 ∧ l0 = drw pre post d r seed rows) ?_ ?_) ?_
    · refine Exs.vcons (by walk_at "ev") (Exs.cons (Ex.take hK (many := 2) (by walk_at "ev") (by walk_at "ev") hr2 (by decide) (by kernel_rfl)) ?_ rfl) rfl
      rintro _ _ ⟨sp, s3, r3, rfl, a0, a1, hr3, rfl⟩
      refine Exs.cons (Ex.take hK (many := 2) (by walk_at "ev") (by walk_at "ev") hr3 (by decide) (by kernel_rfl)) ?_ rfl
      rintro _ _ ⟨kp, s4, r4, rfl, a2, a3, hr4, rfl⟩
      exact Exs.ofv (by walk_at "evs") ⟨sp, kp, s4, r4, rfl, a0, a1, a2, a3, hr4, rfl⟩
    · (intro zr1 zr2 zr3; refine El.eeeex (zr3) fun zz1 zz2 zz3 zz4 zq66 => ?_; try clear zr3; refine El.axx (zq66) fun zz5 zz6 => ?_; try clear zq66; (first | subst zz5 | cases zz5)); exact Nat.le_of_ble_eq_true rfl
    · (intro zr1 zr2 zr3; refine El.eeex (zr3) fun P zz1 zz2 zq67 => ?_; try clear zr3; refine El.axaxx (zq67) fun zz3 zz4 zq68 => ?_; try clear zq67; refine El.eeeex (zq68) fun sp kp s4 r4 zq69 => ?_; try clear zq68; refine El.axaxaxaxaxaxx (zq69) fun zz5 a0 a1 a2 a3 hr4 zz6 => ?_; try clear zq69; (first | subst zz3 | cases zz3); (first | subst zz4 | cases zz4); (first | subst zz5 | cases zz5); (first | subst zz6 | cases zz6))
      exact ⟨_, .refl, P, ⟨.short, sp, kp, kd, ks, [], num, pay⟩, s4, r4, rfl, ⟨rfl, rfl, (fun h => nomatch (hlast.symm.trans h)), a0, (by show sp ≤ 1; omega), a2, (by show kp ≤ 1; omega), n0, n1, hp, Nat.zero_le 5, po⟩, hr4, rfl⟩
  · intro hf3
    refine Wb.beh ?_
    with_reducible apply Wb.if
    · walk_at "te"
    · rintro rfl
      refine Wb.retQ (Ex.tupX (RL := fun vs l0 => ∃ tok seed rows, vs = [.str (Str.ofString "initial"), .int 1, .bytes kd, .bytes ks, .bytes tok, .int num, .bytes pay] ∧ (tok.length : Int) ≤ 5 ∧ rows.length ≤ 40 ∧ l0 = drw pre post d r seed rows) ?_ ?_) ?_
      · refine Exs.vcons (by walk_at "ev") (Exs.vcons (by walk_at "ev") (Exs.vcons (by walk_at "ev") (Exs.vcons (by walk_at "ev") (Exs.cons (Ex.oct hK (most := 5) (by walk_at "ev") (by walk_at "ev") hr2 (by decide) (by decide) (by kernel_rfl)) ?_ rfl) rfl) rfl) rfl) rfl
        rintro _ _ ⟨tok, s3, r3, rfl, _, a0, hr3, rfl⟩
        exact Exs.ofv (by walk_at "evs") ⟨tok, s3, r3, rfl, a0, hr3, rfl⟩
      · (intro zr1 zr2 zr3; refine El.eeeaxx (zr3) fun zz1 zz2 zz3 zz4 zz5 => ?_; try clear zr3; (first | subst zz4 | cases zz4)); exact Nat.le_of_ble_eq_true rfl
      · (intro zr1 zr2 zr3; refine El.eeex (zr3) fun P zz1 zz2 zq70 => ?_; try clear zr3; refine El.axaxx (zq70) fun zz3 zz4 zq71 => ?_; try clear zq70; refine El.eeeaxaxaxx (zq71) fun tok s4 r4 zz5 a0 hr4 zz6 => ?_; try clear zq71; (first | subst zz3 | cases zz3); (first | subst zz4 | cases zz4); (first | subst zz5 | cases zz5); (first | subst zz6 | cases zz6))
        exact ⟨_, .refl, P, ⟨.initial, 0, 0, kd, ks, tok, num, pay⟩, s4, r4, rfl, ⟨rfl, rfl, (fun _ h => nomatch h), Int.le_refl 0, Int.zero_le_ofNat 1, Int.le_refl 0, Int.zero_le_ofNat 1, n0, n1, hp, (by show tok.length ≤ 5; omega), po⟩, hr4, rfl⟩
    · intro hf0
      refine Wb.beh ?_
      have hf : form = 1 ∨ form = 2 := by have := hl34.2; omega
      refine Wb.retQ (Ex.tupX (RL := fun vs l0 => ∃ X, l0 = drw (X :: pre) post d r s2 r2 ∧ ((form = 1 ∧ vs = [.str (Str.ofString "zero"), .int 1, .bytes kd, .bytes ks, .int num, .bytes pay]) ∨ (form = 2 ∧ vs = [.str (Str.ofString "handshake"), .int 1, .bytes kd, .bytes ks, .int num, .bytes pay]))) ?_ ?_) ?_
      · refine Exs.cons (R1 := fun v l' => ∃ X, l' = drw (X :: pre) post d r s2 r2 ∧ ((form = 1 ∧ v = .str (Str.ofString "zero")) ∨ (form = 2 ∧ v = .str (Str.ofString "handshake")))) ?_ ?_ rfl
        · refine Ex.item_lX (vs := [.str (Str.ofString "zero"), .str (Str.ofString "handshake")]) (R2 := fun D => Is (.int (form - 1)) (drw ((D, .list [.str (Str.ofString "zero"), .str (Str.ofString "handshake")]) :: pre) post d r s2 r2)) (Ex.list (by walk_at "evs") (by decide)) (fun D => Ev.x (by walk_at "ev")) ?_ rfl
          (intro D zr2 zr3 zr4; refine El.axx (zr4) fun zz1 zz2 => ?_; try clear zr4; (first | subst zz1 | cases zz1); (first | subst zz2 | cases zz2))
          rcases hf with rfl | rfl
          · exact ⟨_, .str (Str.ofString "zero"), rfl, .head _, by decide, by decide, rfl, _, rfl, .inl ⟨rfl, rfl⟩⟩
          · exact ⟨_, .str (Str.ofString "handshake"), rfl, .head _, by decide, by decide, rfl, _, rfl, .inr ⟨rfl, rfl⟩⟩
        · (intro v zr2 zr3; refine El.eaxx (zr3) fun X zz1 hv => ?_; try clear zr3; (first | subst zz1 | cases zz1))
          refine Exs.ofv (vs := [.int 1, .bytes kd, .bytes ks, .int num, .bytes pay]) (by walk_at "evs") ⟨X, rfl, ?_⟩
          rcases hv with ⟨h1, rfl⟩ | ⟨h1, rfl⟩
          · exact .inl ⟨h1, rfl⟩
          · exact .inr ⟨h1, rfl⟩
      · rintro _ _ ⟨_, _, ⟨_, rfl⟩ | ⟨_, rfl⟩⟩ <;> exact Nat.le_of_ble_eq_true rfl
      · rintro _ _ ⟨P, _, _, rfl, rfl, X, rfl, ⟨_, rfl⟩ | ⟨_, rfl⟩⟩
        · exact ⟨_, .cons .head (.skip .refl), P, ⟨.zero, 0, 0, kd, ks, [], num, pay⟩, s2, r2, rfl, ⟨rfl, rfl, (fun _ h => nomatch h), Int.le_refl 0, Int.zero_le_ofNat 1, Int.le_refl 0, Int.zero_le_ofNat 1, n0, n1, hp, Nat.zero_le 5, po⟩, hr2, rfl⟩
        · exact ⟨_, .cons .head (.skip .refl), P, ⟨.handshake, 0, 0, kd, ks, [], num, pay⟩, s2, r2, rfl, ⟨rfl, rfl, (fun _ h => nomatch h), Int.le_refl 0, Int.zero_le_ofNat 1, Int.le_refl 0, Int.zero_le_ofNat 1, n0, n1, hp, Nat.zero_le 5, po⟩, hr2, rfl⟩

inductive LKn (pre post : AL) (d r : Addr) (num : Int) (v : AV) (l' : AL) : Prop
  | mk (T : Addr) (la seen : AV) (seed : Int) (rows : List Int) (e : v = .ref T) (hk : KnownOk num la seen) (hr : rows.length ≤ 40) (el : l' = drw ((T, .tup [la, seen]) :: pre) post d r seed rows) : LKn pre post d r num v l'
theorem lknown_C {w : World} {K : Frag} (hK : KOk K) (d r : Addr) (seed num : Int) (rows : List Int) (pre post : AL) (hr : rows.length ≤ 40) (hn0 : 0 ≤ num) : Cw w K 462 2 false [.ref d, .int num] (drw pre post d r seed rows) (LKn pre post d r num) := by
  refine Cw.def (F := topF 71 462) (xs := [Str.ofString "draws", Str.ofString "number"]) (hK.fn 71 462 (by decide +kernel)) (Binds.of2 fun _ _ _ _ _ _ => by kernel_rfl) (by kernel_rfl) rfl fun c E => ?_
  show Wb c E [(Str.ofString "draws", .ref d), (Str.ofString "number", .int num)] (drw pre post d r seed rows) (_ :: _ :: _ :: _) _
  refine Wb.ifX (T := fun v l' => (∃ seed rows, rows.length ≤ 40 ∧ l' = drw pre post d r seed rows) ∧ (v = true → num < 200) ∧ (v = false → num ≠ 0)) ?_ ?_ ?_
  · refine Tx.or (T1 := fun v l' => (v = true ↔ num = 0) ∧ l' = drw pre post d r seed rows) (Te.x (by walk_at "te")) ?_ ?_
    · (intro zr1 zr2; refine El.axx (zr2) fun h zz1 => ?_; try clear zr2; (first | subst zz1 | cases zz1))
      have := h.mp rfl
      exact ⟨⟨seed, rows, hr, rfl⟩, fun _ => by omega, fun q => nomatch q⟩
    · (intro zr1 zr2; refine El.axx (zr2) fun h zz1 => ?_; try clear zr2; (first | subst zz1 | cases zz1))
      have h0 : num ≠ 0 := fun q => nomatch h.mpr q
      refine Tx.or (T1 := fun v l' => (∃ seed rows, rows.length ≤ 40 ∧ l' = drw pre post d r seed rows) ∧ (v = true → num < 200)) ?_ ?_ ?_
      · refine Tx.and (T1 := fun v l' => (v = true ↔ num < 200) ∧ l' = drw pre post d r seed rows) (Te.x (by walk_at "te")) ?_ ?_
        · (intro zr1 zr2; refine El.axx (zr2) fun zz1 zz2 => ?_; try clear zr2; (first | subst zz2 | cases zz2))
          exact ⟨⟨seed, rows, hr, rfl⟩, fun q => nomatch q⟩
        · (intro zr1 zr2; refine El.axx (zr2) fun h2 zz1 => ?_; try clear zr2; (first | subst zz1 | cases zz1))
          have h2' := h2.mp rfl
          refine Tx.and (T1 := fun v l' => ∃ seed rows, rows.length ≤ 40 ∧ l' = drw pre post d r seed rows) (Tx.cmp (Ex.take hK (many := 2) (by walk_at "ev") (by walk_at "ev") hr (by decide) (by kernel_rfl)) ?_ (by with_unfolding_all rfl)) ?_ ?_
          · rintro _ _ ⟨k, s2, r2, rfl, _, _, hr2, rfl⟩
            exact ⟨_, _, by walk_at "ev", by walk_at "cop", fun _ => ⟨s2, r2, hr2, rfl⟩, fun _ => ⟨s2, r2, hr2, rfl⟩⟩
          · exact fun l' h => ⟨h, fun q => nomatch q⟩
          · exact fun l' h => Tx.and_nil ⟨h, fun _ => h2'⟩
      · exact fun l' h => ⟨h.1, h.2, (fun q => nomatch q)⟩
      · exact fun l' h => Tx.or_nil ⟨h.1, (fun q => nomatch q), fun _ => h0⟩
  · (intro zr1 zr2; refine El.axaxx (zr2) fun zq78 hlt zz2 => ?_; try clear zr2; refine El.eeaxx (zq78) fun s1 r1 hr1 zz1 => ?_; try clear zq78; (first | subst zz1 | cases zz1))
    refine Wb.retQ (Ex.tupX (RL := fun vs l0 => ∃ seen seed rows, vs = [.none, seen] ∧ (seen = .none ∨ seen = .int (num - 1)) ∧ rows.length ≤ 40 ∧ l0 = drw pre post d r seed rows) ?_ ?_) ?_
    · refine Exs.vcons Ev.const_none (Exs.cons (R1 := fun v l' => (v = .none ∨ v = .int (num - 1)) ∧ ∃ seed rows, rows.length ≤ 40 ∧ l' = drw pre post d r seed rows) ?_ ?_ rfl) rfl
      · refine Ex.ifexpX (T := fun v l' => ∃ seed rows, rows.length ≤ 40 ∧ l' = drw pre post d r seed rows) ?_ ?_ ?_
        · refine Tx.or (T1 := fun v l' => (v = true ↔ num = 0) ∧ l' = drw pre post d r s1 r1) (Te.x (by walk_at "te")) ?_ ?_
          · (intro zr1 zr2; refine El.axx (zr2) fun zz1 zz2 => ?_; try clear zr2; (first | subst zz2 | cases zz2)); exact ⟨s1, r1, hr1, rfl⟩
          · (intro zr1 zr2; refine El.axx (zr2) fun zz1 zz2 => ?_; try clear zr2; (first | subst zz2 | cases zz2))
            refine Tx.or (T1 := fun v l' => ∃ seed rows, rows.length ≤ 40 ∧ l' = drw pre post d r seed rows) (Tx.cmp (Ex.take hK (many := 2) (by walk_at "ev") (by walk_at "ev") hr1 (by decide) (by kernel_rfl)) ?_ (by with_unfolding_all rfl)) (fun _ h => h) (fun _ h => Tx.or_nil h)
            rintro _ _ ⟨k, s2, r2, rfl, _, _, hr2, rfl⟩
            exact ⟨_, _, by walk_at "ev", by walk_at "cop", fun _ => ⟨s2, r2, hr2, rfl⟩, fun _ => ⟨s2, r2, hr2, rfl⟩⟩
        · (intro zr1 zr2; refine El.eeaxx (zr2) fun s2 r2 hr2 zz1 => ?_; try clear zr2; (first | subst zz1 | cases zz1))
          exact (Ev.x Ev.const_none).mono (by (intro zr1 zr2 zr3; refine El.axx (zr3) fun zz1 zz2 => ?_; try clear zr3; (first | subst zz1 | cases zz1); (first | subst zz2 | cases zz2)); exact ⟨.inl rfl, s2, r2, hr2, rfl⟩)
        · (intro zr1 zr2; refine El.eeaxx (zr2) fun s2 r2 hr2 zz1 => ?_; try clear zr2; (first | subst zz1 | cases zz1))
          refine (Ev.x (v := .int (num - 1)) ?_).mono (by (intro zr1 zr2 zr3; refine El.axx (zr3) fun zz1 zz2 => ?_; try clear zr3; (first | subst zz1 | cases zz1); (first | subst zz2 | cases zz2)); exact ⟨.inr rfl, s2, r2, hr2, rfl⟩)
          walk_at "ev"
      · (intro v zr2 zr3; refine El.axx (zr3) fun hv zq79 => ?_; try clear zr3; refine El.eeaxx (zq79) fun s2 r2 hr2 zz1 => ?_; try clear zq79; (first | subst zz1 | cases zz1))
        exact Exs.done ⟨v, s2, r2, rfl, hv, hr2, rfl⟩
    · (intro zr1 zr2 zr3; refine El.eeeaxx (zr3) fun zz1 zz2 zz3 zz4 zz5 => ?_; try clear zr3; (first | subst zz4 | cases zz4)); exact Nat.le_of_ble_eq_true rfl
    · (intro zr1 zr2 zr3; refine El.eeex (zr3) fun T zz1 zz2 zq80 => ?_; try clear zr3; refine El.axaxx (zq80) fun zz3 zz4 zq81 => ?_; try clear zq80; refine El.eeeaxaxaxx (zq81) fun seen s2 r2 zz5 hs hr2 zz6 => ?_; try clear zq81; (first | subst zz3 | cases zz3); (first | subst zz4 | cases zz4); (first | subst zz5 | cases zz5); (first | subst zz6 | cases zz6))
      exact ⟨_, .refl, T, .none, seen, s2, r2, rfl, .inl ⟨rfl, hlt rfl, hs⟩, hr2, rfl⟩
  · (intro zr1 zr2; refine El.axaxx (zr2) fun zq82 zz2 hne => ?_; try clear zr2; refine El.eeaxx (zq82) fun s1 r1 hr1 zz1 => ?_; try clear zq82; (first | subst zz1 | cases zz1))
    have hne' := hne rfl
    refine Wb.beh ?_
    have hm : 1 ≤ (if (40000 : Int) < num then 40000 else num) ∧ (if (40000 : Int) < num then 40000 else num) ≤ 40000 ∧ (if (40000 : Int) < num then 40000 else num) ≤ num := by split <;> omega
    refine Wb.assignX (R := fun v l' => ∃ k seed rows, v = .int (num - 1 - k) ∧ 0 ≤ k ∧ k < 40000 ∧ k < num ∧ rows.length ≤ 40 ∧ l' = drw pre post d r seed rows) ?_ (by kernel_rfl) ?_
    · refine Ex.binR (x := .int (num - 1)) (R2 := Took pre post d r (if (40000 : Int) < num then 40000 else num)) (by walk_at "ev") (Ex.take hK (by walk_at "ev") ?_ hr1 hm.1 (by kernel_rfl)) ?_
      · refine Ev.callE (Ev.bt hK (u := .builtin "min") (by kernel_rfl) (by kernel_rfl) (by kernel_rfl)) keeps_builtin (vs := [.int num, .int 40000]) ?_ Bw.min2 rfl
        walk_at "evs"
      · rintro _ _ ⟨k, s2, r2, rfl, k0, k1, hr2, rfl⟩
        exact ⟨.int (num - 1 - k), Bop.sub, k, s2, r2, rfl, k0, by omega, by omega, hr2, rfl⟩
    (intro zr1 zr2 zr3; refine El.eeex (zr3) fun k s2 r2 zq83 => ?_; try clear zr3; refine El.axaxaxaxaxx (zq83) fun zz1 k0 k1 k2 hr2 zz2 => ?_; try clear zq83; (first | subst zz1 | cases zz1); (first | subst zz2 | cases zz2))
    refine Wb.retQ (Ex.tupX (RL := fun vs l0 => ∃ j seed rows, vs = [.int (num - 1 - k), .int (num - 1 - k + j)] ∧ 0 ≤ j ∧ j < num - (num - 1 - k) + 20 ∧ rows.length ≤ 40 ∧ l0 = drw pre post d r seed rows) ?_ ?_) ?_
    · refine Exs.vcons (by walk_at "ev") (Exs.cons (R1 := fun v l' => ∃ j seed rows, v = .int (num - 1 - k + j) ∧ 0 ≤ j ∧ j < num - (num - 1 - k) + 20 ∧ rows.length ≤ 40 ∧ l' = drw pre post d r seed rows) ?_ ?_ rfl) rfl
      · refine Ex.binR (x := .int (num - 1 - k)) (R2 := Took pre post d r (num - (num - 1 - k) + 20)) (by walk_at "ev") (Ex.take hK (by walk_at "ev") (by walk_at "ev") hr2 (by omega) (by kernel_rfl)) ?_
        rintro _ _ ⟨j, s3, r3, rfl, j0, j1, hr3, rfl⟩
        exact ⟨_, Bop.add, j, s3, r3, rfl, j0, j1, hr3, rfl⟩
      · (intro zr1 zr2 zr3; refine El.eeex (zr3) fun j s3 r3 zq84 => ?_; try clear zr3; refine El.axaxaxaxx (zq84) fun zz1 j0 j1 hr3 zz2 => ?_; try clear zq84; (first | subst zz1 | cases zz1); (first | subst zz2 | cases zz2))
        exact Exs.done ⟨j, s3, r3, rfl, j0, j1, hr3, rfl⟩
    · (intro zr1 zr2 zr3; refine El.eeeaxx (zr3) fun zz1 zz2 zz3 zz4 zz5 => ?_; try clear zr3; (first | subst zz4 | cases zz4)); exact Nat.le_of_ble_eq_true rfl
    · (intro zr1 zr2 zr3; refine El.eeex (zr3) fun T zz1 zz2 zq85 => ?_; try clear zr3; refine El.axaxx (zq85) fun zz3 zz4 zq86 => ?_; try clear zq85; refine El.eeex (zq86) fun j s3 r3 zq87 => ?_; try clear zq86; refine El.axaxaxaxx (zq87) fun zz5 j0 j1 hr3 zz6 => ?_; try clear zq87; (first | subst zz3 | cases zz3); (first | subst zz4 | cases zz4); (first | subst zz5 | cases zz5); (first | subst zz6 | cases zz6))
      exact ⟨_, .refl, T, _, _, s3, r3, rfl, .inr ⟨_, _, rfl, rfl, by omega, by omega, by omega, by omega, by omega⟩, hr3, rfl⟩
noncomputable def absAt (zs : List Int) (i : Nat) : Int := if zs.getD i 0 < 0 then -(zs.getD i 0) else zs.getD i 0
theorem ldraws_B {w : World} {K : Frag} (hK : KOk K) {F : Fn} {n : Nat} {b : Bool} {c : Cx w K F n b} {E : Value → Shared → Prop} {m : AM} {l : AL} (sa : Addr) (us : List Value) (zs : List Int) (hI : IntsAre us zs) (hz : us.length ≤ 1000) (hs : c.h₀.IsList sa us.toArray) (hn : 1 ≤ n) :
    Bw c E m (.ref 436) [.ref sa] l (fun v l' => ∃ d r seed rows, v = .ref d ∧ rows.length ≤ 40 ∧ l' = drw [] l d r seed rows) := by
  refine Bw.defH (F' := topF 67 436) (xs := [Str.ofString "script"]) (d := 0) (fun h => h.IsList sa us.toArray) hs (fun g g' hg hk => by (refine El.eaxx (hg) fun o ho r => ?_; try clear hg); exact ⟨o, hk _ _ ho, r⟩) (hK.fn 67 436 (by decide +kernel)) (Binds.of1 fun _ _ _ _ _ => by kernel_rfl) (by kernel_rfl) rfl hn fun c E hs => ?_
  show Wb c E [(Str.ofString "script", .ref sa)] l (_ :: _ :: _ :: _) _
  refine Wb.swap (xs := [Str.ofString "rows", Str.ofString "seed"]) (RL := fun vs l0 => ∃ (D : Addr) (ks : List Int), vs = [.ref D, .int 6151] ∧ ks.length ≤ 40 ∧ l0 = (D, .list (ks.map .int)) :: l) ?_ (fun vs l0 h => by (refine El.eeaxx (h) fun zz1 zz2 zz3 zz4 => ?_; try clear h; (first | subst zz3 | cases zz3)); rfl) (by kernel_rfl) rfl ?_
  · refine Exs.cons (R1 := fun v l' => ∃ (D : Addr) (ks : List Int), v = .ref D ∧ ks.length ≤ 40 ∧ l' = (D, .list (ks.map .int)) :: l) ?_ ?_ rfl
    · refine Ex.compL (c := c) (cl := []) (R := fun v l' => ∃ (D : Addr) (ks : List Int), v = .ref D ∧ ks.length ≤ 40 ∧ l' = (D, .list (ks.map .int)) :: l) (fun vs l0 => vs.length ≤ 40 ∧ (∀ (i : Nat) v, vs[i]? = some v → v = AV.int (zs.getD i 0)) ∧ l0 = l) (absAt zs) (by with_unfolding_all rfl) (by decide +kernel) rfl (by decide +kernel) rfl ?_ ?_ ?_ rfl
      · intro Γ hΓ
        refine Ex.list_cut (D := sa) (j := 40) (by walk_at "ev") (by walk_at "ev") rfl fun h S => ?_
        have hsl : h.IsList sa us.toArray := by
          (refine El.eaxx (hs) fun o ho r => ?_; try clear hs)
          exact ⟨o, St.keep (c := c.put Γ hΓ) S _ _ ho, r⟩
        refine ⟨us, hsl, hz, fun D' => ⟨(zs.take 40).map .int, ?_, D', _, l, rfl, rfl, ?_, ?_, ?_, rfl⟩⟩
        · rw [show (some 40 : Option Int) = some ((40 : Nat) : Int) from rfl, slicePick_upto' us.toArray 40]
          exact reals_ints (hI.take 40)
        · rw [List.length_map, List.length_take]; omega
        · rw [List.length_map, List.length_take]; omega
        · intro i v hv
          rw [List.getElem?_map, List.getElem?_take] at hv
          split at hv
          · (refine El.eaxx (Option.map_eq_some_iff.mp hv) fun x hx zz1 => ?_; (first | subst zz1 | cases zz1))
            rw [List.getD_eq_getElem?_getD, hx]; rfl
          · cases hv
      · (intro c₁ vs l0 i v u C m₂ ld Q E' h tk hc zr15 hv r hm hN hld S kk; refine El.axaxx (zr15) fun zz1 hvs zz2 => ?_; try clear zr15; (first | subst zz2 | cases zz2))
        obtain rfl := hvs i v hv
        exact Gc_abs hK rfl (by with_unfolding_all rfl) (by with_unfolding_all rfl) (by with_unfolding_all rfl) rfl S hm hN r kk
      · (intro vs zr2 D zr4; refine El.axaxx (zr4) fun h1 zz1 zz2 => ?_; try clear zr4; (first | subst zz2 | cases zz2))
        exact ⟨D, (List.range vs.length).map (absAt zs), rfl, by rw [List.length_map, List.length_range]; exact h1, by rw [List.map_map]; rfl⟩
    · (intro zr1 zr2 zr3; refine El.eeaxaxx (zr3) fun D ks zz1 h1 zz2 => ?_; try clear zr3; (first | subst zz1 | cases zz1); (first | subst zz2 | cases zz2))
      exact Exs.ofv (vs := [.int 6151]) (by walk_at "evs") ⟨D, ks, rfl, h1, rfl⟩
  (intro zr1 zr2 zr3; refine El.eeaxaxx (zr3) fun D ks zz1 hk zz2 => ?_; try clear zr3; (first | subst zz1 | cases zz1); (first | subst zz2 | cases zz2))
  have hvlen : (ks.map AV.int).length = ks.length := List.length_map ..
  refine Wb.forK (items := ks.map .int) (RK := fun kp l' => ∃ us n, Reals (ks.map .int) us ∧ kp = [(D, W.listOf us.toArray n)] ∧ l' = (D, .raw (W.listOf us.toArray n)) :: l) (fun kp i m1 l1 => (∃ us n, Reals (ks.map .int) us ∧ kp = [(D, W.listOf us.toArray n)] ∧ l1 = (D, .raw (W.listOf us.toArray n)) :: l) ∧ ∃ seed, Sub [(Str.ofString "rows", .ref D), (Str.ofString "seed", .int seed)] m1) (IterK.list (by walk_at "ev")) (fun kp l' h => ⟨h, _, by walk_at "sub"⟩) ?_ ?_ ?_ (by kernel_rfl)
  · (intro zr1 i m1 zr4 zr5 p hp; refine El.axx (zr5) fun zq88 zz3 => ?_; try clear zr5; refine El.eeaxaxx (zq88) fun us k r zz1 zz2 => ?_; try clear zq88; (first | subst zz1 | cases zz1); (first | subst zz2 | cases zz2))
    rw [List.mem_singleton.mp hp]; exact .head _
  · (intro c₁ E₁ zr3 i v I o m1 zr9 hv zr11; refine El.axx (zr11) fun zq89 zq90 => ?_; try clear zr11; refine El.eeaxaxx (zq89) fun us k r zz1 zz2 => ?_; try clear zq89; refine El.ex (zq90) fun seed hm => ?_; try clear zq90; (first | subst zz1 | cases zz1); (first | subst zz2 | cases zz2))
    (refine El.eaxx (List.mem_map.mp (List.mem_of_getElem? hv)) fun x hx zz1 => ?_; (first | subst zz1 | cases zz1))
    refine Wb.sub ?_ hm.up
    walk_at "as"
    exact Wb.nil ⟨_, rfl, ⟨us, k, r, rfl, rfl⟩, _, by walk_at "sub"⟩
  · (intro zr1 m1 zr3 zr4; refine El.axx (zr4) fun zq91 zq92 => ?_; try clear zr4; refine El.eeaxaxx (zq91) fun us k r zz1 zz2 => ?_; try clear zq91; refine El.ex (zq92) fun seed hm => ?_; try clear zq92; (first | subst zz1 | cases zz1); (first | subst zz2 | cases zz2))
    refine Wb.sub (Wb.unraw ?_ r) hm
    refine Wb.retQ (Ex.list (vs := [.ref D, .int seed]) (by walk_at "evs") (Nat.le_of_ble_eq_true rfl)) ?_
    (intro zr1 zr2 zr3; refine El.eaxx (zr3) fun d zz1 zz2 => ?_; try clear zr3; (first | subst zz1 | cases zz1); (first | subst zz2 | cases zz2))
    exact ⟨drw [] l d D seed ks, .refl, d, D, seed, ks, rfl, hk, rfl⟩

theorem Bw.mono {w : World} {K : Frag} {F : Fn} {n : Nat} {b : Bool} {c : Cx w K F n b} {E : Value → Shared → Prop} {m : AM} {l : AL} {f : Value} {vs : List AV} {R R' : AV → AL → Prop} (B : Bw c E m f vs l R) (h : ∀ v l', R v l' → R' v l') : Bw c E m f vs l R' := fun Q hh tk us S r k => B Q hh tk us S r fun h' tk' u v l' hv S' r' => k h' tk' u v l' (h v l' hv) S' r'
theorem head_short_C {w : World} {K : Frag} (hK : KOk K) (P : Addr) (data d : List Int) (sp kp num : Int) (pay : List Int) (l : AL) (hm : (P, AO.tup [.str (Str.ofString "short"), .int sp, .int kp, .bytes d, .int num, .bytes pay]) ∈ l) (hl : data.length ≤ 10000) (h0 : 1 + d.length ≤ data.length) (h1 : (data.getD 0 0).fdiv 64 = 1) (h2 : (data.drop 1).take d.length = d) :
    Cw w K 469 1 false [.bytes data, .ref P] l (Is (.bool true) l) := by
  refine Cw.def (F := topF 72 469) (xs := [Str.ofString "data", Str.ofString "packet"]) (hK.fn 72 469 (by decide +kernel)) (Binds.of2 fun _ _ _ _ _ _ => by kernel_rfl) (by kernel_rfl) rfl fun c E => ?_
  show Wb c E [(Str.ofString "data", .bytes data), (Str.ofString "packet", .ref P)] l (_ :: _ :: _ :: _ :: _ :: _ :: _) _
  with_reducible apply Wb.if
  · walk_at "te"
  · intro _
    refine Wb.ret (v := .bool (decide ((data.getD (0 : Int).toNat 0).fdiv 64 = 1) && decide ((data.drop (1 : Int).toNat).take (1 + (d.length : Nat) - 1 : Int).toNat = d))) (Ev.and (Ev.cmp ?_ ?_ Cop.eq (by with_unfolding_all rfl)) fun _ => Ev.and_one (Ev.cmp ?_ ?_ Cop.beq (by with_unfolding_all rfl))) ?_
    · walk_at "ev"
    · walk_at "ev"
    · walk_at "ev"
    · walk_at "ev"
    · refine ⟨?_, rfl⟩
      have e1 : (1 + (d.length : Nat) - 1 : Int).toNat = d.length := by omega
      have e2 : decide ((data.drop (1 : Int).toNat).take d.length = d) = true := decide_eq_true h2
      have e3 : decide ((data.getD (0 : Int).toNat 0).fdiv 64 = 1) = true := decide_eq_true h1
      rw [e1, e2, e3]; rfl
  · intro h; exact absurd rfl h
theorem head_long_C {w : World} {K : Frag} (hK : KOk K) (P : Addr) (data : List Int) (vs : List AV) (x : Str) (j : Nat) (d sc mid : List Int) (l : AL) (hm : (P, AO.tup vs) ∈ l) (v0 : vs[0]? = some (.str x)) (v2 : vs[2]? = some (.bytes d)) (v3 : vs[3]? = some (.bytes sc)) (hv : 5 ≤ vs.length) (hv1 : vs.length ≤ 100)
    (hx : [Str.ofString "initial", Str.ofString "zero", Str.ofString "handshake"][j]? = some x) (hno : ∀ i, i < j → [Str.ofString "initial", Str.ofString "zero", Str.ofString "handshake"][i]? ≠ some x) (hs : x ≠ Str.ofString "short")
    (hmid : (j = 0 ∧ ∃ tok : List Int, vs[4]? = some (.bytes tok) ∧ mid = (tok.length : Int) :: tok ∧ tok.length < 64) ∨ (j ≠ 0 ∧ mid = [])) (ld : d.length ≤ 20) (ls : sc.length ≤ 20) (hl : data.length ≤ 10000)
    (head : List Int) (hhd : head = (([0, 0, 0, 1, (d.length : Int)] ++ d) ++ [(sc.length : Int)]) ++ sc ++ mid) (h0 : 1 + head.length < data.length) (h1 : (data.getD 0 0).fdiv 16 = 12 + j) (h2 : (data.drop 1).take head.length = head) (h3 : (data.length : Int) = 2 + head.length + data.getD (1 + head.length) 0) :
    Cw w K 469 1 false [.bytes data, .ref P] l (Is (.bool true) l) := by
  refine Cw.def (F := topF 72 469) (xs := [Str.ofString "data", Str.ofString "packet"]) (hK.fn 72 469 (by decide +kernel)) (Binds.of2 fun _ _ _ _ _ _ => by kernel_rfl) (by kernel_rfl) rfl fun c E => ?_
  show Wb c E [(Str.ofString "data", .bytes data), (Str.ofString "packet", .ref P)] l (_ :: _ :: _ :: _ :: _ :: _ :: _) _
  have it : ∀ {m' : AM} {l' : AL} {i : Nat} {v : AV} {pos p1 p2 : Pos} {k : Nat}, m'.lookup (Str.ofString "packet") = some (.ref P) → (P, AO.tup vs) ∈ l' → vs[i]? = some v → i < 5 → Ev c E m' l' (.Subscript (.Name (Str.ofString "packet") p1) (.Constant (.int i) k p2) pos) v := fun h hm hv' hi =>
    Ev.item_t (Ev.local h (by kernel_rfl)) Ev.const_int hm (seqIndex_of (by omega) (by omega)) (by rw [Int.toNat_natCast]; exact hv') (by omega) rfl
  have hj : j < 3 := (List.getElem?_eq_some_iff.mp hx).1
  with_reducible apply Wb.if_no (p := x = Str.ofString "short")
  · exact Te.cmp (it rfl hm v0 (by decide)) Ev.const_str Cop.seq (by with_unfolding_all rfl)
  · exact hs
  refine Wb.assignX (R := fun v l' => v = .int j ∧ ∃ X, l' = X :: l) (Ex.methX (f := .builtin "list.index") (Ro := New (.list ([Str.ofString "initial", Str.ofString "zero", Str.ofString "handshake"].map .str)) l) (Ex.list (vs := [Str.ofString "initial", Str.ofString "zero", Str.ofString "handshake"].map .str) (Evs.cons Ev.const_str (Evs.cons Ev.const_str (Evs.cons Ev.const_str .nil rfl) rfl) rfl) (Nat.le_of_ble_eq_true rfl)) ?_ keeps_builtin rfl rfl) (by kernel_rfl) ?_
  · (intro zr1 zr2 zr3; refine El.eaxx (zr3) fun D zz1 zz2 => ?_; try clear zr3; (first | subst zz1 | cases zz1); (first | subst zz2 | cases zz2))
    refine ⟨Mt.index_l (.head _), _, Evs.x (Evs.cons (it rfl (.tail _ hm) v0 (by decide)) .nil rfl), ?_⟩
    (intro zr1 zr2 zr3; refine El.axx (zr3) fun zz1 zz2 => ?_; try clear zr3; (first | subst zz1 | cases zz1); (first | subst zz2 | cases zz2))
    exact (Bw.index_l (ys := [Str.ofString "initial", Str.ofString "zero", Str.ofString "handshake"]) (.head _) (by decide) hx hno).mono (by (intro zr1 zr2 zr3; refine El.axx (zr3) fun zz1 zz2 => ?_; try clear zr3; (first | subst zz1 | cases zz1); (first | subst zz2 | cases zz2)); exact ⟨rfl, _, rfl⟩)
  (intro zr1 zr2 zr3; refine El.axex (zr3) fun zz1 X zz2 => ?_; try clear zr3; (first | subst zz1 | cases zz1); (first | subst zz2 | cases zz2))
  refine Wb.pick (t := l) ?_ (.skip .refl)
  have I2 : ∀ {m' : AM} {pos p1 p2 : Pos} {k : Nat}, m'.lookup (Str.ofString "packet") = some (.ref P) → Ev c E m' l (.Subscript (.Name (Str.ofString "packet") p1) (.Constant (.int 2) k p2) pos) (.bytes d) := fun h => it (i := 2) h hm v2 (by decide)
  have I3 : ∀ {m' : AM} {pos p1 p2 : Pos} {k : Nat}, m'.lookup (Str.ofString "packet") = some (.ref P) → Ev c E m' l (.Subscript (.Name (Str.ofString "packet") p1) (.Constant (.int 3) k p2) pos) (.bytes sc) := fun h => it (i := 3) h hm v3 (by decide)
  have ln : ∀ {m' : AM} {np pos : Pos} {e : PySem.Expr} {ks : List Int}, isStar e = false → Ev c E m' l e (.bytes ks) → ks.length ≤ 64 → Ev c E m' l (.Call (.Name (Str.ofString "len") np) [e] [] pos) (.int (ks.length : Nat)) := fun hs h hk => Ev.len_b hK (by simp only [noStar, List.all_cons, List.all_nil, hs]; kernel_rfl) h (by omega)
  refine Wb.assign (v := .bytes ((([0, 0, 0, 1, (d.length : Int)] ++ d) ++ [(sc.length : Int)]) ++ sc)) (Ev.bin (Ev.bin (Ev.bin (Ev.bytes_of hK (ks := [0, 0, 0, 1, (d.length : Int)]) (by kernel_rfl) (Evs.cons Ev.const_int (Evs.cons Ev.const_int (Evs.cons Ev.const_int (Evs.cons Ev.const_int (Evs.cons (ln rfl (I2 rfl) (by omega)) .nil rfl) rfl) rfl) rfl) rfl) ?_ (Nat.le_of_ble_eq_true rfl)) (I2 rfl) (Bop.cat (by simp) (by omega))) (Ev.bytes1 hK (by kernel_rfl) rfl (ln rfl (I3 rfl) (by omega)) (by omega) (by omega)) (Bop.cat (by simp only [List.length_append, List.length_cons, List.length_nil]; omega) (by simp))) (I3 rfl) (Bop.cat (by simp only [List.length_append, List.length_cons, List.length_nil]; omega) (by omega))) (by kernel_rfl) ?_
  · intro y hy
    simp only [List.mem_cons, List.not_mem_nil, or_false] at hy
    rcases hy with rfl | rfl | rfl | rfl | rfl <;> omega
  refine Wb.meet [(Str.ofString "data", .bytes data), (Str.ofString "sort", .int j), (Str.ofString "head", .bytes head)] l (p := (j : Int) = 0) ?_ ?_ ?_ ?_
  · walk_at "te"
  · intro hp
    obtain ⟨_, tok, v4, rfl, hlt⟩ | ⟨hq, _⟩ := hmid
    · have I4 : ∀ {m' : AM} {pos p1 p2 : Pos} {k : Nat}, m'.lookup (Str.ofString "packet") = some (.ref P) → Ev c E m' l (.Subscript (.Name (Str.ofString "packet") p1) (.Constant (.int 4) k p2) pos) (.bytes tok) := fun h => it (i := 4) h hm v4 (by decide)
      refine Wb.assign (v := .bytes head) (Ev.eq (Ev.bin (Ev.bin (by walk_at "ev") (Ev.bytes1 hK (by kernel_rfl) rfl (ln rfl (I4 rfl) (by omega)) (by omega) (by omega)) (Bop.cat (by simp only [List.length_append, List.length_cons, List.length_nil]; omega) (by simp))) (I4 rfl) (Bop.cat (by simp only [List.length_append, List.length_cons, List.length_nil]; omega) (by omega))) ?_) (by kernel_rfl) (Wb.nil ⟨rfl, by walk_at "sub", rfl⟩)
      rw [hhd]; simp
    · exact absurd (by omega : j = 0) hq
  · intro hp
    obtain ⟨hq, _⟩ | ⟨_, rfl⟩ := hmid
    · exact absurd (by omega : (j : Int) = 0) hp
    · rw [List.append_nil] at hhd
      exact ⟨by rw [hhd]; walk_at "sub", rfl⟩
  refine Wb.assign (v := .int (data.getD (1 + head.length) 0)) (Ev.eq (Ev.item_b (i := 1 + (head.length : Nat)) (by walk_at "ev") ?_ (by omega) (by omega) (by omega) rfl) ?_) (by kernel_rfl) ?_
  · walk_at "ev"
  · rw [show (1 + (head.length : Nat) : Int).toNat = 1 + head.length by omega]
  refine Wb.ret (v := .bool (decide ((data.getD (0 : Int).toNat 0).fdiv 16 = 12 + j) && (decide ((data.drop (1 : Int).toNat).take (1 + (head.length : Nat) - 1 : Int).toNat = head) && decide ((data.length : Int) = 2 + head.length + data.getD (1 + head.length) 0)))) (Ev.and (Ev.cmp ?_ ?_ Cop.eq (by with_unfolding_all rfl)) fun _ => Ev.and (Ev.cmp ?_ ?_ Cop.beq (by with_unfolding_all rfl)) fun _ => Ev.and_one (Ev.cmp ?_ ?_ Cop.eq (by with_unfolding_all rfl))) ?_
  · walk_at "ev"
  · walk_at "ev"
  · walk_at "ev"
  · walk_at "ev"
  · walk_at "ev"
  · walk_at "ev"
  · refine ⟨?_, rfl⟩
    have e1 : (1 + (head.length : Nat) - 1 : Int).toNat = head.length := by omega
    have e2 : decide ((data.drop (1 : Int).toNat).take head.length = head) = true := decide_eq_true h2
    have e3 : decide ((data.getD (0 : Int).toNat 0).fdiv 16 = 12 + j) = true := decide_eq_true h1
    rw [e1, e2, e3, decide_eq_true h3]; rfl

theorem Pk.tup_long {pk : Pk} (h : pk.sort ≠ .short) : 5 ≤ pk.tup.length ∧ pk.tup[2]? = some (.bytes pk.d) ∧ pk.tup[3]? = some (.bytes pk.sc) ∧ (pk.sort = .initial → pk.tup[4]? = some (.bytes pk.tok)) := by
  obtain ⟨sort, sp, kp, d, sc, tok, num, pay⟩ := pk
  cases sort
  · exact ⟨Nat.le_of_ble_eq_true rfl, rfl, rfl, fun _ => rfl⟩
  · exact ⟨Nat.le_of_ble_eq_true rfl, rfl, rfl, fun q => nomatch q⟩
  · exact ⟨Nat.le_of_ble_eq_true rfl, rfl, rfl, fun q => nomatch q⟩
  · exact absurd rfl h
theorem restP_in {pk : Pk} (ok : pk.Ok) {sz : Int} (h1 : 1 ≤ sz) (h2 : sz ≤ 4) : 20 ≤ restP pk sz ∧ restP pk sz < 64 := by
  have := padded_length pk.pay sz
  have := ok.pl
  unfold restP
  omega
theorem head_right_C {w : World} {K : Frag} (hK : KOk K) (pk : Pk) (P : Addr) (key : List Int) (sz : Int) (l : AL) (ok : pk.Ok) (hm : (P, AO.tup pk.tup) ∈ l) (h1 : 1 ≤ sz) (h2 : sz ≤ 4) : Cw w K 469 1 false [.bytes (packetBytes key pk sz), .ref P] l (Is (.bool true) l) := by
  have hp := packet_len key ok h1 h2
  have ht := tailP_length key pk (sz := sz) (by omega)
  have hr := restP_in ok h1 h2
  by_cases hs : pk.sort = .short
  · have e := packet_short hs key sz []
    rw [List.append_nil, List.append_nil] at e
    have hg := first_short ok key h1 h2
    rw [e] at hp ⊢
    have hm' : (P, AO.tup [.str (Str.ofString "short"), .int pk.sp, .int pk.kp, .bytes pk.d, .int pk.num, .bytes pk.pay]) ∈ l := by
      have : pk.tup = [.str (Str.ofString "short"), .int pk.sp, .int pk.kp, .bytes pk.d, .int pk.num, .bytes pk.pay] := by unfold Pk.tup; rw [hs]
      rw [← this]; exact hm
    refine head_short_C hK P _ pk.d pk.sp pk.kp pk.num pk.pay l hm' (by omega) ?_ ?_ ?_
    · simp only [List.length_cons, List.length_append]; omega
    · show (turnedFirst _ _).fdiv 64 = 1
      rw [fdiv_pos (by decide)]; exact hg.1
    · show (pk.d ++ _).take pk.d.length = pk.d
      exact List.take_left
  · have e := packet_long hs key sz []
    rw [List.append_nil, List.append_nil] at e
    have hg := first_long hs key h1 h2
    have hj := Sort4.long hs
    have hT := Pk.tup_long hs
    have hTl := pk.tup_len
    generalize hhd : (([0, 0, 0, 1, (pk.d.length : Int)] ++ pk.d) ++ [(pk.sc.length : Int)]) ++ pk.sc ++ pk.mid = head
    have e' : packetBytes key pk sz = turnedFirst (192 + 16 * (pk.j : Int) + (sz - 1)) (maskP key pk sz) :: (head ++ restP pk sz :: tailP key pk sz) := by
      rw [e, ← hhd]; simp
    rw [e'] at hp ⊢
    simp only [List.length_cons, List.length_append] at hp
    have hget : (turnedFirst (192 + 16 * (pk.j : Int) + (sz - 1)) (maskP key pk sz) :: (head ++ restP pk sz :: tailP key pk sz)).getD (1 + head.length) 0 = restP pk sz := by
      refine getD_of_drop (B := tailP key pk sz) ?_
      rw [Nat.add_comm]
      show (head ++ restP pk sz :: tailP key pk sz).drop head.length = _
      exact List.drop_left
    refine head_long_C hK P _ pk.tup pk.sort.word pk.j pk.d pk.sc pk.mid l hm pk.tup_first hT.2.1 hT.2.2.1 hT.1 (by omega) hj.2.2.1 hj.2.2.2.1 hj.2.2.2.2.1 ?_ ok.dl ok.sl ?_ head hhd.symm ?_ ?_ ?_ ?_
    · rcases pk.mid_of with ⟨a, b, d, f⟩ | ⟨a, b, d, f⟩
      · exact .inl ⟨d, pk.tok, hT.2.2.2 a, f, ok.tl⟩
      · exact .inr ⟨d, f⟩
    · simp only [List.length_cons, List.length_append]; omega
    · simp only [List.length_cons, List.length_append]; omega
    · show (turnedFirst _ _).fdiv 16 = _
      rw [fdiv_pos (by decide)]; exact hg.1
    · show (head ++ _).take head.length = head
      exact List.take_left
    · rw [hget]; simp only [List.length_cons, List.length_append]; omega
noncomputable def segOf (kk : List Int) (pk : Pk) (sz : Int) (a : Int) : Seg := ⟨pk.sort.word, (packetBytes kk pk sz).getD 0 0, a, a + (headOf pk sz).length, a + (packetBytes kk pk sz).length, pk.d, (match pk.sort with | .short => [] | _ => pk.sc), (match pk.sort with | .initial => pk.tok | _ => [])⟩
theorem seg_long {w : World} {K : Frag} (hK : KOk K) (kk ks post : List Int) (pk : Pk) (sz cs : Int) (a : Nat) (hs : pk.sort ≠ .short) (ok : pk.Ok) (h1 : 1 ≤ sz) (h2 : sz ≤ 4) (hl : ks.length ≤ 10000) (h : ks.drop a = packetBytes kk pk sz ++ post) : SegAt w K ks cs (segOf kk pk sz a) := by
  intro l
  have hp := packet_len kk ok h1 h2
  have ht := tailP_length kk pk (sz := sz) (by omega)
  have hr := restP_in ok h1 h2
  have hj := Sort4.long hs
  have hg := first_long hs kk h1 h2
  have hhl := congrArg List.length (headOf_long hs sz)
  have hlen := congrArg List.length h
  have hf : (packetBytes kk pk sz).getD 0 0 = turnedFirst (192 + 16 * (pk.j : Int) + (sz - 1)) (maskP kk pk sz) := by
    have := packet_long hs kk sz []
    rw [List.append_nil] at this
    rw [this]; rfl
  rw [packet_long hs kk sz post] at h hlen
  simp only [List.length_drop, List.length_cons, List.length_append, List.length_nil] at hlen hhl
  generalize hgd : turnedFirst (192 + 16 * (pk.j : Int) + (sz - 1)) (maskP kk pk sz) = g at h hf hg
  have k1 := drop_one h
  have k5 := drop_more k1
  have k6 := drop_one k5
  have k7 := drop_more k6
  have k8 := drop_one k7
  have k9 := drop_more k8
  have k10 := drop_more k9
  have t0 : ∀ {A B : List Int} {i : Nat} {n : Nat}, ks.drop i = A ++ B → A.length = n → (ks.drop i).take n = A := fun h e => by rw [← e]; exact take_of_drop h
  have hd0 := ok.dl
  have hs0 := ok.sl
  have htk := ok.tl
  have n1 : ((a : Nat) : Int).toNat = a := rfl
  have n2 : ((a : Nat) + 1 : Int).toNat = a + 1 := rfl
  have n3 : ((a : Nat) + 1 + 4 : Int).toNat = a + 1 + [(0 : Int), 0, 0, 1].length := rfl
  have n4 : ((a : Nat) + 1 + 4 + 1 : Int).toNat = a + 1 + [(0 : Int), 0, 0, 1].length + 1 := rfl
  have n5 : ((a : Nat) + 1 + 4 + 1 + (pk.d.length : Int) : Int).toNat = a + 1 + [(0 : Int), 0, 0, 1].length + 1 + pk.d.length := rfl
  have n6 : ((a : Nat) + 1 + 4 + 1 + (pk.d.length : Int) + 1 : Int).toNat = a + 1 + [(0 : Int), 0, 0, 1].length + 1 + pk.d.length + 1 := rfl
  have n7 : ((a : Nat) + 1 + 4 + 1 + (pk.d.length : Int) + 1 + (pk.sc.length : Int) : Int).toNat = a + 1 + [(0 : Int), 0, 0, 1].length + 1 + pk.d.length + 1 + pk.sc.length := rfl
  have hA : (a : Int) + (headOf pk sz).length = (a : Int) + 1 + 4 + 1 + (pk.d.length : Int) + 1 + (pk.sc.length : Int) + pk.mid.length + 1 := by omega
  have nA : ((a : Nat) + 1 + 4 + 1 + (pk.d.length : Int) + 1 + (pk.sc.length : Int) + (pk.mid.length : Int) : Int).toNat = a + 1 + [(0 : Int), 0, 0, 1].length + 1 + pk.d.length + 1 + pk.sc.length + pk.mid.length := rfl
  have C := read_long_C (w := w) hK ks a g pk.d.length pk.sc.length ((a : Nat) + 1 + 4 + 1 + (pk.d.length : Int) + 1 + (pk.sc.length : Int) + pk.mid.length) (restP pk sz) pk.j pk.sort.word (segOf kk pk sz a).tok l (by omega) hl
    (by rw [n1, show (1 : Int).toNat = 1 from rfl, t0 (A := [g]) (n := 1) h rfl]; exact val1 g)
    (by rw [n2, show (4 : Int).toNat = 4 from rfl, t0 (n := 4) k1 rfl]; decide)
    (by rw [n3, show (1 : Int).toNat = 1 from rfl, t0 (A := [(pk.d.length : Int)]) (n := 1) k5 rfl]; exact val1 _)
    (by rw [n5, show (1 : Int).toNat = 1 from rfl, t0 (A := [(pk.sc.length : Int)]) (n := 1) k7 rfl]; exact val1 _)
    ?_ (by rw [nA]; exact getD_of_drop k10) (by omega) hr.2 (by omega) (by omega) (by omega) (by omega) (by omega) hj.1 ?_ ?_ hj.2.1
  · rw [n4, n6, show ((pk.d.length : Nat) : Int).toNat = pk.d.length from rfl, show ((pk.sc.length : Nat) : Int).toNat = pk.sc.length from rfl, t0 k6 rfl, t0 k8 rfl] at C
    have e1 : (segOf kk pk sz a).sc = pk.sc := by
      show (match pk.sort with | .short => [] | _ => pk.sc) = pk.sc
      generalize pk.sort = sr at hs ⊢
      cases sr <;> first | rfl | exact absurd rfl hs
    have e2 : (segOf kk pk sz a).na = (a : Nat) + 1 + 4 + 1 + (pk.d.length : Int) + 1 + (pk.sc.length : Int) + pk.mid.length + 1 := hA
    have e3 : (segOf kk pk sz a).en = (a : Nat) + 1 + 4 + 1 + (pk.d.length : Int) + 1 + (pk.sc.length : Int) + pk.mid.length + 1 + restP pk sz := by
      show (a : Int) + (packetBytes kk pk sz).length = _
      rw [hp.1]; unfold restP; omega
    have e4 : (segOf kk pk sz a).f = g := hf
    refine read_raw_long_C hK ks a cs l _ (by omega) (by omega) hl ?_ ?_
    · rw [n1, getD_of_drop h]; omega
    · rw [e1, e2, e3, e4]; exact C
  · rcases pk.mid_of with ⟨b1, b2, b3, b4⟩ | ⟨b1, b2, b3, b4⟩
    · refine .inl ⟨b2, pk.tok.length, ?_, by omega, by omega, by rw [b4, List.length_cons]; omega, ?_⟩
      · rw [n7]; rw [b4] at k9; exact getD_of_drop k9
      · rw [b4] at k9
        have k11 := drop_one k9
        rw [show ((a : Nat) + 1 + 4 + 1 + (pk.d.length : Int) + 1 + (pk.sc.length : Int) + 1 : Int).toNat = a + 1 + [(0 : Int), 0, 0, 1].length + 1 + pk.d.length + 1 + pk.sc.length + 1 by simp only [List.length_cons, List.length_nil]; omega, show ((pk.tok.length : Nat) : Int).toNat = pk.tok.length from rfl, t0 k11 rfl]
        show (match pk.sort with | .initial => pk.tok | _ => []) = pk.tok
        rw [b1]
    · refine .inr ⟨b2, by rw [b4]; simp, ?_⟩
      show (match pk.sort with | .initial => pk.tok | _ => []) = []
      generalize pk.sort = sr at b1 ⊢
      cases sr <;> first | rfl | exact absurd rfl b1
  · rw [fdiv_pos (by decide), fmod_pos (by decide)]
    have := hj.1
    omega
  · rw [fdiv_pos (by decide), fmod_pos (by decide)]
    have := hj.1
    omega
theorem seg_short {w : World} {K : Frag} (hK : KOk K) (kk ks : List Int) (pk : Pk) (sz : Int) (a : Nat) (hs : pk.sort = .short) (ok : pk.Ok) (h1 : 1 ≤ sz) (h2 : sz ≤ 4) (hl : ks.length ≤ 10000) (h : ks.drop a = packetBytes kk pk sz) : SegAt w K ks pk.d.length (segOf kk pk sz a) := by
  intro l
  have hp := packet_len kk ok h1 h2
  have ht := tailP_length kk pk (sz := sz) (by omega)
  have hr := restP_in ok h1 h2
  have hg := first_short ok kk h1 h2
  have hlen := congrArg List.length h
  have hhl := congrArg List.length (headOf_short hs sz)
  have hp0 := packet_short hs kk sz []
  rw [List.append_nil, List.append_nil] at hp0
  have hf : (packetBytes kk pk sz).getD 0 0 = turnedFirst (64 + 32 * pk.sp + 4 * pk.kp + sz - 1) (maskP kk pk sz) := by rw [hp0]; rfl
  rw [hp0] at h
  simp only [List.length_drop, List.length_cons] at hlen hhl
  generalize hgd : turnedFirst (64 + 32 * pk.sp + 4 * pk.kp + sz - 1) (maskP kk pk sz) = g at h hf hg
  have k1 := drop_one h
  have n1 : ((a : Nat) : Int).toNat = a := rfl
  have n2 : ((a : Nat) + 1 : Int).toNat = a + 1 := rfl
  have hd0 := ok.dl
  have C := read_short_C (w := w) hK ks a pk.d.length g l (by omega) (by omega) (by omega) hl (by rw [n1]; exact getD_of_drop h) (by rw [fdiv_pos (by decide)]; exact hg.1)
  rw [n2, show ((pk.d.length : Nat) : Int).toNat = pk.d.length from rfl, take_of_drop k1] at C
  have e0 : segOf kk pk sz a = ⟨Str.ofString "short", g, a, a + 1 + pk.d.length, ks.length, pk.d, [], []⟩ := by
    unfold segOf
    rw [hs, hf]
    have e1 : (a : Int) + (headOf pk sz).length = a + 1 + pk.d.length := by omega
    have e2 : (a : Int) + (packetBytes kk pk sz).length = ks.length := by omega
    rw [e1, e2]; rfl
  rw [e0]
  refine read_raw_short_C hK ks a pk.d.length l _ (by omega) (by omega) hl ?_ C
  rw [n1, getD_of_drop h]; omega

noncomputable def lawF (a : Addr) (cd : Value) : Fn := ⟨(topR 73).name, (topR 73).scope, a, cd⟩
noncomputable def forBody : Stmt → List Stmt
  | .For _ _ b _ _ => b
  | _ => []
noncomputable abbrev lawM (d S : Addr) (kd ks kk ko : List Int) (many : Nat) (wh : List Int) : AM := [(Str.ofString "draws", .ref d), (Str.ofString "dcid", .bytes kd), (Str.ofString "scid", .bytes ks), (Str.ofString "key", .bytes kk), (Str.ofString "other", .bytes ko), (Str.ofString "many", .int many), (Str.ofString "sent", .ref S), (Str.ofString "whole", .bytes wh)]
inductive J1 (d r S : Addr) (kd ks kk ko : List Int) (many i : Nat) (m1 : AM) (l1 : AL) : Prop
  | mk (items : List Item) (Ts : List Addr) (os : AL) (seed : Int) (rows : List Int) (hlen : items.length = i) (hok : ItemsOk kd ks many items) (hsl : SentLs items Ts os) (hr : rows.length ≤ 40) (hs : Sub (lawM d S kd ks kk ko many (wholeOf kk ko ks items)) m1)
    (el : l1 = drw [] ((S, .list (Ts.map .ref)) :: os) d r seed rows) : J1 d r S kd ks kk ko many i m1 l1
theorem law_turn1 {w : World} {K : Frag} (hK : KOk K) {a : Addr} {cd : Value} {c : Cx w K (lawF a cd) 40 true} {E : Value → Shared → Prop} (d r S I : Addr) (o : Obj) (kd ks kk ko : List Int) (many i : Nat) (items : List Item) (Ts : List Addr) (os : AL) (seed : Int) (rows : List Int)
    (hi : i < many) (hm4 : many ≤ 4) (hlen : items.length = i) (hok : ItemsOk kd ks many items) (hsl : SentLs items Ts os) (hr : rows.length ≤ 40) (lkd : kd.length ≤ 8) (lks : ks.length ≤ 4) (lko : ko.length ≤ 20) :
    Wb c E ((Str.ofString "at", .int i) :: lawM d S kd ks kk ko many (wholeOf kk ko ks items)) ((I, .raw o) :: drw [] ((S, .list (Ts.map .ref)) :: os) d r seed rows) (forBody (sAt (topR 73).body 3)) (fun f m' l' => f = .next ∧ ∃ l0, l' = (I, .raw o) :: l0 ∧ J1 d r S kd ks kk ko many (i + 1) m' l0) := by
  show Wb c E [(Str.ofString "at", .int i), (Str.ofString "draws", .ref d), (Str.ofString "dcid", .bytes kd), (Str.ofString "scid", .bytes ks), (Str.ofString "key", .bytes kk), (Str.ofString "other", .bytes ko), (Str.ofString "many", .int many), (Str.ofString "sent", .ref S), (Str.ofString "whole", .bytes (wholeOf kk ko ks items))] (drw [(I, .raw o)] ((S, .list (Ts.map .ref)) :: os) d r seed rows) (_ :: _ :: _ :: _ :: _ :: _ :: _ :: _) _
  have hwl := items_len kk ko lkd lks lko items hok.all
  generalize hwh : wholeOf kk ko ks items = wh at hwl ⊢
  refine Wb.assignX (R := LPk [(I, .raw o)] ((S, .list (Ts.map .ref)) :: os) d r kd ks (decide ((i : Int) + 1 = many))) (Ex.fnA hK (by kernel_rfl) rfl (by kernel_rfl) (Evs.cons ?_ (Evs.cons ?_ (Evs.cons ?_ (Evs.cons (Ev.cmp ?_ ?_ Cop.eq (by with_unfolding_all rfl)) .nil rfl) rfl) rfl) rfl) (lpacket_C hK d r seed kd ks (decide ((i : Int) + 1 = many)) rows [(I, .raw o)] _ hr) (by kernel_rfl)) (by kernel_rfl) ?_
  · walk_at "ev"
  · walk_at "ev"
  · walk_at "ev"
  · walk_at "ev"
  · walk_at "ev"
  rintro _ _ ⟨P, pk, s1, r1, rfl, hdr, hr1, rfl⟩
  have ok := hdr.ok (by omega) (by omega)
  have htl := pk.tup_len
  refine Wb.unpack (R := LKn ((P, .tup pk.tup) :: [(I, .raw o)]) ((S, .list (Ts.map .ref)) :: os) d r pk.num) (Ex.fnA hK (by kernel_rfl) rfl (by kernel_rfl) (Evs.cons ?_ (Evs.cons (Ev.item_t (i := -2) ?_ ?_ (.head _) pk.tup_num2 pk.tup_number (by decide) rfl) .nil rfl) rfl) (lknown_C hK d r s1 pk.num r1 _ _ hr1 hdr.n0) (by kernel_rfl)) (by kernel_rfl) rfl ?_
  · walk_at "ev"
  · walk_at "ev"
  · walk_at "ev"
  rintro _ _ ⟨T0, la, seen, s2, r2, rfl, hkn, hr2, rfl⟩
  refine ⟨T0, _, _, _, rfl, .head _, rfl, Asgs.name (by kernel_rfl) (Asgs.name (by kernel_rfl) Asgs.nil), ?_⟩
  refine Wb.pick (t := drw ((P, .tup pk.tup) :: [(I, .raw o)]) ((S, .list (Ts.map .ref)) :: os) d r s2 r2) ?_ (.skip .refl)
  (refine El.ex (known_la hkn hdr.n0 hdr.n1) fun sz hsz => ?_)
  have hszr := hsz.range
  have hpl := packet_len kk ok hszr.1 hszr.2
  have hP : (P, AO.tup pk.tup) ∈ drw ((P, .tup pk.tup) :: [(I, .raw o)]) ((S, .list (Ts.map .ref)) :: os) d r s2 r2 := .head _
  have C1 := put_packet_C (w := w) hK pk P la kk sz _ ok hP hsz
  have C2 := packet_size_C (w := w) hK pk P la kk sz _ ok hP hsz
  have C3 := head_right_C (w := w) hK pk P kk sz _ ok hP hszr.1 hszr.2
  generalize hpb : packetBytes kk pk sz = pb at hpl C1 C3
  walk_at "as"
  with_reducible apply Wb.if_no
  · with_reducible apply Te.or
    · walk_at "te"
    · intro _
      with_reducible apply Te.or
      · with_reducible apply Te.not
        with_reducible apply Te.ofV
        · walk_at "ev"
        · rfl
      · intro _; exact Te.or_nil
  · rintro (h | h | h)
    · exact h hpl.1
    · exact h rfl
    · exact h
  have hTl := hsl.length
  refine Wb.expr (R := fun v l' => ∃ T, l' = drw [(T, .tup [.ref P, seen]), (P, .tup pk.tup), (I, .raw o)] ((S, .list ((Ts ++ [T]).map .ref)) :: os) d r s2 r2) ?_ rfl ?_
  · with_reducible apply Ex.meth
    · walk_at "ev"
    · exact Mt.append (drw_post (.head _))
    · exact keeps_builtin
    · exact Exs.one (Ex.tup (vs := [.ref P, seen]) (by walk_at "evs") (Nat.le_of_ble_eq_true rfl)) rfl
    · (intro zr1 zr2 zr3; refine El.ex (zr3) fun zz1 zq57 => ?_; try clear zr3; refine El.axeaxx (zq57) fun zz2 T zz3 zz4 => ?_; try clear zq57; (first | subst zz2 | cases zz2); (first | subst zz3 | cases zz3); (first | subst zz4 | cases zz4))
      refine (Bw.append (l' := drw [(T, .tup [.ref P, seen]), (P, .tup pk.tup), (I, .raw o)] ((S, .list (Ts.map .ref ++ [.ref T])) :: os) d r s2 r2) (Upd.post (pre := [(T, .tup [.ref P, seen]), (P, .tup pk.tup), (I, .raw o)]) .head) (drw_post (pre := [(T, .tup [.ref P, seen]), (P, .tup pk.tup), (I, .raw o)]) (.head _)) (by rw [List.length_map]; omega)).mono ?_
      (intro zr1 zr2 zr3; refine El.axx (zr3) fun zz1 zz2 => ?_; try clear zr3; (first | subst zz1 | cases zz1); (first | subst zz2 | cases zz2))
      exact ⟨T, by rw [List.map_append]; rfl⟩
    · rfl
    · rfl
  (intro zr1 zr2 zr3; refine El.ex (zr3) fun T zz1 => ?_; try clear zr3; (first | subst zz1 | cases zz1))
  walk_at "as"
  have hlast : decide ((i : Int) + 1 = many) = decide (items.length + 1 = many) := by
    rw [hlen]; exact decide_eq_decide.mpr (by omega)
  have fin : ∀ (left : Bool) (s3 : Int) (r3 : List Int) (wh' : List Int) (junk : AL) (m' : AM), (left = true → pk.sort ≠ .short) → r3.length ≤ 40 → wh' = wh ++ pb ++ (if left then packetBytes kk (leftPk ko ks) 1 else []) → Sub (lawM d S kd ks kk ko many wh') m' →
      Wb c E m' (drw (junk ++ [(T, .tup [.ref P, seen]), (P, .tup pk.tup), (I, .raw o)]) ((S, .list ((Ts ++ [T]).map .ref)) :: os) d r s3 r3) [] (fun f m' l' => f = .next ∧ ∃ l0, l' = (I, .raw o) :: l0 ∧ J1 d r S kd ks kk ko many (i + 1) m' l0) := by
    intro left s3 r3 wh' junk m' hl hr3 hw hm
    refine Wb.pick (t := drw [(I, .raw o)] ((S, .list ((Ts ++ [T]).map .ref)) :: (os ++ [(T, .tup [.ref P, seen]), (P, .tup pk.tup)])) d r s3 r3) (Wb.nil ⟨rfl, _, rfl, items ++ [⟨pk, la, seen, sz, left⟩], Ts ++ [T], _, s3, r3, by simp [hlen], hok.snoc ⟨hlast ▸ hdr, hkn, hsz, hl⟩, hsl.snoc ⟨pk, la, seen, sz, left⟩ T P, hr3, ?_, rfl⟩) (drw_pick ⟨junk, ?_⟩)
    · rw [wholeOf_append, hwh]
      have e : wholeOf kk ko ks [⟨pk, la, seen, sz, left⟩] = pb ++ (if left then packetBytes kk (leftPk ko ks) 1 else []) := by
        simp only [wholeOf, Item.bytes, hpb, List.append_nil]
      rw [e, ← List.append_assoc, ← hw]; exact hm
    · walk_at "perm"
  refine Wb.ifX (T := fun v l' => ∃ s3 r3, r3.length ≤ 40 ∧ l' = drw [(T, .tup [.ref P, seen]), (P, .tup pk.tup), (I, .raw o)] ((S, .list ((Ts ++ [T]).map .ref)) :: os) d r s3 r3 ∧ (v = true → pk.sort ≠ .short)) ?_ ?_ ?_
  · refine Tx.and (T1 := fun v l' => (v = true ↔ pk.sort.word ≠ Str.ofString "short") ∧ l' = drw [(T, .tup [.ref P, seen]), (P, .tup pk.tup), (I, .raw o)] ((S, .list ((Ts ++ [T]).map .ref)) :: os) d r s2 r2) (Te.x (Te.cmp (Ev.item_t (i := 0) ?_ ?_ (.tail _ (.head _)) (seqIndex_of (by decide) (by omega)) pk.tup_first (by decide) rfl) ?_ Cop.sne (by with_unfolding_all rfl))) ?_ ?_
    · walk_at "ev"
    · walk_at "ev"
    · walk_at "ev"
    · (intro zr1 zr2; refine El.axx (zr2) fun zz1 zz2 => ?_; try clear zr2; (first | subst zz2 | cases zz2)); exact ⟨s2, r2, hr2, rfl, fun q => nomatch q⟩
    · (intro zr1 zr2; refine El.axx (zr2) fun hw zz1 => ?_; try clear zr2; (first | subst zz1 | cases zz1))
      have hns : pk.sort ≠ .short := fun q => by have := hw.mp rfl; rw [q] at this; exact this rfl
      refine Tx.and (T1 := fun v l' => ∃ s3 r3, r3.length ≤ 40 ∧ l' = drw [(T, .tup [.ref P, seen]), (P, .tup pk.tup), (I, .raw o)] ((S, .list ((Ts ++ [T]).map .ref)) :: os) d r s3 r3) (Tx.cmp (Ex.take hK (many := 4) (pre := [(T, .tup [.ref P, seen]), (P, .tup pk.tup), (I, .raw o)]) (by walk_at "ev") (by walk_at "ev") hr2 (by decide) (by kernel_rfl)) ?_ (by with_unfolding_all rfl)) ?_ ?_
      · rintro _ _ ⟨k, s3, r3, rfl, _, _, hr3, rfl⟩
        exact ⟨_, _, by walk_at "ev", by walk_at "cop", fun _ => ⟨s3, r3, hr3, rfl⟩, fun _ => ⟨s3, r3, hr3, rfl⟩⟩
      · (intro zr1 zr2; refine El.eeaxx (zr2) fun s3 r3 hr3 zz1 => ?_; try clear zr2; (first | subst zz1 | cases zz1)); exact ⟨s3, r3, hr3, rfl, fun q => nomatch q⟩
      · (intro zr1 zr2; refine El.eeaxx (zr2) fun s3 r3 hr3 zz1 => ?_; try clear zr2; (first | subst zz1 | cases zz1)); exact Tx.and_nil ⟨s3, r3, hr3, rfl, fun _ => hns⟩
  · (intro zr1 zr2; refine El.eeaxaxx (zr2) fun s3 r3 hr3 zz1 hns => ?_; try clear zr2; (first | subst zz1 | cases zz1))
    have hlp := packet_len kk (leftPk_ok (ko := ko) (ks := ks) lko (by omega)) (sz := 1) (by decide) (by decide)
    refine Wb.assignX (R := fun v l' => v = .bytes (wh ++ pb ++ packetBytes kk (leftPk ko ks) 1) ∧ ∃ X, l' = drw [X, (T, .tup [.ref P, seen]), (P, .tup pk.tup), (I, .raw o)] ((S, .list ((Ts ++ [T]).map .ref)) :: os) d r s3 r3) ?_ (by kernel_rfl) ?_
    · refine Ex.binR (x := .bytes (wh ++ pb)) (R2 := fun v l' => v = .bytes (packetBytes kk (leftPk ko ks) 1) ∧ ∃ X, l' = drw [X, (T, .tup [.ref P, seen]), (P, .tup pk.tup), (I, .raw o)] ((S, .list ((Ts ++ [T]).map .ref)) :: os) d r s3 r3) (by walk_at "ev") ?_ ?_
      · refine Ex.callX (f := 396) (d := 5) (b2 := true) (RA := fun vs l' => ∃ D, vs = [.ref D, .none, .bytes kk] ∧ l' = drw [(D, .tup (leftPk ko ks).tup), (T, .tup [.ref P, seen]), (P, .tup pk.tup), (I, .raw o)] ((S, .list ((Ts ++ [T]).map .ref)) :: os) d r s3 r3) (by walk_at "ev") (hK.keepA (by decide +kernel)) (Exs.cons (Ex.tup (vs := (leftPk ko ks).tup) ?_ (Nat.le_of_ble_eq_true rfl)) ?_ rfl) ?_ (by decide) (fun _ => rfl) rfl
        · show Evs c E _ _ _ [.str (Str.ofString "handshake"), .int 1, .bytes ko, .bytes ks, .int 5, .bytes [108, 101, 102, 116, 32, 111, 117, 116]]
          refine Evs.cons ?_ (Evs.cons ?_ (Evs.cons ?_ (Evs.cons ?_ (Evs.cons ?_ (Evs.cons (Ev.eq Ev.const_bytes rfl) .nil rfl) rfl) rfl) rfl) rfl) rfl
          · walk_at "ev"
          · walk_at "ev"
          · walk_at "ev"
          · walk_at "ev"
          · walk_at "ev"
        · (intro zr1 zr2 zr3; refine El.eaxx (zr3) fun D zz1 zz2 => ?_; try clear zr3; (first | subst zz1 | cases zz1); (first | subst zz2 | cases zz2))
          exact Exs.ofv (vs := [.none, .bytes kk]) (by walk_at "evs") ⟨D, rfl, rfl⟩
        · (intro zr1 zr2 zr3; refine El.eaxx (zr3) fun D zz1 zz2 => ?_; try clear zr3; (first | subst zz1 | cases zz1); (first | subst zz2 | cases zz2))
          exact fun F n b' c E m Q h tk us hd hb S hr kk' => put_packet_C hK (leftPk ko ks) D .none kk 1 _ (leftPk_ok lko (by omega)) (.head _) (.inl ⟨rfl, rfl, by show (0 : Int) ≤ 5; decide, by show (5 : Int) < 2147483647; decide⟩) F n b' c E m Q h tk us hd hb S hr fun h' tk' u v l' ⟨e1, e2⟩ => kk' h' tk' u v l' ⟨e1, _, e2⟩
      · (intro zr1 zr2 zr3; refine El.axex (zr3) fun zz1 X zz2 => ?_; try clear zr3; (first | subst zz1 | cases zz1); (first | subst zz2 | cases zz2))
        exact ⟨_, Bop.cat (by rw [List.length_append]; omega) (by omega), rfl, X, rfl⟩
    · (intro zr1 zr2 zr3; refine El.axex (zr3) fun zz1 X zz2 => ?_; try clear zr3; (first | subst zz1 | cases zz1); (first | subst zz2 | cases zz2))
      exact Wb.mono (fin true s3 r3 _ [X] _ hns hr3 (by rw [if_pos rfl]) (by walk_at "sub")) fun f m' l' h => by obtain ⟨rfl, h⟩ := h; exact Wb.nil ⟨rfl, h⟩
  · (intro zr1 zr2; refine El.eeaxaxx (zr2) fun s3 r3 hr3 zz1 zz2 => ?_; try clear zr2; (first | subst zz1 | cases zz1))
    exact Wb.mono (fin false s3 r3 (wh ++ pb) [] _ (fun q => nomatch q) hr3 (by rw [if_neg (by decide), List.append_nil]) (by walk_at "sub")) fun f m' l' h => by obtain ⟨rfl, h⟩ := h; exact Wb.nil ⟨rfl, h⟩

theorem cut_eq {num sz : Int} (h1 : 1 ≤ sz) (h2 : sz ≤ 4) : val (cutOf num sz) = num.fmod (1 * 2 ^ (8 * sz).toNat) := by
  unfold cutOf
  rw [val_be]
  have hp := pow2_pos (8 * sz).toNat
  have e : (256 : Int) ^ sz.toNat = 1 * 2 ^ (8 * sz).toNat := by
    rw [pow256, Int.one_mul]; congr 1; omega
  rw [e]
  exact Int.emod_eq_of_lt (Int.fmod_nonneg_of_pos _ hp) (Int.fmod_lt_of_pos _ hp)
theorem headOf_cons {pk : Pk} (ok : pk.Ok) {sz : Int} (h1 : 1 ≤ sz) (h2 : sz ≤ 4) : ∃ f, headOf pk sz = f :: (headOf pk sz).drop 1 ∧ 0 ≤ f ∧ f < 256 ∧ f.fmod 4 + 1 = sz ∧ (if f ≥ 128 then (f.fdiv 4).fmod 4 else (f.fdiv 8).fmod 4) = 0 ∧ (pk.sort = .short → (f.fdiv 32).fmod 2 = pk.sp ∧ (f.fdiv 4).fmod 2 = pk.kp) := by
  by_cases hs : pk.sort = .short
  · have := ok.sp0; have := ok.sp1; have := ok.kp0; have := ok.kp1
    rw [headOf_short hs]
    refine ⟨_, rfl, by omega, by omega, ?_, ?_, fun _ => ⟨?_, ?_⟩⟩
    · rw [fmod_pos (by decide)]; omega
    · rw [if_neg (by omega), fdiv_pos (by decide), fmod_pos (by decide)]; omega
    · rw [fdiv_pos (by decide), fmod_pos (by decide)]; omega
    · rw [fdiv_pos (by decide), fmod_pos (by decide)]; omega
  · have hj := Pk.j_long hs
    rw [headOf_long hs]
    refine ⟨_, rfl, by omega, by omega, ?_, ?_, fun q => absurd q hs⟩
    · rw [fmod_pos (by decide)]; omega
    · rw [if_pos (by omega), fdiv_pos (by decide), fmod_pos (by decide)]; omega
theorem open_at {w : World} {K : Frag} (hK : KOk K) (kk ks post : List Int) (it : Item) (kd sc0 : List Int) (last : Bool) (a : Nat) (V X : Addr) (l : AL) (h : ItemOk kd sc0 last it) (lkd : kd.length ≤ 20) (lsc : sc0.length ≤ 20) (hl : ks.length ≤ 10000) (hd : ks.drop a = packetBytes kk it.pk it.sz ++ post) (hm : (X, (segOf kk it.pk it.sz a).raw V) ∈ l) :
    Cw w K 417 5 true [.bytes ks, .ref X, .bytes kk, it.seen] l (New (.tup it.found.tup) l) := by
  obtain ⟨pk, la, seen, sz, left⟩ := it
  have ok := h.drawn.ok lkd lsc
  obtain ⟨hdr, hkn, hla, _⟩ := h
  dsimp only at *
  show Cw w K 417 5 true [.bytes ks, .ref X, .bytes kk, seen] l (New (.tup (Pk.tup ⟨pk.sort, pk.sp, pk.kp, pk.d, pk.sc, pk.tok, pk.num, padded pk.pay sz⟩)) l)
  have hr := hla.range
  (refine El.eaxx (number_back hkn hla hdr.n0 hdr.n1) fun ex hse hnum => ?_)
  (refine El.ex (headOf_cons ok hr.1 hr.2) fun f zq104 => ?_; refine El.axaxaxaxaxx (zq104) fun hf f0 f1 hf4 hres hsh => ?_; try clear zq104)
  have hp := packet_len kk ok hr.1 hr.2
  have hlen := congrArg List.length hd
  have hpl := padded_length pk.pay sz
  have hc := cutOf_length pk.num (sz := sz) (by omega)
  have hco : Oct (cutOf pk.num sz) := be_oct _ _
  have hsl := sealedOf_length kk pk.num (headOf pk sz ++ cutOf pk.num sz) (padded pk.pay sz)
  have hpo : Oct (padded pk.pay sz) := fun x hx => by
    unfold padded at hx
    rcases List.mem_append.mp hx with hx | hx
    · exact hdr.po x hx
    · rw [(List.mem_replicate.mp hx).2]; exact ⟨by decide, by decide⟩
  have hmo := maskP_oct kk pk sz
  have hpe := packet_eq kk pk sz
  have hg0 : (headOf pk sz).getD 0 0 = f := by rw [hf]; rfl
  rw [hg0] at hpe
  have htn : (turnedNumber (cutOf pk.num sz) (maskP kk pk sz)).length = (cutOf pk.num sz).length := turnedNumber_length _ _
  have hmk : maskP kk pk sz = maskOf kk (((headOf pk sz ++ cutOf pk.num sz ++ sealedOf kk pk.num (headOf pk sz ++ cutOf pk.num sz) (padded pk.pay sz)).drop ((headOf pk sz).length + 4)).take 16) := rfl
  unfold tailP at hpe
  have hseal : sealedOf kk pk.num (headOf pk sz ++ cutOf pk.num sz) (padded pk.pay sz) = turned kk pk.num (padded pk.pay sz) ++ tagOf kk pk.num (headOf pk sz ++ cutOf pk.num sz) (turned kk pk.num (padded pk.pay sz)) := rfl
  have hcut := cut_eq (num := pk.num) hr.1 hr.2
  have htl := turned_length kk pk.num (padded pk.pay sz)
  have ok1 := ok.pl
  have hh1 : 1 ≤ (headOf pk sz).length := by rw [hf]; simp
  have hhl : (headOf pk sz).length ≤ 200 := (headBytes_length pk ok sz _).2
  have hm' : (X, rawO pk.sort.word ((packetBytes kk pk sz).getD 0 0) 1 pk.d (match pk.sort with | .short => [] | _ => pk.sc) (match pk.sort with | .initial => pk.tok | _ => []) V a ((a : Int) + (headOf pk sz).length) ((a : Int) + (packetBytes kk pk sz).length)) ∈ l := hm
  generalize hmkd : maskP kk pk sz = mask at *
  generalize hsd : sealedOf kk pk.num (headOf pk sz ++ cutOf pk.num sz) (padded pk.pay sz) = sealed at *
  generalize hhd : headOf pk sz = head at *
  generalize hcd : cutOf pk.num sz = cut at *
  generalize hpd : padded pk.pay sz = pay at *
  generalize htd : turnedNumber cut mask = tn at *
  have hd' : ks.drop a = (turnedFirst f mask :: head.drop 1) ++ (tn ++ (sealed ++ post)) := by
    rw [hd, hpe]; simp
  have hH : (turnedFirst f mask :: head.drop 1).length = head.length := by rw [List.length_cons, List.length_drop]; omega
  have k1 := drop_more hd'
  rw [hH] at k1
  have k2 := drop_more k1
  have k0 : ks.drop a = turnedFirst f mask :: (head.drop 1 ++ (tn ++ (sealed ++ post))) := hd'
  have k3 := drop_one k0
  have n1 : ((a : Nat) : Int).toNat = a := rfl
  have n2 : ((a : Nat) + (head.length : Nat) : Int).toNat = a + head.length := by omega
  have n3 : ((a : Nat) + (head.length : Nat) + 4 : Int).toNat = a + head.length + 4 := by omega
  have n4 : ((a : Nat) + (head.length : Nat) + sz : Int).toNat = a + head.length + tn.length := by omega
  have n5 : ((a : Nat) + 1 : Int).toNat = a + 1 := by omega
  have n6 : ((a : Nat) + (head.length : Nat) - ((a : Nat) + 1) : Int).toNat = (head.drop 1).length := by rw [List.length_drop]; omega
  have n7 : sz.toNat = tn.length := by omega
  have n8 : (((head ++ cut).length : Nat) - sz : Int).toNat = head.length := by rw [List.length_append]; omega
  simp only [List.length_drop, List.length_append] at hlen
  refine open_packet_C (w := w) hK ⟨pk.sort, pk.sp, pk.kp, pk.d, pk.sc, pk.tok, pk.num, pay⟩ ks kk (head ++ cut) mask (turned kk pk.num pay) _ f (pk.num.fmod (1 * 2 ^ (8 * sz).toNat)) sz ex seen _ _ V X a ((a : Int) + head.length) ((a : Int) + (packetBytes kk pk sz).length) l hm' hl (by omega) (by omega) (by omega) (by omega) ?_ ?_ hf4 ?_ (by rw [List.length_append]; omega) (by rw [List.length_append]; omega) ?_ hse hnum ?_ (by omega) ?_ hres ?_
  · rw [hmk, n3, ← List.drop_drop, k1]
    congr 1
    have e1 : (tn ++ (sealed ++ post)).drop 4 = sealed.drop (4 - tn.length) ++ post := by
      rw [List.drop_append, List.drop_eq_nil_of_le (by omega), List.nil_append, List.drop_append, show 4 - tn.length - sealed.length = 0 by omega, List.drop_zero]
    have e2 : (head ++ cut ++ sealed).drop (head.length + 4) = sealed.drop (4 - tn.length) := by
      rw [List.drop_append, List.drop_eq_nil_of_le (by rw [List.length_append]; omega), List.nil_append, List.length_append]
      congr 1; omega
    rw [e1, e2, List.take_append_of_le_length (by rw [List.length_drop]; omega)]
  · rw [n1, getD_of_drop k0, tf_twice f0 f1 hmo]
  · rw [n5, n6, n2, n7, take_of_drop k3, take_of_drop k1, ← htd, tn_twice hco hmo, ← List.cons_append, ← hf]
  · rw [n8, n7, List.drop_left, List.take_of_length_le (by omega)]; exact hcut
  · rw [n4, show ((a : Int) + (packetBytes kk pk sz).length - ((a : Int) + head.length + sz)).toNat = sealed.length by omega, take_of_drop k2, hseal]
  · exact t_twice hpo
  · show (match pk.sort with | .short => (f.fdiv 32).fmod 2 = pk.sp ∧ (f.fdiv 4).fmod 2 = pk.kp | .initial => _ = pk.sc ∧ _ = pk.tok | _ => _ = pk.sc)
    generalize pk.sort = sr at hsh ⊢
    cases sr
    · exact ⟨rfl, rfl⟩
    · exact rfl
    · exact rfl
    · exact hsh rfl

noncomputable def segsAll (kk ko ks : List Int) : Int → List Item → List Seg
  | _, [] => []
  | a, it :: r => segOf kk it.pk it.sz a :: ((if it.left then [segOf kk (leftPk ko ks) 1 (a + (packetBytes kk it.pk it.sz).length)] else []) ++ segsAll kk ko ks (a + (it.bytes kk ko ks).length) r)
noncomputable def segsOf (kk ko ks : List Int) : Int → List Item → List Seg
  | _, [] => []
  | a, it :: r => segOf kk it.pk it.sz a :: segsOf kk ko ks (a + (it.bytes kk ko ks).length) r
theorem segsOf_length (kk ko ks : List Int) : ∀ (a : Int) (items : List Item), (segsOf kk ko ks a items).length = items.length
  | _, [] => rfl
  | a, it :: r => by simp only [segsOf, List.length_cons, segsOf_length]
theorem segsAll_append (kk ko ks : List Int) : ∀ (a : Int) (x y : List Item), segsAll kk ko ks a (x ++ y) = segsAll kk ko ks a x ++ segsAll kk ko ks (a + (wholeOf kk ko ks x).length) y
  | a, [], y => by simp [segsAll, wholeOf]
  | a, it :: x, y => by
    simp only [List.cons_append, segsAll, wholeOf, segsAll_append kk ko ks _ x y, List.length_append, List.append_assoc]
    congr 4; omega
theorem kept_segs {kk kd ko ks : List Int} (hne : ko ≠ kd) : ∀ (a : Int) (items : List Item), (∀ it ∈ items, it.pk.d = kd) → keptOf kd (segsAll kk ko ks a items) = segsOf kk ko ks a items
  | _, [], _ => rfl
  | a, it :: r, h => by
    have ih := kept_segs (kk := kk) (ks := ks) hne (a + (it.bytes kk ko ks).length) r fun x hx => h x (.tail _ hx)
    have hd : (segOf kk it.pk it.sz a).d = kd := h it (.head _)
    have hl : ∀ b, (segOf kk (leftPk ko ks) 1 b).d ≠ kd := fun b => hne
    unfold keptOf at ih ⊢
    simp only [segsAll, segsOf, List.filter_cons, List.filter_append, hd, decide_true, if_true, ih]
    cases it.left <;> simp [hl]
theorem Chain.app : ∀ {a b e : Int} {x y : List Seg}, Chain a x b → Chain b y e → Chain a (x ++ y) e
  | _, _, _, [], _, h, h' => by have : _ = _ := h; subst this; exact h'
  | _, _, _, _ :: _, _, h, h' => ⟨h.1, h.2.1, h.2.2.app h'⟩
structure LongOk (kd ks : List Int) (it : Item) : Prop where
  ok : ∃ last, ItemOk kd ks last it
  long : it.pk.sort ≠ .short
theorem ItemOk.plen {kk kd sc : List Int} {last : Bool} {it : Item} (h : ItemOk kd sc last it) (h1 : kd.length ≤ 8) (h2 : sc.length ≤ 4) : 1 ≤ (packetBytes kk it.pk it.sz).length := by
  have ok := h.drawn.ok (by omega) (by omega)
  have hr := h.la.range
  have := packet_len kk ok hr.1 hr.2
  omega
theorem seg_all {w : World} {K : Frag} (hK : KOk K) (kk kd ko sc ks : List Int) (cs : Int) (lkd : kd.length ≤ 8) (lsc : sc.length ≤ 4) (lko : ko.length ≤ 20) (hl : ks.length ≤ 10000) : ∀ (items : List Item) (a : Nat) (post : List Int), (∀ it ∈ items, LongOk kd sc it) → ks.drop a = wholeOf kk ko sc items ++ post →
    Chain a (segsAll kk ko sc a items) (a + (wholeOf kk ko sc items).length) ∧ ∀ g ∈ segsAll kk ko sc a items, SegAt w K ks cs g
  | [], a, post, _, _ => ⟨by show (a : Int) = _; simp [wholeOf], fun g hg => by cases hg⟩
  | it :: r, a, post, h, hd => by
    obtain ⟨⟨last, hi⟩, hlong⟩ := h it (.head _)
    have ok := hi.drawn.ok (by omega) (by omega)
    have hr := hi.la.range
    have okl := leftPk_ok (ko := ko) (ks := sc) lko (by omega)
    have hp := packet_len kk ok hr.1 hr.2
    have hpl := packet_len kk okl (sz := 1) (by decide) (by decide)
    have e : (((a + (it.bytes kk ko sc).length : Nat)) : Int) = (a : Int) + ((it.bytes kk ko sc).length : Nat) := by omega
    have ih := seg_all (w := w) hK kk kd ko sc ks cs lkd lsc lko hl r (a + (it.bytes kk ko sc).length) post (fun x hx => h x (.tail _ hx)) (by
      have : ks.drop a = it.bytes kk ko sc ++ (wholeOf kk ko sc r ++ post) := by rw [hd]; simp only [wholeOf, List.append_assoc]
      exact drop_more this)
    rw [e] at ih
    have hd1 : ks.drop a = packetBytes kk it.pk it.sz ++ ((if it.left then packetBytes kk (leftPk ko sc) 1 else []) ++ (wholeOf kk ko sc r ++ post)) := by
      rw [hd]; simp only [wholeOf, Item.bytes, List.append_assoc]
    have s1 := seg_long (w := w) hK kk ks _ it.pk it.sz cs a hlong ok hr.1 hr.2 hl hd1
    have eb : (it.bytes kk ko sc).length = (packetBytes kk it.pk it.sz).length + (if it.left then packetBytes kk (leftPk ko sc) 1 else []).length := by unfold Item.bytes; rw [List.length_append]
    have ew : ((a : Int) + ((wholeOf kk ko sc (it :: r)).length : Nat)) = (a : Int) + ((it.bytes kk ko sc).length : Nat) + ((wholeOf kk ko sc r).length : Nat) := by
      simp only [wholeOf, List.length_append]; omega
    rw [ew]
    unfold segsAll
    by_cases hleft : it.left = true
    · rw [hleft, if_pos rfl] at eb hd1 ⊢
      have hd2 := drop_more hd1
      have s2 := seg_long (w := w) hK kk ks _ (leftPk ko sc) 1 cs (a + (packetBytes kk it.pk it.sz).length) (by intro q; cases q) okl (by decide) (by decide) hl hd2
      rw [show (((a + (packetBytes kk it.pk it.sz).length : Nat)) : Int) = (a : Int) + ((packetBytes kk it.pk it.sz).length : Nat) by omega] at s2
      refine ⟨⟨rfl, by show (a : Int) < a + _; omega, rfl, by show (a : Int) + _ < a + _ + _; omega, ?_⟩, ?_⟩
      · have : (segOf kk (leftPk ko sc) 1 ((a : Int) + ((packetBytes kk it.pk it.sz).length : Nat))).en = (a : Int) + ((it.bytes kk ko sc).length : Nat) := by
          show (a : Int) + _ + ((packetBytes kk (leftPk ko sc) 1).length : Nat) = _; omega
        rw [this]; exact ih.1
      · intro g hg
        rcases List.mem_cons.mp hg with rfl | hg
        · exact s1
        · rcases List.mem_cons.mp hg with rfl | hg
          · exact s2
          · exact ih.2 g hg
    · have hleft' : it.left = false := by cases hh : it.left <;> simp_all
      rw [hleft', if_neg (by decide)] at eb ⊢
      refine ⟨⟨rfl, by show (a : Int) < a + _; omega, ?_⟩, ?_⟩
      · have : (segOf kk it.pk it.sz (a : Int)).en = (a : Int) + ((it.bytes kk ko sc).length : Nat) := by
          show (a : Int) + ((packetBytes kk it.pk it.sz).length : Nat) = _; rw [eb, List.length_nil]; omega
        rw [this]; exact ih.1
      · intro g hg
        rcases List.mem_cons.mp hg with rfl | hg
        · exact s1
        · exact ih.2 g hg
theorem split_last {kd sc : List Int} {many : Nat} {items : List Item} (hok : ItemsOk kd sc many items) (hlen : items.length = many) (hm : 1 ≤ many) : ∃ ini lst, items = ini ++ [lst] ∧ (∀ it ∈ ini, LongOk kd sc it) ∧ ItemOk kd sc true lst := by
  rcases List.eq_nil_or_concat items with rfl | ⟨ini, lst, rfl⟩
  · simp at hlen; omega
  · simp only [List.concat_eq_append] at *
    simp only [List.length_append, List.length_cons, List.length_nil] at hlen
    refine ⟨ini, lst, rfl, fun it hi => ?_, ?_⟩
    · obtain ⟨j, hj, rfl⟩ := List.mem_iff_getElem.mp hi
      have h := hok j ini[j] (by rw [List.getElem?_append_left hj]; exact List.getElem?_eq_getElem hj)
      have hf : decide (j + 1 = many) = false := decide_eq_false (by omega)
      rw [hf] at h
      exact ⟨⟨_, h⟩, h.drawn.last rfl⟩
    · have h := hok ini.length lst (by rw [List.getElem?_append_right (Nat.le_refl _), Nat.sub_self]; rfl)
      have hf : decide (ini.length + 1 = many) = true := decide_eq_true (by omega)
      rwa [hf] at h
theorem split_items_C {w : World} {K : Frag} (hK : KOk K) (kk kd ko sc : List Int) (many : Nat) (items : List Item) (l : AL) (hok : ItemsOk kd sc many items) (hlen : items.length = many) (hm : 1 ≤ many) (hm4 : many ≤ 4) (lkd : kd.length ≤ 8) (lsc : sc.length ≤ 4) (lko : ko.length ≤ 20) (hne : ko ≠ kd) :
    Cw w K 265 9 false [.bytes (wholeOf kk ko sc items), .int kd.length] l (Raws (segsOf kk ko sc 0 items) l) := by
  have hwl := items_len kk ko lkd lsc lko items hok.all
  (refine El.eeaxaxx (split_last hok hlen hm) fun ini lst zz1 hini hlst => ?_; (first | subst zz1 | cases zz1))
  have hd : ∀ it ∈ ini ++ [lst], it.pk.d = kd := fun it hi => by (refine El.ex (hok.all it hi) fun zz1 h => ?_); exact h.drawn.d
  generalize hks : wholeOf kk ko sc (ini ++ [lst]) = ks at hwl ⊢
  have hl : ks.length ≤ 10000 := by omega
  have key : Chain 0 (segsAll kk ko sc 0 (ini ++ [lst])) ks.length ∧ ∀ g ∈ segsAll kk ko sc 0 (ini ++ [lst]), SegAt w K ks kd.length g := by
    by_cases hs : lst.pk.sort = .short
    · have hleft : lst.left = false := by cases hh : lst.left with | false => rfl | true => exact absurd hs (hlst.left hh)
      have hb : lst.bytes kk ko sc = packetBytes kk lst.pk lst.sz := by unfold Item.bytes; rw [hleft, if_neg (by decide), List.append_nil]
      have hw : ks = wholeOf kk ko sc ini ++ packetBytes kk lst.pk lst.sz := by
        rw [← hks, wholeOf_append]
        show _ ++ (lst.bytes kk ko sc ++ []) = _
        rw [hb, List.append_nil]
      (refine El.axx (seg_all (w := w) hK kk kd ko sc ks kd.length lkd lsc lko hl ini 0 (packetBytes kk lst.pk lst.sz) hini hw) fun c1 s1 => ?_)
      have ok := hlst.drawn.ok (by omega) (by omega)
      have hr := hlst.la.range
      have hd2 : ks.drop (wholeOf kk ko sc ini).length = packetBytes kk lst.pk lst.sz := by rw [hw]; exact List.drop_left
      have s2 := seg_short (w := w) hK kk ks lst.pk lst.sz (wholeOf kk ko sc ini).length hs ok hr.1 hr.2 hl hd2
      rw [hlst.drawn.d] at s2
      have hpl := hlst.plen (kk := kk) lkd lsc
      have hlen2 : ks.length = (wholeOf kk ko sc ini).length + (packetBytes kk lst.pk lst.sz).length := by rw [hw, List.length_append]
      have e0 : ((0 : Nat) : Int) + ((wholeOf kk ko sc ini).length : Nat) = ((wholeOf kk ko sc ini).length : Nat) := by omega
      rw [segsAll_append]
      have e1 : segsAll kk ko sc (0 + ((wholeOf kk ko sc ini).length : Nat)) [lst] = [segOf kk lst.pk lst.sz ((wholeOf kk ko sc ini).length : Nat)] := by
        simp only [segsAll, hleft]
        rw [Int.zero_add]; rfl
      rw [e1]
      refine ⟨c1.app ⟨?_, ?_, ?_⟩, fun g hg => ?_⟩
      · show ((wholeOf kk ko sc ini).length : Int) = _; omega
      · show _ < ((wholeOf kk ko sc ini).length : Int) + ((packetBytes kk lst.pk lst.sz).length : Nat); omega
      · show ((wholeOf kk ko sc ini).length : Int) + ((packetBytes kk lst.pk lst.sz).length : Nat) = ks.length; omega
      · rcases List.mem_append.mp hg with hg | hg
        · exact s1 g hg
        · rw [List.mem_singleton.mp hg]; exact s2
    · obtain ⟨c1, s1⟩ := seg_all (w := w) hK kk kd ko sc ks kd.length lkd lsc lko hl (ini ++ [lst]) 0 [] (fun it hi => by
        rcases List.mem_append.mp hi with hi | hi
        · exact hini it hi
        · rw [List.mem_singleton.mp hi]; exact ⟨⟨_, hlst⟩, hs⟩) (by rw [hks, List.append_nil]; rfl)
      rw [hks] at c1
      have e0 : ((0 : Nat) : Int) + (ks.length : Nat) = (ks.length : Nat) := by omega
      rw [e0] at c1
      exact ⟨c1, s1⟩
  have hkept := kept_segs (kk := kk) (ks := sc) hne 0 (ini ++ [lst]) hd
  rw [← hkept]
  obtain ⟨g0, rest, hg, hgd⟩ : ∃ g0 rest, segsAll kk ko sc 0 (ini ++ [lst]) = g0 :: rest ∧ g0.d = kd := by
    cases ini with
    | nil => exact ⟨_, _, rfl, hd lst (.head _)⟩
    | cons it r => exact ⟨_, _, rfl, hd it (.head _)⟩
  rw [hg] at key ⊢
  rw [← hgd]
  exact split_C hK ks (g0.d.length : Nat) g0 rest l hl key.1 (by rw [hgd]; exact key.2)
theorem RawLs.get : ∀ {gs : List Seg} {Xs : List Addr} {os : AL}, RawLs gs Xs os → ∀ {i : Nat} {g : Seg}, gs[i]? = some g → ∃ X V, Xs[i]? = some X ∧ (X, g.raw V) ∈ os
  | _, _, _, .nil, _, _, h => by cases h
  | _, _, _, .cons X V _, 0, g, h => by cases h; exact ⟨X, V, rfl, .head _⟩
  | _, _, _, .cons _ _ r, i + 1, g, h => by
    (refine El.eeaxx (r.get (i := i) (g := g) (by simpa using h)) fun X V e hm => ?_)
    exact ⟨X, V, by simpa using e, .tail _ hm⟩
theorem segsOf_get (kk ko ks : List Int) : ∀ (items : List Item) (a : Int) (i : Nat) (it : Item), items[i]? = some it → (segsOf kk ko ks a items)[i]? = some (segOf kk it.pk it.sz (a + (wholeOf kk ko ks (items.take i)).length))
  | [], _, _, _, h => by cases h
  | x :: r, a, 0, it, h => by cases h; simp [segsOf, wholeOf]
  | x :: r, a, i + 1, it, h => by
    have := segsOf_get kk ko ks r (a + (x.bytes kk ko ks).length) i it (by simpa using h)
    simp only [segsOf, List.getElem?_cons_succ, this]
    congr 2
    simp only [List.take_succ_cons, wholeOf, List.length_append]
    omega
theorem whole_drop (kk ko ks : List Int) {items : List Item} {i : Nat} {it : Item} (h : items[i]? = some it) : ∃ post, (wholeOf kk ko ks items).drop (wholeOf kk ko ks (items.take i)).length = packetBytes kk it.pk it.sz ++ post := by
  have hi : i < items.length := (List.getElem?_eq_some_iff.mp h).1
  have e : items = items.take i ++ (it :: items.drop (i + 1)) := by
    conv => lhs; rw [← List.take_append_drop i items]
    rw [List.drop_eq_getElem_cons hi, (List.getElem?_eq_some_iff.mp h).2]
  refine ⟨(if it.left then packetBytes kk (leftPk ko ks) 1 else []) ++ wholeOf kk ko ks (items.drop (i + 1)), ?_⟩
  conv => lhs; rw [show wholeOf kk ko ks items = wholeOf kk ko ks (items.take i) ++ wholeOf kk ko ks (it :: items.drop (i + 1)) by rw [← wholeOf_append, ← e]]
  rw [List.drop_left]
  simp only [wholeOf, Item.bytes, List.append_assoc]

theorem found_init (it : Item) : it.found.tup.dropLast = it.pk.tup.dropLast := by
  obtain ⟨⟨sort, sp, kp, d, sc, tok, num, pay⟩, la, seen, sz, left⟩ := it
  cases sort <;> rfl
theorem init_flat (pk : Pk) : pk.tup.dropLast.all AV.flat = true := by
  obtain ⟨sort, sp, kp, d, sc, tok, num, pay⟩ := pk
  cases sort <;> rfl
noncomputable def forElts : Stmt → List PySem.Expr
  | .For (.Tuple es _ _) _ _ _ _ => es
  | _ => []
noncomputable abbrev lawM2 (d D : Addr) (kd kk ks : List Int) : AM := [(Str.ofString "draws", .ref d), (Str.ofString "dcid", .bytes kd), (Str.ofString "key", .bytes kk), (Str.ofString "whole", .bytes ks), (Str.ofString "raws", .ref D)]
theorem law_turn2 {w : World} {K : Frag} (hK : KOk K) {a : Addr} {cd : Value} {c : Cx w K (lawF a cd) 40 true} {E : Value → Shared → Prop} (d D X T P V T0 : Addr) (ks kk kd sc0 post : List Int) (it : Item) (last : Bool) (off : Nat) (own l0 : AL)
    (h : ItemOk kd sc0 last it) (lkd : kd.length ≤ 8) (lsc : sc0.length ≤ 4) (hl : ks.length ≤ 10000) (hd : ks.drop off = packetBytes kk it.pk it.sz ++ post) (hX : (X, (segOf kk it.pk it.sz off).raw V) ∈ l0) (hT : (T, AO.tup [.ref P, it.seen]) ∈ l0) (hP : (P, AO.tup it.pk.tup) ∈ l0) :
    ∃ m2 l2, Asgs c E (lawM2 d D kd kk ks) ((T0, .tup [.ref X, .ref T]) :: (own ++ l0)) (forElts (sAt (topR 73).body 6)) [.ref X, .ref T] m2 l2 ∧
      Wb c E m2 l2 (forBody (sAt (topR 73).body 6)) (fun f m' l' => f = .next ∧ l' = own ++ l0 ∧ Sub (lawM2 d D kd kk ks) m') := by
  have hX' : (X, (segOf kk it.pk it.sz off).raw V) ∈ (T0, AO.tup [.ref X, .ref T]) :: (own ++ l0) := .tail _ (List.mem_append_right _ hX)
  have hT' : (T, AO.tup [.ref P, it.seen]) ∈ (T0, AO.tup [.ref X, .ref T]) :: (own ++ l0) := .tail _ (List.mem_append_right _ hT)
  have hP' : (P, AO.tup it.pk.tup) ∈ (T0, AO.tup [.ref X, .ref T]) :: (own ++ l0) := .tail _ (List.mem_append_right _ hP)
  refine ⟨_, _, Asgs.name (by kernel_rfl) (Asgs.tup hT' (by kernel_rfl) rfl (Asgs.name (by kernel_rfl) (Asgs.name (by kernel_rfl) Asgs.nil)) Asgs.nil), ?_⟩
  have C1 := open_at (w := w) hK kk ks post it kd sc0 last off V X _ h (by omega) (by omega) hl hd hX'
  generalize hL : ((T0, AO.tup [.ref X, .ref T]) :: (own ++ l0)) = L at hX' hT' hP' C1
  show Wb c E [(Str.ofString "seen", it.seen), (Str.ofString "packet", .ref P), (Str.ofString "raw", .ref X), (Str.ofString "draws", .ref d), (Str.ofString "dcid", .bytes kd), (Str.ofString "key", .bytes kk), (Str.ofString "whole", .bytes ks), (Str.ofString "raws", .ref D)] L (_ :: _ :: _ :: _ :: _) _
  refine Wb.assignX (Ex.fnA hK (by kernel_rfl) rfl (by kernel_rfl) (by walk_at "evs") C1 (by kernel_rfl)) (by kernel_rfl) ?_
  (intro zr1 zr2 zr3; refine El.eaxx (zr3) fun Fd zz1 zz2 => ?_; try clear zr3; (first | subst zz1 | cases zz1); (first | subst zz2 | cases zz2))
  have hr := h.la.range
  have ok := h.drawn.ok (by omega) (by omega)
  have ok1 := ok.pl
  have f1 := it.found.tup_len
  have f2 := it.found.tup_num1
  have f3 := it.found.tup_payload
  have f4 := found_init it
  have p1 := it.pk.tup_len
  have p2 := it.pk.tup_num1
  have p3 := it.pk.tup_payload
  have p4 := it.pk.tup_first
  have hpl := padded_length it.pk.pay it.sz
  have hpay : it.found.pay = padded it.pk.pay it.sz := rfl
  rw [hpay] at f3
  have hX2 : (X, (segOf kk it.pk it.sz off).raw V) ∈ (Fd, AO.tup it.found.tup) :: L := .tail _ hX'
  have hP2 : (P, AO.tup it.pk.tup) ∈ (Fd, AO.tup it.found.tup) :: L := .tail _ hP'
  have S1 := space_of_C (w := w) hK it.pk.sort ((Fd, AO.tup it.found.tup) :: L)
  generalize hft : it.found.tup = ft at *
  generalize hpt : it.pk.tup = pt at *
  have hmu : Ev c E [(Str.ofString "found", .ref Fd), (Str.ofString "seen", it.seen), (Str.ofString "packet", .ref P), (Str.ofString "raw", .ref X), (Str.ofString "draws", .ref d), (Str.ofString "dcid", .bytes kd), (Str.ofString "key", .bytes kk), (Str.ofString "whole", .bytes ks), (Str.ofString "raws", .ref D)] ((Fd, AO.tup ft) :: L) (.UnaryOp .USub (.Constant (.int 1) 0 ⟨0, 0, 0, 0⟩) ⟨0, 0, 0, 0⟩) (.int (-1)) := Ev.neg Ev.const_int
  with_reducible apply Wb.if_no (p := False ∨ False ∨ (it.pk.sort.space ≠ it.pk.sort.space) ∨ False)
  · with_reducible apply Te.or
    · walk_at "te"
    · intro _
      with_reducible apply Te.or
      · refine Te.cmpXX (R1 := New (.tup ft.dropLast) ((Fd, AO.tup ft) :: L)) (R2 := fun x y l' => ∃ A B, x = .ref A ∧ y = .ref B ∧ l' = (B, .tup pt.dropLast) :: (A, .tup ft.dropLast) :: (Fd, AO.tup ft) :: L) (Ex.tup_init ?_ ?_ (.head _) (by omega) (by omega) rfl) ?_ ?_ (by with_unfolding_all rfl)
        · walk_at "ev"
        · walk_at "ev"
        · (intro zr1 zr2 zr3; refine El.eaxx (zr3) fun A zz1 zz2 => ?_; try clear zr3; (first | subst zz1 | cases zz1); (first | subst zz2 | cases zz2))
          refine (Ex.tup_init ?_ ?_ (.tail _ hP2) (by omega) (by omega) rfl).mono (by (intro zr1 zr2 zr3; refine El.eaxx (zr3) fun B zz1 zz2 => ?_; try clear zr3; (first | subst zz1 | cases zz1); (first | subst zz2 | cases zz2)); exact ⟨A, B, rfl, rfl, rfl⟩)
          · walk_at "ev"
          · walk_at "ev"
        · (intro zr1 zr2 zr3 zr4; refine El.eeaxaxx (zr4) fun A B zz1 zz2 zz3 => ?_; try clear zr4; (first | subst zz1 | cases zz1); (first | subst zz2 | cases zz2); (first | subst zz3 | cases zz3))
          refine ⟨.skip (.skip .refl), Cp.ne_tup (vs := pt.dropLast) (by rw [f4]; exact .tail _ (.head _)) (.head _) (by rw [← hpt]; exact init_flat it.pk)⟩
      · intro _
        with_reducible apply Te.or
        · refine Te.cmp (Ev.fnA hK (by kernel_rfl) rfl (by kernel_rfl) (Evs.cons (Ev.attr hK ?_ hX2 (by kernel_rfl) rfl) .nil rfl) S1 (by kernel_rfl)) (Ev.fnA hK (by kernel_rfl) rfl (by kernel_rfl) (Evs.cons (Ev.item_t (i := 0) ?_ ?_ hP2 (seqIndex_of (by decide) (by omega)) p4 (by decide) rfl) .nil rfl) S1 (by kernel_rfl)) Cop.sne (by with_unfolding_all rfl)
          · walk_at "ev"
          · walk_at "ev"
          · walk_at "ev"
        · intro _; exact Te.or_nil
  · rintro (q | q | q | q)
    · exact q
    · exact q
    · exact q rfl
    · exact q
  have IF : ∀ {m' : AM} {p1 p2 p3 p4 : Pos} {k : Nat}, m'.lookup (Str.ofString "found") = some (.ref Fd) → Ev c E m' ((Fd, AO.tup ft) :: L) (.Subscript (.Name (Str.ofString "found") p1) (.UnaryOp .USub (.Constant (.int 1) k p2) p3) p4) (.bytes (padded it.pk.pay it.sz)) := fun h =>
    Ev.item_t (Ev.local h (by kernel_rfl)) (Ev.neg Ev.const_int) (.head _) f2 f3 (by decide) rfl
  have IP : ∀ {m' : AM} {p1 p2 p3 p4 : Pos} {k : Nat}, m'.lookup (Str.ofString "packet") = some (.ref P) → Ev c E m' ((Fd, AO.tup ft) :: L) (.Subscript (.Name (Str.ofString "packet") p1) (.UnaryOp .USub (.Constant (.int 1) k p2) p3) p4) (.bytes it.pk.pay) := fun h =>
    Ev.item_t (Ev.local h (by kernel_rfl)) (Ev.neg Ev.const_int) hP2 p2 p3 (by decide) rfl
  refine Wb.assign (Ev.bin (Ev.len_b hK (by kernel_rfl) (IF rfl) (by omega)) (Ev.len_b hK (by kernel_rfl) (IP rfl) (by omega)) Bop.sub) (by kernel_rfl) ?_
  generalize hlk : ((padded it.pk.pay it.sz).length : Int) - it.pk.pay.length = lk
  have hlk0 : lk = ((4 - it.sz - it.pk.pay.length).toNat : Int) := by omega
  with_reducible apply Wb.if_no (p := padded it.pk.pay it.sz ≠ it.pk.pay ++ List.replicate lk.toNat 0 ∨ ((0 < lk) ∧ (3 < ((padded it.pk.pay it.sz).length : Int)) ∧ True) ∨ False)
  · with_reducible apply Te.or
    · refine Te.cmp (IF rfl) (Ev.bin (IP rfl) (Ev.bytes_n hK (by kernel_rfl) ?_ (by omega) (by omega)) (Bop.cat (by omega) (by rw [List.length_replicate]; omega))) Cop.bne (by with_unfolding_all rfl)
      walk_at "ev"
    · intro _
      with_reducible apply Te.or
      · with_reducible apply Te.and
        · walk_at "te"
        · intro _
          with_reducible apply Te.and
          · refine Te.cmp (Ev.len_b hK (by kernel_rfl) (IF rfl) (by omega)) ?_ Cop.gt (by with_unfolding_all rfl)
            walk_at "ev"
          · intro _; exact Te.and_nil
      · intro _; exact Te.or_nil
  · rintro (q | ⟨q1, q2, _⟩ | q)
    · apply q
      unfold padded
      congr 1; congr 1; omega
    · omega
    · exact q
  refine Wb.pick (t := own ++ l0) (Wb.nil ⟨rfl, rfl, by walk_at "sub"⟩) ?_
  rw [← hL]
  exact .skip (.skip .refl)

section
variable {w : World} {K : Frag} {F : Fn} {n : Nat} {b : Bool} {c : Cx w K F n b} {E : Value → Shared → Prop} {m : AM} {l l0 : AL} {C e : Addr}
theorem mk_exc (H : KOk K) (HX : KExc K) {A₀ A : Around} {base h₀ : Heap} {env : Env} {outer : List Env} {L : Addr} {m mg mb : Str → Option Value} {news : List (Addr × Obj)}
    {p : Program} {loose : List Str} {mean : ExcName → Option Value} {s : Shared} {v : Value} {Q : Value → Shared → Prop} (hC : C = 51 ∨ C = 71)
    (B : Below A₀ base outer h₀) (F : Fr h₀ L s.heap m) (X : K.In h₀) (N : News h₀ L s.heap news) (T : Top p loose mean mg mb h₀) (hA : A.frames = some (env :: outer)) (hf : env.frame = some L) (hke : env.scope.kind = .function) (hroom : A.depth + 1 < recursionLimit)
    (h : ∀ h' tk' e o, Fr h₀ L h' m → News h₀ L h' ((e, o) :: news) → e ∉ news.map (·.1) → ExcAt C o → Q (.ref e) { s with heap := h', toks := tk' }) : wpAny (model prog w) A (PySem.call (.ref C) [v]) Q E s := by
  have hexg := H.bts (Str.ofString "Exception") (by decide +kernel)
  rcases hC with rfl | rfl
  · exact exc_made (F' := methF (Str.ofString "Short.__init__") 4 0 48) HX.short (hexg := hexg) (hF := H.meths (Str.ofString "Short.__init__", 4, 0, 48) (by decide +kernel)) (Binds.of2 fun _ _ _ _ _ _ => by kernel_rfl) (by kernel_rfl) (by kernel_rfl) (fun _ => rfl) B F X N T hA hf hke hroom h
  · exact exc_made (F' := methF (Str.ofString "PacketRefused.__init__") 5 0 68) HX.refused (hexg := hexg) (hF := H.meths (Str.ofString "PacketRefused.__init__", 5, 0, 68) (by decide +kernel)) (Binds.of2 fun _ _ _ _ _ _ => by kernel_rfl) (by kernel_rfl) (by kernel_rfl) (fun _ => rfl) B F X N T hA hf hke hroom h
end

section
variable {w : World} {K : Frag} {F : Fn} {n : Nat} {b : Bool} {c : Cx w K F n b} {E : Value → Shared → Prop} {m : AM} {l l0 : AL} {C e : Addr}
theorem Bw.exc (H : KOk K) (HX : KExc K) (hC : C = 51 ∨ C = 71) (hn : 1 ≤ n) {v : AV} : Bw c E m (.ref C) [v] l (fun v' l' => ∃ e o, v' = .ref e ∧ l' = (e, .raw o) :: l ∧ ExcAt C o) := fun Q h tk us S r k => by
  obtain _ | ⟨hr, r2⟩ := r
  cases r2
  obtain ⟨mm, news, Fr₀, M, N, RL, nd⟩ := S
  have := c.hdp
  refine G_any c.hΓ (mk_exc (s := c.at h tk) H HX hC c.B Fr₀ c.X N c.T rfl rfl c.kind (by show c.dp + 1 < _; omega) fun h' tk' e o F' N' en hx => ?_)
  exact k h' tk' _ _ _ ⟨e, o, rfl, rfl, hx⟩ ⟨mm, _, F', M, N', .raw RL, List.nodup_cons.mpr ⟨en, nd⟩⟩ rfl
noncomputable abbrev raiseOf (y : Str) (yp k0p cpos rp : Pos) (msg : Str) (k0 : Nat) : Stmt := .Raise (some (.Call (.Name y yp) [.Constant (.str msg) k0 k0p] [] cpos)) none rp
theorem Wb.raise (H : KOk K) (HX : KExc K) (hC : C = 51 ∨ C = 71) {y msg : Str} {yp pc cpos rp : Pos} {k0 : Nat} {rest : List Stmt} {P : Fl → AM → AL → Prop} (hx : isGlo F y = true) (hg : globTab.lookup y = some (.ref C)) (hn : 1 ≤ n) (X : Xs c E C l) : Wb c E m l (raiseOf y yp pc cpos rp msg k0 :: rest) P := fun Q h tk S kk => by
  (refine El.eex (HX.at hC) fun N fI HE => ?_)
  refine G_st (G_Raise c.hΓ HE (Ex.callE (Ev.glob H hg hx) (keeps_of HE.keep) (Evs.cons Ev.const_str Evs.nil rfl) (Bw.exc H HX hC hn) rfl _ h tk S fun h' tk' u v l' hR S' r => ?_))
  (refine El.eeaxaxx (hR) fun e o zz1 zz2 hx => ?_; try clear hR; (first | subst zz1 | cases zz1); (first | subst zz2 | cases zz2))
  cases r
  have S0 := S'
  obtain ⟨mm, news, Fr₀, M, NN, RL, nd⟩ := S'
  (refine El.eaxx (RL.rawC) fun ns zz1 RL' => ?_; (first | subst zz1 | cases zz1))
  exact ⟨e, o, rfl, S0.in, (NN _ (.head _)).1, hx, wpAny_raiseNew_none rfl (X h' tk' e (.inr (.inr ⟨m, o, S0, hx⟩)))⟩
theorem KOk.glob (H : KOk K) {x : Str} {a : Addr} (h : globTab.lookup x = some (.ref a)) : nsIn K mainGlobals x = some (some (.ref a)) := by
  (refine El.eaxx (H.globs x _ h) fun u h1 h2 => ?_)
  cases h2
  exact h1
theorem Wb.tryR (H : KOk K) (HX : KExc K) (hbs : Bs c) {body rest : List Stmt} {x y msg : Str} {np yp pc cpos rp hp pos : Pos} {k0 : Nat} {P : Fl → AM → AL → Prop} (hx : isGlo F x = true) (hgx : globTab.lookup x = some (.ref 51)) (hy : isGlo F y = true) (hgy : globTab.lookup y = some (.ref 71)) (hn : 1 ≤ n)
    (hb : ∀ E', Xf c E' 51 l0 → Wb c E' m l body (Beh c E rest P)) (X : Xs c E 71 l0) : Wb c E m l (.Try body [.ExceptHandler (some (.Name x np)) none [raiseOf y yp pc cpos rp msg k0] hp] [] [] pos :: rest) P := Wb.cons fun Q h tk S kk => by
  refine G_TryX c.hΓ (hb _ (fun h1 tk1 e m1 hf => ?_) Q h tk S kk)
  refine catch_own (s := c.at h1 tk1) hbs HX.short hx (H.glob hgx) hf fun h' g B yv mm T kp F3 M3 B3 X3 T3 hyv y3 => fun Γ p hΓ => ?_
  simp only [isGlo, Bool.and_eq_true, decide_eq_true_eq, Bool.not_eq_true'] at hy
  have hdp := c.hdp
  (refine El.axaxaxx (kp) fun k1 k2 k3 zq42 => ?_; try clear kp; refine El.eaxaxx (zq42) fun ns k4 k5 k6 => ?_; try clear zq42)
  (refine El.axaxaxx (y3) fun hb0 hen hl zq43 => ?_; try clear y3; refine El.eeeeex (zq43) fun oe vs T0 oT ts zq44 => ?_; try clear zq43; refine El.axaxaxaxaxx (zq44) fun he hc hd v1 v2 zz1 => ?_; try clear zq44)
  rw [hyv rfl] at v2
  have fr : ∀ a, a ∈ (c.env :: c.outer).filterMap (·.frame) → B.get? a = none ∧ a ≠ e := fun a hm => by
    (refine El.axeaxx (hl.mem hm) fun z o ho hnf => ?_)
    refine ⟨z, fun q => ?_⟩
    rw [q, he] at ho
    cases ho
    exact hnf vs hd
  have hL := fr c.L (List.mem_filterMap.mpr ⟨c.env, .head _, rfl⟩)
  have hge : g.get? e = none := by
    refine T.none_ _ ?_
    cases z : c.h₀.get? e with
    | none => rfl
    | some o =>
      have := k1 e o z (fun hm => (fr e (List.mem_filterMap.mpr (by
        (refine El.eaxx (List.mem_filterMap.mp hm) fun env h1 h2 => ?_)
        exact ⟨env, .tail _ h1, h2⟩))).2 rfl)
      rw [hen] at this; cases this
  have hns : e ∉ ns.map (·.1) := fun z => by
    (refine El.eaxx (List.mem_map.mp z) fun q hq zz1 => ?_; (first | subst zz1 | cases zz1))
    have := (k4 q hq).1
    rw [hen] at this; cases this
  have NN : News g c.L h' ((e, oe) :: ns) := fun q hq => by
    rcases List.mem_cons.mp hq with rfl | hq
    · exact ⟨he, fun z => hL.2 z.symm, hge⟩
    · refine ⟨hb0 _ _ (k4 q hq).1, fun z => ?_, T.none_ _ (k4 q hq).2⟩
      have := (k4 q hq).1
      rw [show q.1 = c.L from z, hL.1] at this; cases this
  refine (show G (model prog w) Γ (execs (_ :: []) c.env) _ _ _ from ?_) p
  refine G_st (G_Raise hΓ HX.refused (G_Call (G_any hΓ (nameX_K F3 X3 (topRead_of T3) (H.glob hgy) ?_ c.kind hy.1 hy.2))))
  refine G_callWith (P := K.In) (fun h => keeps_of HX.refused.keep h) (G_args_cons (G_any hΓ (wpAny_Constant_str (G_args_nil ⟨X3.keeps F3.keep, ?_⟩))) rfl) rfl rfl
  refine G_any hΓ (mk_exc H HX (.inr rfl) B3 F3 X3 NN T3 rfl rfl c.kind (by show c.dp + 1 < _; omega) fun h2 tk2 e' o' F4 N4 en' hx' => ?_)
  have hex := hx'
  (refine El.axex (hx') fun hcls t hd' => ?_; try clear hx')
  have he2 := (N4 _ (.tail _ (.head _))).1
  have he2' := (N4 _ (.head _)).1
  have ne : e ≠ e' := fun z => en' (by rw [List.map_cons, ← z]; exact .head _)
  (refine El.axaxaxaxaxx (stay_at B3 F4 N4 en') fun s1 s2 s3 s4 s5 s6 => ?_)
  refine ⟨e', o', rfl, X3.keeps F4.keep, he2', hex, raise_ctx rfl ne he2 hd v2 he2' hd' (show (2 : Nat) < 6 by decide) ?_⟩
  have nofld : ∀ a o, h2.get? a = some o → (∀ us, o.data ≠ .fields us) → a ≠ e' := fun a o ha hn q => by
    rw [q, he2'] at ha
    cases ha
    exact hn _ hd'
  have hd3 := Obj.data_mapFields hd' (·.setIfInBounds 2 (Value.ref e))
  refine noteC0 (A := c.A.mark (some (.ref e))) (env := c.env) (outer := c.outer) (x := .ref e) rfl (s6.of_keeps fun a o ha hn => ⟨o, upd_none ha (nofld a o ha hn), rfl⟩) rfl (Heap.get?_update_self _ he2' (Obj.isFreed_of_fields hd3)) (fun a o ha => upd_none (s1 a o ha) fun q => by rw [q, s2] at ha; cases ha) s2 hd3 rfl rfl fun h4 y4 sm4 => ?_
  rw [Obj.cls_mapFields, hcls] at y4
  refine cameC rfl y4 fun h5 y5 sm5 => X h5 _ e' (.inr (.inl ⟨_, .ref e, ⟨fun a o z nm => s3 a o (T.other a o z nm) nm, fun a o z hnf => ?_, s4, ns, fun q hq => ⟨s5 q (.tail _ hq), (k4 q hq).2⟩, k5, k6⟩, fun z => absurd z (by decide), y5⟩))
  (refine El.ex (T.up z) fun sl z1 => ?_)
  (refine El.ex ((sm4.trans sm5) a _ (upd_none (F4.keep _ _ z1) (nofld a _ (F4.keep _ _ z1) hnf)) hnf) fun sl2 z2 => ?_)
  exact ⟨sl2, z2⟩
end

theorem Wb.if_yes {w : World} {K : Frag} {F : Fn} {n : Nat} {b : Bool} {c : Cx w K F n b} {E : Value → Shared → Prop} {m : AM} {l : AL} {test : PySem.Expr} {body rest : List Stmt} {pos : Pos} {p : Prop} {P : Fl → AM → AL → Prop} (H : Te c E m l test p) (hp : p) (k : Wb c E m l body (Beh c E rest P)) : Wb c E m l (.If test body [] pos :: rest) P :=
  Wb.if H (fun _ => k) fun h => absurd hp h
theorem get_whole_X {w : World} {K : Frag} (hK : KOk K) (hX : KExc K) (ks : List Int) (at_ size : Int) (l : AL) (hl : ks.length ≤ 10000) (h2 : ks.length < at_ + size) : CwX w K 89 2 [.bytes ks, .int at_, .int size] l 51 l := by
  refine CwX.def (F := topF 9 89) (xs := [Str.ofString "data", Str.ofString "at", Str.ofString "size"]) (hK.fn 9 89 (by decide +kernel)) (Binds.of3 fun _ _ _ _ _ _ _ => by kernel_rfl) (by kernel_rfl) rfl fun c E hbs X => ?_
  show Wb c E [(Str.ofString "data", .bytes ks), (Str.ofString "at", .int at_), (Str.ofString "size", .int size)] l (_ :: _ :: _ :: _) _
  refine Wb.if_yes (by walk_at "te") (by omega) (Wb.raise hK hX (.inl rfl) (by kernel_rfl) rfl (by decide) X)
theorem get_varint_X {w : World} {K : Frag} (hK : KOk K) (hX : KExc K) (ks : List Int) (at_ : Int) (l : AL) (hl : ks.length ≤ 10000) (h2 : ks.length ≤ at_) : CwX w K 110 2 [.bytes ks, .int at_] l 51 l := by
  refine CwX.def (F := topF 12 110) (xs := [Str.ofString "data", Str.ofString "at"]) (hK.fn 12 110 (by decide +kernel)) (Binds.of2 fun _ _ _ _ _ _ => by kernel_rfl) (by kernel_rfl) rfl fun c E hbs X => ?_
  show Wb c E [(Str.ofString "data", .bytes ks), (Str.ofString "at", .int at_)] l (_ :: _ :: _ :: _) _
  refine Wb.if_yes (by walk_at "te") (by omega) (Wb.raise hK hX (.inl rfl) (by kernel_rfl) rfl (by decide) X)
theorem take_X {w : World} {K : Frag} (hK : KOk K) (hX : KExc K) (I : Addr) (ks : List Int) (a k : Int) (l : AL) (hl : ks.length ≤ 10000) (h2 : ks.length < a + k) : CwX w K 138 2 [.ref I, .int k] ((I, rdr ks a) :: l) 51 ((I, rdr ks a) :: l) := by
  refine CwX.def (F := methF (Str.ofString "Reader.take") 14 2 138) (xs := [Str.ofString "self", Str.ofString "many"]) (hK.meths (Str.ofString "Reader.take", 14, 2, 138) (by decide +kernel)) (Binds.of2 fun _ _ _ _ _ _ => by kernel_rfl) (by kernel_rfl) rfl fun c E hbs X => ?_
  show Wb c E [(Str.ofString "self", .ref I), (Str.ofString "many", .int k)] ((I, rdr ks a) :: l) (_ :: _ :: _ :: _) _
  with_reducible apply Wb.if_yes
  · with_reducible apply Te.cmp
    · walk_at "ev"
    · with_reducible apply Ex.v
      with_reducible apply Ex.mth0
      · assumption
      · walk_at "ev"
      · exact .head _
      · rfl
      · exact left_C hK I ks a l hl
      · kernel_rfl
      · rfl
    · walk_at "cop"
    · with_unfolding_all rfl
  · omega
  · exact Wb.raise hK hX (.inl rfl) (by kernel_rfl) rfl (by decide) X
theorem whole_X {w : World} {K : Frag} (hK : KOk K) (hX : KExc K) (I : Addr) (ks : List Int) (a k : Int) (l : AL) (hl : ks.length ≤ 10000) (h2 : ks.length < a + k) : CwX w K 152 3 [.ref I, .int k] ((I, rdr ks a) :: l) 51 ((I, rdr ks a) :: l) := by
  refine CwX.def (F := methF (Str.ofString "Reader.whole") 14 4 152) (xs := [Str.ofString "self", Str.ofString "size"]) (hK.meths (Str.ofString "Reader.whole", 14, 4, 152) (by decide +kernel)) (Binds.of2 fun _ _ _ _ _ _ => by kernel_rfl) (by kernel_rfl) rfl fun c E hbs X => ?_
  show Wb c E [(Str.ofString "self", .ref I), (Str.ofString "size", .int k)] ((I, rdr ks a) :: l) (_ :: _ :: _ :: _) _
  exact Wb.assignX (Ex.callE (by walk_at "ev") (keeps_of (hK.keepA (by decide +kernel))) (by walk_at "evs") ((get_whole_X hK hX ks a k _ hl h2).toB (by decide) hbs X.f) rfl) (by kernel_rfl) fun _ _ h => h.elim
theorem varint_X {w : World} {K : Frag} (hK : KOk K) (hX : KExc K) (I : Addr) (ks : List Int) (a : Int) (l : AL) (hl : ks.length ≤ 10000) (h2 : ks.length ≤ a) : CwX w K 159 3 [.ref I] ((I, rdr ks a) :: l) 51 ((I, rdr ks a) :: l) := by
  refine CwX.def (F := methF (Str.ofString "Reader.varint") 14 5 159) (xs := [Str.ofString "self"]) (hK.meths (Str.ofString "Reader.varint", 14, 5, 159) (by decide +kernel)) (Binds.of1 fun _ _ _ _ _ => by kernel_rfl) (by kernel_rfl) rfl fun c E hbs X => ?_
  show Wb c E [(Str.ofString "self", .ref I)] ((I, rdr ks a) :: l) (_ :: _ :: _) _
  exact Wb.unpack (Ex.callE (by walk_at "ev") (keeps_of (hK.keepA (by decide +kernel))) (by walk_at "evs") ((get_varint_X hK hX ks a _ hl h2).toB (by decide) hbs X.f) rfl) (by kernel_rfl) rfl fun _ _ h => h.elim
section
variable {w : World} {K : Frag} {F : Fn} {n : Nat} {b : Bool} {c : Cx w K F n b} {E : Value → Shared → Prop} {m : AM} {l l0 : AL}
theorem Bw.mono' {f : Value} {vs : List AV} {R R' : AV → AL → Prop} (H : Bw c E m f vs l R) (h : ∀ v l', R v l' → R' v l') : Bw c E m f vs l R' := fun Q hh tk us S r k => H Q hh tk us S r fun h' tk' u v l' hR S' r' => k h' tk' u v l' (h v l' hR) S' r'
theorem take_E (hK : KOk K) (hX : KExc K) (hbs : Bs c) (I : Addr) (ks : List Int) (a k : Int) (hl : ks.length ≤ 10000) (h0 : 0 ≤ a) (h1 : 0 ≤ k) (hn : 2 ≤ n) (X : Xf c E 51 l) :
    Bw c E m (.ref 138) [.ref I, .int k] ((I, rdr ks a) :: l) (fun v l' => a + k ≤ ks.length ∧ v = .bytes ((ks.drop a.toNat).take k.toNat) ∧ l' = (I, rdr ks (a + k)) :: l) := by
  by_cases h : a + k ≤ ks.length
  · exact ((take_C hK I ks a k l hl h0 h1 h).toB hn (fun q => nomatch q)).mono' fun _ _ z => ⟨h, z⟩
  · exact ((take_X hK hX I ks a k l hl (by omega)).toB hn hbs (X.pick (.skip .refl))).mono' fun _ _ z => z.elim
theorem whole_E (hK : KOk K) (hX : KExc K) (hbs : Bs c) (I : Addr) (ks : List Int) (a k : Int) (hl : ks.length ≤ 10000) (h0 : 0 ≤ a) (h1 : 0 ≤ k) (hn : 3 ≤ n) (X : Xf c E 51 l) :
    Bw c E m (.ref 152) [.ref I, .int k] ((I, rdr ks a) :: l) (fun v l' => a + k ≤ ks.length ∧ v = .int (val ((ks.drop a.toNat).take k.toNat)) ∧ l' = (I, rdr ks (a + k)) :: l) := by
  by_cases h : a + k ≤ ks.length
  · exact ((whole_C hK I ks a k l hl h0 h1 h).toB (by omega) (fun q => nomatch q)).mono' fun _ _ z => ⟨h, z⟩
  · exact ((whole_X hK hX I ks a k l hl (by omega)).toB hn hbs (X.pick (.skip .refl))).mono' fun _ _ z => z.elim
theorem varint_E (hK : KOk K) (hX : KExc K) (hbs : Bs c) (I : Addr) (ks : List Int) (a v : Int) (hl : ks.length ≤ 10000) (h0 : 0 ≤ a) (hv : a < ks.length → ks.getD a.toNat 0 = v) (v0 : 0 ≤ v) (v1 : v < 64) (hn : 3 ≤ n) (X : Xf c E 51 l) :
    Bw c E m (.ref 159) [.ref I] ((I, rdr ks a) :: l) (fun u l' => a < ks.length ∧ u = .int v ∧ l' = (I, rdr ks (a + 1)) :: l) := by
  by_cases h : a < ks.length
  · exact ((varint_C hK I ks a v l hl h0 h (hv h) v0 v1).toB hn (fun q => nomatch q)).mono' fun _ _ z => ⟨h, z⟩
  · exact ((varint_X hK hX I ks a l hl (by omega)).toB hn hbs (X.pick (.skip .refl))).mono' fun _ _ z => z.elim
end

section
variable {w : World} {K : Frag} {F : Fn} {n : Nat} {b : Bool} {c : Cx w K F n b} {E : Value → Shared → Prop} {m : AM} {l l0 : AL}
theorem Ex.mthB (H : KOk K) {o : PySem.Expr} {name : Str} {apos pos cpos : Pos} {e0 : PySem.Expr} {es : List PySem.Expr} {I C f : Addr} {fs : List (Str × AV)} {RA : List AV → AL → Prop} {R : AV → AL → Prop} {pl : Sem Bool} (ho : Ev c E m l o (.ref I)) (hm : (I, AO.inst C fs) ∈ l) (hx : fs.lookup name = none)
    (ha : Exs c E m l (e0 :: es) RA) (C0 : ∀ vs l', RA vs l' → Bw c E m (.ref f) (.ref I :: vs) l' R) (hC : ((clsTab.any (fun p => p.1 == C) && mthTab.contains (C, name, f)) && noStar (e0 :: es)) = true)
    (he : eval (.Call (.Attribute o name apos) (e0 :: es) [] pos) c.env = (do
      let ov ← eval o c.env
      standAt apos.atName
      let (f, first) ← holding [ov] (getMethod ov name pl)
      callWith cpos f first (backTo pos (starEach (e0 :: es) c.env)) [])) : Ex c E m l (.Call (.Attribute o name apos) (e0 :: es) [] pos) R := by
  have h1 := (Bool.and_eq_true _ _ ▸ hC).1
  have h2 := (Bool.and_eq_true _ _ ▸ hC).2
  have h3 := h1
  simp only [Bool.and_eq_true, List.contains_iff_mem] at h3
  exact Ex.meth ho (Mt.inst H f hm h1 hx) (keeps_of (H.mths _ h3.2).2.2) ha C0 h2 he
end
theorem read_inv_X {w : World} {K : Frag} (hK : KOk K) (hX : KExc K) (ks : List Int) (start dl sl : Int) (l : AL) (h0 : 0 ≤ start) (hl : ks.length ≤ 10000) (e3 : start + 1 + 4 + 1 ≤ ks.length → val ((ks.drop (start + 1 + 4).toNat).take (1 : Int).toNat) = dl) (e4 : start + 1 + 4 + 1 + dl + 1 ≤ ks.length → val ((ks.drop (start + 1 + 4 + 1 + dl).toNat).take (1 : Int).toNat) = sl) (d0 : 0 ≤ dl) (s0 : 0 ≤ sl) (hcut : ks.length < start + 1 + 4 + 1 + dl + 1 + sl) :
    CwX w K 216 5 [.bytes ks, .int start] l 51 l := by
  refine CwX.def (F := topF 25 216) (xs := [Str.ofString "data", Str.ofString "start"]) (hK.fn 25 216 (by decide +kernel)) (Binds.of2 fun _ _ _ _ _ _ => by kernel_rfl) (by kernel_rfl) rfl fun c E hbs X => ?_
  show Wb c E [(Str.ofString "data", .bytes ks), (Str.ofString "start", .int start)] l (_ :: _ :: _ :: _ :: _) _
  refine Wb.assignX (Ex.callE (by walk_at "ev") (keeps_cls hK (by decide +kernel)) (by walk_at "evs") (reader_make hK ks (by decide)) rfl) (by kernel_rfl) ?_
  (intro zr1 zr2 zr3; refine El.eaxx (zr3) fun I zz1 zz2 => ?_; try clear zr3; (first | subst zz1 | cases zz1); (first | subst zz2 | cases zz2))
  with_reducible apply Wb.setattr
  · assumption
  · walk_at "ev"
  · walk_at "ev"
  · exact Mine.Upd.head
  · kernel_rfl
  · rfl
  show Wb c E _ ((I, rdr ks start) :: l) _ _
  refine Wb.swap (xs := [Str.ofString "first", Str.ofString "version"]) (RL := fun vs l0 => ∃ x y, vs = [.int x, .int y] ∧ start + 1 + 4 ≤ ks.length ∧ l0 = (I, rdr ks (start + 1 + 4)) :: l) ?_ (fun vs l0 h => by (refine El.eeaxx (h) fun zz1 zz2 zz3 zz4 => ?_; try clear h; (first | subst zz3 | cases zz3)); rfl) (by kernel_rfl) rfl ?_
  · with_reducible apply Exs.cons
    · with_reducible apply Ex.mthB
      · assumption
      · walk_at "ev"
      · exact .head _
      · rfl
      · exact Evs.x (by walk_at "evs")
      · (intro zr1 zr2 zr3; refine El.axx (zr3) fun zz1 zz2 => ?_; try clear zr3; (first | subst zz1 | cases zz1); (first | subst zz2 | cases zz2))
        exact whole_E hK hX hbs I ks start 1 hl h0 (by decide) (by decide) X.f
      · kernel_rfl
      · rfl
    · (intro zr1 zr2 zr3; refine El.axaxx (zr3) fun z1 zz1 zz2 => ?_; try clear zr3; (first | subst zz1 | cases zz1); (first | subst zz2 | cases zz2))
      with_reducible apply Exs.cons
      · with_reducible apply Ex.mthB
        · assumption
        · walk_at "ev"
        · exact .head _
        · rfl
        · exact Evs.x (by walk_at "evs")
        · (intro zr1 zr2 zr3; refine El.axx (zr3) fun zz1 zz2 => ?_; try clear zr3; (first | subst zz1 | cases zz1); (first | subst zz2 | cases zz2))
          exact whole_E hK hX hbs I ks (start + 1) 4 hl (by omega) (by decide) (by decide) X.f
        · kernel_rfl
        · rfl
      · (intro zr1 zr2 zr3; refine El.axaxx (zr3) fun z2 zz1 zz2 => ?_; try clear zr3; (first | subst zz1 | cases zz1); (first | subst zz2 | cases zz2))
        exact Exs.done ⟨_, _, rfl, z2, rfl⟩
      · rfl
    · rfl
  (intro zr1 zr2 zr3; refine El.eeaxaxx (zr3) fun x y zz1 z2 zz2 => ?_; try clear zr3; (first | subst zz1 | cases zz1); (first | subst zz2 | cases zz2))
  with_reducible apply Wb.assignX
  · with_reducible apply Ex.mthB
    · assumption
    · walk_at "ev"
    · exact .head _
    · rfl
    · with_reducible apply Exs.one
      · with_reducible apply Ex.mthB
        · assumption
        · walk_at "ev"
        · exact .head _
        · rfl
        · exact Evs.x (by walk_at "evs")
        · (intro zr1 zr2 zr3; refine El.axx (zr3) fun zz1 zz2 => ?_; try clear zr3; (first | subst zz1 | cases zz1); (first | subst zz2 | cases zz2))
          exact whole_E hK hX hbs I ks (start + 1 + 4) 1 hl (by omega) (by decide) (by decide) X.f
        · kernel_rfl
        · rfl
      · rfl
    · (intro zr1 zr2 zr3; refine El.eaxaxaxx (zr3) fun zz1 zz2 z3 zz3 zz4 => ?_; try clear zr3; (first | subst zz2 | cases zz2); (first | subst zz3 | cases zz3); (first | subst zz4 | cases zz4))
      rw [e3 z3]
      exact take_E hK hX hbs I ks (start + 1 + 4 + 1) dl hl (by omega) d0 (by decide) X.f
    · kernel_rfl
    · rfl
  · kernel_rfl
  (intro zr1 zr2 zr3; refine El.axaxx (zr3) fun z4 zz1 zz2 => ?_; try clear zr3; (first | subst zz1 | cases zz1); (first | subst zz2 | cases zz2))
  with_reducible apply Wb.assignX
  · with_reducible apply Ex.mthB
    · assumption
    · walk_at "ev"
    · exact .head _
    · rfl
    · with_reducible apply Exs.one
      · with_reducible apply Ex.mthB
        · assumption
        · walk_at "ev"
        · exact .head _
        · rfl
        · exact Evs.x (by walk_at "evs")
        · (intro zr1 zr2 zr3; refine El.axx (zr3) fun zz1 zz2 => ?_; try clear zr3; (first | subst zz1 | cases zz1); (first | subst zz2 | cases zz2))
          exact whole_E hK hX hbs I ks (start + 1 + 4 + 1 + dl) 1 hl (by omega) (by decide) (by decide) X.f
        · kernel_rfl
        · rfl
      · rfl
    · (intro zr1 zr2 zr3; refine El.eaxaxaxx (zr3) fun zz1 zz2 z5 zz3 zz4 => ?_; try clear zr3; (first | subst zz2 | cases zz2); (first | subst zz3 | cases zz3); (first | subst zz4 | cases zz4))
      rw [e4 z5]
      exact take_E hK hX hbs I ks (start + 1 + 4 + 1 + dl + 1) sl hl (by omega) s0 (by decide) X.f
    · kernel_rfl
    · rfl
  · kernel_rfl
  (intro zr1 zr2 zr3; refine El.axaxx (zr3) fun z6 zz1 zz2 => ?_; try clear zr3; (first | subst zz1 | cases zz1); (first | subst zz2 | cases zz2))
  omega
theorem read_inv_E {w : World} {K : Frag} (hK : KOk K) (hX : KExc K) {F : Fn} {n : Nat} {b : Bool} {c : Cx w K F n b} {E : Value → Shared → Prop} {m : AM} (hbs : Bs c) (ks : List Int) (start f dl sl : Int) (l : AL) (h0 : 0 ≤ start) (hl : ks.length ≤ 10000) (e1 : start + 1 ≤ ks.length → val ((ks.drop start.toNat).take (1 : Int).toNat) = f)
    (e2 : start + 1 + 4 ≤ ks.length → val ((ks.drop (start + 1).toNat).take (4 : Int).toNat) = 1) (e3 : start + 1 + 4 + 1 ≤ ks.length → val ((ks.drop (start + 1 + 4).toNat).take (1 : Int).toNat) = dl) (e4 : start + 1 + 4 + 1 + dl + 1 ≤ ks.length → val ((ks.drop (start + 1 + 4 + 1 + dl).toNat).take (1 : Int).toNat) = sl) (d0 : 0 ≤ dl) (s0 : 0 ≤ sl) (hn : 5 ≤ n) (X : Xf c E 51 l) :
    Bw c E m (.ref 216) [.bytes ks, .int start] l (fun v l' => start + 1 + 4 + 1 + dl + 1 + sl ≤ ks.length ∧ New (.tup [.int f, .int 1, .bytes ((ks.drop (start + 1 + 4 + 1).toNat).take dl.toNat), .bytes ((ks.drop (start + 1 + 4 + 1 + dl + 1).toNat).take sl.toNat), .int (start + 1 + 4 + 1 + dl + 1 + sl)]) l v l') := by
  by_cases h : start + 1 + 4 + 1 + dl + 1 + sl ≤ ks.length
  · exact ((read_inv_C hK ks start f dl sl l h0 hl (e1 (by omega)) (e2 (by omega)) (e3 (by omega)) (e4 (by omega)) d0 s0 h).toB (by omega) (fun q => nomatch q)).mono' fun _ _ z => ⟨h, z⟩
  · exact ((read_inv_X hK hX ks start dl sl l h0 hl e3 e4 d0 s0 (by omega)).toB hn hbs X).mono' fun _ _ z => z.elim

theorem read_numbered_X {w : World} {K : Frag} (hK : KOk K) (hX : KExc K) (ks : List Int) (at_ : Int) (X : Addr) (kind : Str) (f : Int) (d sc : List Int) (V : Addr) (st na0 en0 A rest : Int) (tok : List Int) (l : AL) (hl : ks.length ≤ 10000) (h0 : 0 ≤ at_)
    (hk : (kind = Str.ofString "initial" ∧ ∃ tl, (at_ < ks.length → ks.getD at_.toNat 0 = tl) ∧ 0 ≤ tl ∧ tl < 64 ∧ A = at_ + 1 + tl ∧ tok = (ks.drop (at_ + 1).toNat).take tl.toNat) ∨ (kind ≠ Str.ofString "initial" ∧ A = at_ ∧ tok = []))
    (e6 : A < ks.length → ks.getD A.toNat 0 = rest) (r0 : 0 ≤ rest) (r1 : rest < 64) (hcut : ks.length < A + 1 + rest) :
    CwX w K 244 5 [.bytes ks, .int at_, .ref X] ((X, rawO kind f 1 d sc [] V st na0 en0) :: l) 71 l := by
  refine CwX.def (F := topF 29 244) (xs := [Str.ofString "data", Str.ofString "at", Str.ofString "raw"]) (hK.fn 29 244 (by decide +kernel)) (Binds.of3 fun _ _ _ _ _ _ _ => by kernel_rfl) (by kernel_rfl) rfl fun c E hbs XX => ?_
  show Wb c E [(Str.ofString "data", .bytes ks), (Str.ofString "at", .int at_), (Str.ofString "raw", .ref X)] ((X, rawO kind f 1 d sc [] V st na0 en0) :: l) (_ :: _ :: _ :: _ :: _ :: _) _
  refine Wb.assignX (Ex.callE (by walk_at "ev") (keeps_cls hK (by decide +kernel)) (by walk_at "evs") (reader_make hK ks (by decide)) rfl) (by kernel_rfl) ?_
  (intro zr1 zr2 zr3; refine El.eaxx (zr3) fun I zz1 zz2 => ?_; try clear zr3; (first | subst zz1 | cases zz1); (first | subst zz2 | cases zz2))
  with_reducible apply Wb.setattr
  · assumption
  · walk_at "ev"
  · walk_at "ev"
  · exact Mine.Upd.head
  · kernel_rfl
  · rfl
  show Wb c E _ ((I, rdr ks at_) :: (X, rawO kind f 1 d sc [] V st na0 en0) :: l) _ _
  have hA : 0 ≤ A := by rcases hk with ⟨_, tl, _, a, b, rfl, _⟩ | ⟨_, rfl, _⟩ <;> omega
  refine Wb.tryR hK hX hbs (l0 := l) (by kernel_rfl) rfl (by kernel_rfl) rfl (by decide) (fun E' Xf => ?_) XX
  refine Wb.meet [(Str.ofString "reader", .ref I), (Str.ofString "raw", .ref X)] ((I, rdr ks A) :: (X, rawO kind f 1 d sc tok V st na0 en0) :: l) (p := kind = Str.ofString "initial") ?_ ?_ ?_ ?_
  · walk_at "te"
  · intro hp
    obtain ⟨_, tl, e5, t0, t1, rfl, rfl⟩ | ⟨hq, _⟩ := hk
    · refine Wb.setattrX hK (R := fun v l' => v = .bytes ((ks.drop (at_ + 1).toNat).take tl.toNat) ∧ l' = (I, rdr ks (at_ + 1 + tl)) :: (X, rawO kind f 1 d sc [] V st na0 en0) :: l) ?_ rfl ?_
      · with_reducible apply Ex.mono
        · with_reducible apply Ex.mthB
          · assumption
          · walk_at "ev"
          · exact .head _
          · rfl
          · with_reducible apply Exs.one
            · with_reducible apply Ex.meth0
              · walk_at "ev"
              · exact Mt.inst hK 159 (.head _) (by kernel_rfl) rfl
              · exact keeps_mth hK (by kernel_rfl)
              · exact varint_E hK hX hbs I ks at_ tl hl h0 e5 t0 t1 (by decide) (Xf.pick (.skip .refl))
              · rfl
            · rfl
          · (intro zr1 zr2 zr3; refine El.eaxaxaxx (zr3) fun zz1 zz2 z zz3 zz4 => ?_; try clear zr3; (first | subst zz2 | cases zz2); (first | subst zz3 | cases zz3); (first | subst zz4 | cases zz4))
            exact take_E hK hX hbs I ks (at_ + 1) tl hl (by omega) t0 (by decide) (Xf.pick (.skip .refl))
          · kernel_rfl
          · rfl
        · exact fun _ _ z => z.2
      · (intro zr1 zr2 zr3; refine El.axx (zr3) fun zz1 zz2 => ?_; try clear zr3; (first | subst zz1 | cases zz1); (first | subst zz2 | cases zz2))
        refine ⟨X, 184, _, _, by walk_at "ev", .tail .head, by kernel_rfl, by kernel_rfl, ?_⟩
        exact Wb.nil ⟨rfl, by walk_at "sub", by kernel_rfl⟩
    · exact absurd hp hq
  · intro hp
    obtain ⟨hq, _⟩ | ⟨_, rfl, rfl⟩ := hk
    · exact absurd hq hp
    · exact ⟨by walk_at "sub", rfl⟩
  with_reducible apply Wb.assignX
  · with_reducible apply Ex.meth0
    · walk_at "ev"
    · exact Mt.inst hK 159 (.head _) (by kernel_rfl) rfl
    · exact keeps_mth hK (by kernel_rfl)
    · exact varint_E hK hX hbs I ks A rest hl hA e6 r0 r1 (by decide) (Xf.pick (.skip .refl))
    · rfl
  · kernel_rfl
  (intro zr1 zr2 zr3; refine El.axaxx (zr3) fun hA1 zz1 zz2 => ?_; try clear zr3; (first | subst zz1 | cases zz1); (first | subst zz2 | cases zz2))
  refine Wb.nil ?_
  show Wb c E _ _ _ _
  with_reducible apply Wb.if_yes
  · with_reducible apply Te.cmp
    · walk_at "ev"
    · with_reducible apply Ex.v
      with_reducible apply Ex.mth0
      · assumption
      · walk_at "ev"
      · exact .head _
      · rfl
      · exact left_C hK I ks (A + 1) _ hl
      · kernel_rfl
      · rfl
    · walk_at "cop"
    · with_unfolding_all rfl
  · omega
  exact Wb.raise hK hX (.inr rfl) (by kernel_rfl) rfl (by decide) (XX.pick (.skip (.skip .refl)))
theorem read_long_X {w : World} {K : Frag} (hK : KOk K) (hX : KExc K) (ks : List Int) (start f dl sl A rest : Int) (j : Nat) (x : Str) (tok : List Int) (l : AL) (h0 : 0 ≤ start) (hl : ks.length ≤ 10000) (e1 : start + 1 ≤ ks.length → val ((ks.drop start.toNat).take (1 : Int).toNat) = f)
    (e2 : start + 1 + 4 ≤ ks.length → val ((ks.drop (start + 1).toNat).take (4 : Int).toNat) = 1) (e3 : start + 1 + 4 + 1 ≤ ks.length → val ((ks.drop (start + 1 + 4).toNat).take (1 : Int).toNat) = dl) (e4 : start + 1 + 4 + 1 + dl + 1 ≤ ks.length → val ((ks.drop (start + 1 + 4 + 1 + dl).toNat).take (1 : Int).toNat) = sl)
    (hk : (x = Str.ofString "initial" ∧ ∃ tl, ((start + 1 + 4 + 1 + dl + 1 + sl) < ks.length → ks.getD (start + 1 + 4 + 1 + dl + 1 + sl).toNat 0 = tl) ∧ 0 ≤ tl ∧ tl < 64 ∧ A = (start + 1 + 4 + 1 + dl + 1 + sl) + 1 + tl ∧ tok = (ks.drop ((start + 1 + 4 + 1 + dl + 1 + sl) + 1).toNat).take tl.toNat) ∨ (x ≠ Str.ofString "initial" ∧ A = (start + 1 + 4 + 1 + dl + 1 + sl) ∧ tok = []))
    (e6 : A < ks.length → ks.getD A.toNat 0 = rest) (r0 : 0 ≤ rest) (r1 : rest < 64) (d0 : 0 ≤ dl) (d1 : dl ≤ 20) (s0 : 0 ≤ sl) (s1 : sl ≤ 20) (hcut : ks.length < A + 1 + rest) (hj : j < 3) (hk16 : (f.fdiv 16).fmod 4 = j) (hf64 : (f.fdiv 64).fmod 2 = 1) (hx : [Str.ofString "initial", Str.ofString "zero", Str.ofString "handshake", Str.ofString "retry"][j]? = some x) :
    CwX w K 230 7 [.bytes ks, .int start] l 71 l := by
  refine CwX.def (F := topF 27 230) (xs := [Str.ofString "data", Str.ofString "start"]) (hK.fn 27 230 (by decide +kernel)) (Binds.of2 fun _ _ _ _ _ _ => by kernel_rfl) (by kernel_rfl) rfl fun c E hbs XX => ?_
  show Wb c E [(Str.ofString "data", .bytes ks), (Str.ofString "start", .int start)] l (_ :: _ :: _ :: _ :: _ :: _ :: _ :: _) _
  refine Wb.tryR hK hX hbs (l0 := l) (by kernel_rfl) rfl (by kernel_rfl) rfl (by decide) (fun E' Xf => ?_) XX
  have C1 : Bw c E' [(Str.ofString "data", .bytes ks), (Str.ofString "start", .int start)] (.ref 216) [.bytes ks, .int start] l _ := read_inv_E hK hX hbs ks start f dl sl l h0 hl e1 e2 e3 e4 d0 s0 (by decide) Xf
  have hdl : ((ks.drop (start + 1 + 4 + 1).toNat).take dl.toNat).length ≤ 20 := by rw [List.length_take]; omega
  have hsl : ((ks.drop (start + 1 + 4 + 1 + dl + 1).toNat).take sl.toNat).length ≤ 20 := by rw [List.length_take]; omega
  generalize (ks.drop (start + 1 + 4 + 1).toNat).take dl.toNat = d at C1 hdl ⊢
  generalize (ks.drop (start + 1 + 4 + 1 + dl + 1).toNat).take sl.toNat = sc at C1 hsl ⊢
  generalize hat : start + 1 + 4 + 1 + dl + 1 + sl = at_ at C1 hk
  refine Wb.unpack (Ex.callE (by walk_at "ev") (keeps_of (hK.keepA (by decide +kernel))) (by walk_at "evs") C1 rfl) (by kernel_rfl) rfl ?_
  (intro zr1 zr2 zr3; refine El.axeaxx (zr3) fun hA D zz1 zz2 => ?_; try clear zr3; (first | subst zz1 | cases zz1); (first | subst zz2 | cases zz2))
  refine ⟨D, _, _, _, rfl, .head _, rfl, Asgs.name (by kernel_rfl) (Asgs.name (by kernel_rfl) (Asgs.name (by kernel_rfl) (Asgs.name (by kernel_rfl) (Asgs.name (by kernel_rfl) Asgs.nil)))), ?_⟩
  refine Wb.pick (t := l) ?_ (.skip .refl)
  refine Wb.nil ?_
  show Wb c E _ _ _ _
  refine Wb.assignX (Ex.callE (by walk_at "ev") (keeps_cls hK (by decide +kernel)) (by walk_at "evs") (raw_make hK _ _ _ _ (by decide)) rfl) (by kernel_rfl) ?_
  (intro zr1 zr2 zr3; refine El.eeaxx (zr3) fun X V zz1 zz2 => ?_; try clear zr3; (first | subst zz1 | cases zz1); (first | subst zz2 | cases zz2))
  with_reducible apply Wb.unpack
  · with_reducible apply Ex.tup
    · walk_at "evs"
    · exact Nat.le_of_ble_eq_true rfl
  · kernel_rfl
  · rfl
  (intro zr1 zr2 zr3; refine El.eaxx (zr3) fun D zz1 zz2 => ?_; try clear zr3; (first | subst zz1 | cases zz1); (first | subst zz2 | cases zz2))
  refine ⟨D, _, _, _, rfl, .head _, rfl, Asgs.attr hK (I := X) (by walk_at "ev") (.tail .head) (by kernel_rfl) (by kernel_rfl) (Asgs.attr hK (I := X) (by walk_at "ev") (.tail .head) (by kernel_rfl) (by kernel_rfl) (Asgs.attr hK (I := X) (by walk_at "ev") (.tail .head) (by kernel_rfl) (by kernel_rfl) Asgs.nil)), ?_⟩
  refine Wb.pick (t := (X, _) :: l) ?_ (.skip .refl)
  with_reducible apply Wb.if_no
  · walk_at "te"
  · decide
  with_reducible apply Wb.if_no
  · walk_at "te"
  · decide
  with_reducible apply Wb.if_no
  · walk_at "te"
  · rw [hf64]
    rintro (h | h | h | h)
    · omega
    · omega
    · exact absurd h (by decide)
    · exact h
  with_reducible apply Wb.setattr hK (v := .str x)
  · with_reducible apply Ev.item167
    · assumption
    · walk_at "ev"
    · walk_at "ev"
    · rw [hk16]; omega
    · rw [hk16]
      have e : ([AV.str (Str.ofString "initial"), .str (Str.ofString "zero"), .str (Str.ofString "handshake"), .str (Str.ofString "retry")] : List AV) = [Str.ofString "initial", Str.ofString "zero", Str.ofString "handshake", Str.ofString "retry"].map AV.str := rfl
      rw [e, List.getElem?_map, Int.toNat_natCast, hx]
      rfl
    · rfl
  · walk_at "ev"
  · exact Mine.Upd.head
  · kernel_rfl
  · kernel_rfl
  show Wb c E _ ((X, rawO x f 1 d sc [] V start start ks.length) :: l) _ _
  have hxr : x ≠ Str.ofString "retry" := by
    have : j = 0 ∨ j = 1 ∨ j = 2 := by omega
    rcases this with rfl | rfl | rfl <;> (cases hx; decide)
  with_reducible apply Wb.retX (R := No)
  · with_reducible apply Ex.ifexp
    · walk_at "te"
    · intro h; exact absurd h hxr
    · intro _
      exact Ex.callE (by walk_at "ev") (keeps_of (hK.keepA (by decide +kernel))) (by walk_at "evs") ((read_numbered_X hK hX ks at_ X x f d sc V start start ks.length A rest tok l hl (by omega) hk e6 r0 r1 hcut).toB (by decide) hbs XX.f) rfl
  · exact fun _ _ h => h.elim
theorem read_raw_X {w : World} {K : Frag} (hK : KOk K) (ks : List Int) (start cs : Int) (l : AL) (h0 : 0 ≤ start) (h1 : start < ks.length) (hl : ks.length ≤ 10000) (hf : 128 ≤ ks.getD start.toNat 0) (C : CwX w K 230 7 [.bytes ks, .int start] l 71 l) :
    CwX w K 258 8 [.bytes ks, .int start, .int cs] l 71 l := by
  refine CwX.def (F := topF 31 258) (xs := [Str.ofString "data", Str.ofString "start", Str.ofString "cid_size"]) (hK.fn 31 258 (by decide +kernel)) (Binds.of3 fun _ _ _ _ _ _ _ => by kernel_rfl) (by kernel_rfl) rfl fun c E hbs XX => ?_
  show Wb c E [(Str.ofString "data", .bytes ks), (Str.ofString "start", .int start), (Str.ofString "cid_size", .int cs)] l (_ :: _) _
  with_reducible apply Wb.retX (R := No)
  · with_reducible apply Ex.ifexp
    · walk_at "te"
    · intro _
      exact Ex.callE (by walk_at "ev") (keeps_of (hK.keepA (by decide +kernel))) (by walk_at "evs") (C.toB (by decide) hbs XX.f) rfl
    · intro h; omega
  · exact fun _ _ h => h.elim

theorem split_T {w : World} {K : Frag} (hK : KOk K) (hX : KExc K) {F : Fn} {n : Nat} {b : Bool} {c : Cx w K F n b} {E : Value → Shared → Prop} {m : AM} (hout : c.outer = []) (hbs : Bs c) (hn : 9 ≤ n) (ks : List Int) (cs : Int) (all : List Seg) (d0 : List Int) (e : Int) (l : AL) (hl : ks.length ≤ 10000) (hch : Chain 0 all e) (he : e ≤ ks.length)
    (hd0 : ∀ g gs, all = g :: gs → g.d = d0) (hat : ∀ g ∈ all, SegAt w K ks cs g) (hr : e < ks.length → ∀ l, CwX w K 258 8 [.bytes ks, .int e, .int cs] l 71 l) : Bw c E m (.ref 265) [.bytes ks, .int cs] l (Raws (keptOf d0 all) l) := by
  refine Bw.defT (F' := topF 32 265) (xs := [Str.ofString "data", Str.ofString "cid_size"]) (d := 8) hout hbs (hK.fn 32 265 (by decide +kernel)) (Binds.of2 fun _ _ _ _ _ _ => by kernel_rfl) (by kernel_rfl) rfl hn fun c' E' Q hbs' kQ => ?_
  show Wq c' E' Q [(Str.ofString "data", .bytes ks), (Str.ofString "cid_size", .int cs)] l (_ :: _ :: _ :: [])
  have hlen := hch.len
  refine Wq.seq (P := fun f m' l' => f = .next ∧ ∃ D, m' = [(Str.ofString "found", .ref D), (Str.ofString "at", .int 0), (Str.ofString "data", .bytes ks), (Str.ofString "cid_size", .int cs)] ∧ l' = (D, .list []) :: l) ?_ ?_ (fun f f' m' l' h' tk' hf hP => absurd hP.1 hf)
  · refine Wb.swap (xs := [Str.ofString "found", Str.ofString "at"]) (RL := fun vs l0 => ∃ D, vs = [.ref D, .int 0] ∧ l0 = (D, .list []) :: l) ?_ (fun vs l0 h => by (refine El.eaxx (h) fun D zz1 zz2 => ?_; try clear h; (first | subst zz1 | cases zz1); (first | subst zz2 | cases zz2)); rfl) (by kernel_rfl) rfl ?_
    · refine Exs.cons (Ex.list Evs.nil (by decide)) ?_ rfl
      (intro zr1 zr2 zr3; refine El.eaxx (zr3) fun D zz1 zz2 => ?_; try clear zr3; (first | subst zz1 | cases zz1); (first | subst zz2 | cases zz2))
      with_reducible apply Exs.vcons
      · walk_at "ev"
      · exact Exs.done ⟨D, rfl, rfl⟩
      · rfl
    · (intro zr1 zr2 zr3; refine El.eaxx (zr3) fun D zz1 zz2 => ?_; try clear zr3; (first | subst zz1 | cases zz1); (first | subst zz2 | cases zz2))
      exact Wb.nil ⟨rfl, D, rfl, rfl⟩
  (intro zr1 zr2 zr3; refine El.axeaxx (zr3) fun zz1 D zz2 zz3 => ?_; try clear zr3; (first | subst zz2 | cases zz2); (first | subst zz3 | cases zz3))
  refine Wq.while (SplitJ ks cs all d0 D l e) (fun k _ _ => k ≠ 0 ∨ e < ks.length) all.length ⟨[], all, 0, [], [], rfl, rfl, hch, Int.le_refl 0, Int.le_refl 0, by walk_at "sub", rfl, .nil⟩ ?_ ?_ ?_
  · rintro c₁ E₁ k m1 l1 ⟨past, todo, a, Xs, os, hall, hk, hc, ha, hpa, hs, rfl, hR⟩
    refine Te.iff (p := a < ks.length) ?_ ?_
    · with_reducible apply Te.cmp
      · exact Ev.local (hs _ _ rfl) (by kernel_rfl)
      · with_reducible apply Ev.len_b
        · assumption
        · kernel_rfl
        · exact Ev.local (hs (Str.ofString "data") _ rfl) (by kernel_rfl)
        · omega
      · walk_at "cop"
      · with_unfolding_all rfl
    · cases todo with
      | nil => have : a = e := hc; subst hk; simp; omega
      | cons g gs => have := hc.2.1; have := hc.2.2.le; subst hk; simp; omega
  · intro Γ hΓ E₁ Q₁ k m1 l1 J hT k1 k2
    by_cases hz : k ≠ 0
    · intro h tk S
      refine split_turn (c₁ := c'.put Γ hΓ) hK hl he hd0 hat J hz Q₁ h tk S fun f f' m' l' h' tk' hP S' hf => ?_
      (refine El.axeaxx (hP) fun zz1 k' hk' hJ' => ?_; try clear hP; (first | subst zz1 | cases zz1))
      cases hf
      exact k1 h' tk' k' m' l' hk' hJ' S'
    · obtain ⟨past, todo, a, Xs, os, hall, hk, hc, ha, hpa, hs, rfl, hR⟩ := J
      have hk0 : todo = [] := List.length_eq_zero_iff.mp (by omega)
      subst hk0
      rw [List.append_nil] at hall
      subst hall
      have hae : a = e := hc
      subst hae
      have hlt : a < ks.length := hT.resolve_left hz
      refine Wq.sub ?_ hs
      show Wq (c'.put Γ hΓ) E₁ Q₁ _ _ (_ :: _)
      refine Wq.tryT (l0 := (D, .list (Xs.map .ref)) :: (os ++ l)) hbs' hX.refused (by kernel_rfl) (hK.glob rfl) (by kernel_rfl) (v := .ref D) rfl (fun E' X => ?_) fun h tk u T r => ?_
      · refine Wb.assignX (R := No) (Ex.callE (by walk_at "ev") (keeps_of (hK.keepA (by decide +kernel))) (by walk_at "evs") ((hr hlt _).toBm (by decide) hbs' X) rfl) (by kernel_rfl) fun _ _ z => z.elim
      · exact k2 u _ (kQ (.ref D) u _ _ h tk ⟨D, Xs, os, rfl, rfl, hR⟩ T r)
  · rintro k m1 l1 ⟨past, todo, a, Xs, os, hall, hk, hc, ha, hpa, hs, rfl, hR⟩ hz
    have hk0 : todo = [] := List.length_eq_zero_iff.mp (by omega)
    subst hk0
    rw [List.append_nil] at hall
    subst hall
    intro h tk S
    refine (show Wb c' E' m1 _ (_ :: []) (Rt (Raws (keptOf d0 all) l)) from ?_) Q h tk S fun f f' m' l' h' tk' hP S' hf => ?_
    · refine Wb.sub ?_ hs
      with_reducible apply Wb.ret
      · walk_at "ev"
      · exact ⟨D, Xs, os, rfl, rfl, hR⟩
    · cases f with
      | next => obtain ⟨_, _, _, z, _⟩ := hP; cases z
      | ret v => (refine El.eaxx (hf) fun u zz1 r => ?_; try clear hf; (first | subst zz1 | cases zz1)); exact kQ v u m' l' h' tk' hP S'.turned r
      | brk => exact hP.elim
      | cont => exact hP.elim

theorem cut_take {kf : List Int} {spot i n : Nat} (h : i + n ≤ spot) : ((kf.take spot).drop i).take n = (kf.drop i).take n := by
  rw [List.drop_take, List.take_take]
  congr 1
  omega
theorem cut_getD {kf : List Int} {spot i : Nat} (h : i < spot) : (kf.take spot).getD i 0 = kf.getD i 0 := by
  rw [List.getD_eq_getElem?_getD, List.getD_eq_getElem?_getD, List.getElem?_take, if_pos h]
theorem cut_X {w : World} {K : Frag} (hK : KOk K) (hX : KExc K) (kk kf post : List Int) (pk : Pk) (sz cs : Int) (a spot : Nat) (l : AL) (hs : pk.sort ≠ .short) (ok : pk.Ok) (h1 : 1 ≤ sz) (h2 : sz ≤ 4) (hl : kf.length ≤ 10000) (h : kf.drop a = packetBytes kk pk sz ++ post)
    (sp0 : a < spot) (sp1 : spot < a + (packetBytes kk pk sz).length) (sp2 : spot ≤ kf.length) : CwX w K 258 8 [.bytes (kf.take spot), .int a, .int cs] l 71 l := by
  have hp := packet_len kk ok h1 h2
  have ht := tailP_length kk pk (sz := sz) (by omega)
  have hr := restP_in ok h1 h2
  have hj := Sort4.long hs
  have hg := first_long hs kk h1 h2
  have hhl := congrArg List.length (headOf_long hs sz)
  have hlen := congrArg List.length h
  have hpl := congrArg List.length (packet_long hs kk sz [])
  rw [packet_long hs kk sz post] at h hlen
  simp only [List.length_drop, List.length_cons, List.length_append, List.length_nil] at hlen hhl hpl
  generalize hgd : turnedFirst (192 + 16 * (pk.j : Int) + (sz - 1)) (maskP kk pk sz) = g at h hg
  have k1 := drop_one h
  have k5 := drop_more k1
  have k6 := drop_one k5
  have k7 := drop_more k6
  have k8 := drop_one k7
  have k9 := drop_more k8
  have k10 := drop_more k9
  have hks : (kf.take spot).length = spot := by rw [List.length_take]; omega
  have t0 : ∀ {A B : List Int} {i : Nat} {n : Nat}, i + n ≤ spot → kf.drop i = A ++ B → A.length = n → ((kf.take spot).drop i).take n = A := fun hi h e => by rw [cut_take hi, ← e]; exact take_of_drop h
  have hd0 := ok.dl
  have hs0 := ok.sl
  have htk := ok.tl
  have n1 : ((a : Nat) : Int).toNat = a := rfl
  have n2 : ((a : Nat) + 1 : Int).toNat = a + 1 := rfl
  have n3 : ((a : Nat) + 1 + 4 : Int).toNat = a + 1 + [(0 : Int), 0, 0, 1].length := rfl
  have n5 : ((a : Nat) + 1 + 4 + 1 + (pk.d.length : Int) : Int).toNat = a + 1 + [(0 : Int), 0, 0, 1].length + 1 + pk.d.length := rfl
  have n7 : ((a : Nat) + 1 + 4 + 1 + (pk.d.length : Int) + 1 + (pk.sc.length : Int) : Int).toNat = a + 1 + [(0 : Int), 0, 0, 1].length + 1 + pk.d.length + 1 + pk.sc.length := rfl
  have nA : ((a : Nat) + 1 + 4 + 1 + (pk.d.length : Int) + 1 + (pk.sc.length : Int) + (pk.mid.length : Int) : Int).toNat = a + 1 + [(0 : Int), 0, 0, 1].length + 1 + pk.d.length + 1 + pk.sc.length + pk.mid.length := rfl
  have key : ∀ tok, ((pk.sort.word = Str.ofString "initial" ∧ ∃ tl, ((a : Int) + 1 + 4 + 1 + pk.d.length + 1 + pk.sc.length < (kf.take spot).length → (kf.take spot).getD ((a : Int) + 1 + 4 + 1 + pk.d.length + 1 + pk.sc.length).toNat 0 = tl) ∧ 0 ≤ tl ∧ tl < 64 ∧ (a : Int) + 1 + 4 + 1 + pk.d.length + 1 + pk.sc.length + pk.mid.length = (a : Int) + 1 + 4 + 1 + pk.d.length + 1 + pk.sc.length + 1 + tl ∧ tok = ((kf.take spot).drop ((a : Int) + 1 + 4 + 1 + pk.d.length + 1 + pk.sc.length + 1).toNat).take tl.toNat) ∨
      (pk.sort.word ≠ Str.ofString "initial" ∧ (a : Int) + 1 + 4 + 1 + pk.d.length + 1 + pk.sc.length + pk.mid.length = (a : Int) + 1 + 4 + 1 + pk.d.length + 1 + pk.sc.length ∧ tok = [])) → CwX w K 230 7 [.bytes (kf.take spot), .int a] l 71 l := fun tok hk => by
    refine read_long_X (w := w) hK hX (kf.take spot) a g pk.d.length pk.sc.length ((a : Nat) + 1 + 4 + 1 + (pk.d.length : Int) + 1 + (pk.sc.length : Int) + pk.mid.length) (restP pk sz) pk.j pk.sort.word tok l (by omega) (by omega) (fun z => ?_) (fun z => ?_) (fun z => ?_) (fun z => ?_) hk (fun z => ?_) (by omega) hr.2 (by omega) (by omega) (by omega) (by omega) ?_ hj.1 ?_ ?_ hj.2.1
    · rw [n1, show (1 : Int).toNat = 1 from rfl, t0 (A := [g]) (n := 1) (by omega) h rfl]; exact val1 g
    · rw [n2, show (4 : Int).toNat = 4 from rfl, t0 (n := 4) (by omega) k1 rfl]; decide
    · rw [n3, show (1 : Int).toNat = 1 from rfl, t0 (A := [(pk.d.length : Int)]) (n := 1) (by simp only [List.length_cons, List.length_nil]; omega) k5 rfl]; exact val1 _
    · rw [n5, show (1 : Int).toNat = 1 from rfl, t0 (A := [(pk.sc.length : Int)]) (n := 1) (by simp only [List.length_cons, List.length_nil]; omega) k7 rfl]; exact val1 _
    · rw [nA, cut_getD (by simp only [List.length_cons, List.length_nil]; omega)]; exact getD_of_drop k10
    · omega
    · rw [fdiv_pos (by decide), fmod_pos (by decide)]
      have := hj.1
      omega
    · rw [fdiv_pos (by decide), fmod_pos (by decide)]
      have := hj.1
      omega
  refine read_raw_X hK (kf.take spot) a cs l (by omega) (by omega) (by omega) ?_ ?_
  · rw [n1, cut_getD sp0, getD_of_drop h]; omega
  · rcases pk.mid_of with ⟨b1, b2, b3, b4⟩ | ⟨b1, b2, b3, b4⟩
    · refine key _ (.inl ⟨b2, pk.tok.length, fun z => ?_, by omega, by omega, by rw [b4, List.length_cons]; omega, rfl⟩)
      rw [n7, cut_getD (by simp only [List.length_cons, List.length_nil]; omega)]; rw [b4] at k9; exact getD_of_drop k9
    · exact key _ (.inr ⟨b2, by rw [b4]; simp, rfl⟩)
theorem split_cut_B {w : World} {K : Frag} (hK : KOk K) (hX : KExc K) {a : Addr} {cd : Value} {n : Nat} {b : Bool} {c : Cx w K (lawF a cd) n b} {E : Value → Shared → Prop} {m : AM} {l : AL} (hout : c.outer = []) (hbs : Bs c) (hn : 20 ≤ n) (kk kd ko sc : List Int) (ini : List Item) (lst : Item) (last : Bool) (spot : Nat)
    (hini : ∀ it ∈ ini, LongOk kd sc it) (hlst : ItemOk kd sc last lst) (hlong : lst.pk.sort ≠ .short) (hm4 : ini.length ≤ 4) (lkd : kd.length ≤ 8) (lsc : sc.length ≤ 4) (lko : ko.length ≤ 20) (hne : ko ≠ kd) (hwl : (wholeOf kk ko sc (ini ++ [lst])).length ≤ 10000) (h0 : (wholeOf kk ko sc ini).length ≤ spot) (h1 : spot < (wholeOf kk ko sc ini).length + (packetBytes kk lst.pk lst.sz).length) :
    Bw c E m (.ref 265) [.bytes ((wholeOf kk ko sc (ini ++ [lst])).take spot), .int kd.length] l (Raws (segsOf kk ko sc 0 ini) l) := by
  have hd : ∀ it ∈ ini, it.pk.d = kd := fun it hi => by (refine El.ex ((hini it hi).ok) fun zz1 h => ?_); exact h.drawn.d
  have hw : wholeOf kk ko sc (ini ++ [lst]) = wholeOf kk ko sc ini ++ (packetBytes kk lst.pk lst.sz ++ (if lst.left then packetBytes kk (leftPk ko sc) 1 else [])) := by
    rw [wholeOf_append]
    show _ ++ (lst.bytes kk ko sc ++ []) = _
    rw [List.append_nil]; rfl
  generalize hkf : wholeOf kk ko sc (ini ++ [lst]) = kf at hwl hw ⊢
  have hkl := congrArg List.length hw
  simp only [List.length_append] at hkl
  have hks : (kf.take spot).length = spot := by rw [List.length_take]; omega
  obtain ⟨c1, s1⟩ := seg_all (w := w) hK kk kd ko sc (kf.take spot) kd.length lkd lsc lko (by omega) ini 0 ((kf.take spot).drop (wholeOf kk ko sc ini).length) hini (by
    rw [List.drop_zero]
    conv => lhs; rw [← List.take_append_drop (wholeOf kk ko sc ini).length (kf.take spot)]
    congr 1
    rw [List.take_take, Nat.min_eq_left h0, hw, List.take_left])
  have hkept := kept_segs (kk := kk) (ks := sc) hne 0 ini hd
  rw [← hkept]
  have ok := hlst.drawn.ok (by omega) (by omega)
  have hr := hlst.la.range
  have e0 : ((0 : Nat) : Int) + ((wholeOf kk ko sc ini).length : Nat) = ((wholeOf kk ko sc ini).length : Nat) := by omega
  rw [e0] at c1
  refine split_T hK hX hout hbs (by omega) (kf.take spot) kd.length (segsAll kk ko sc 0 ini) kd _ l (by omega) c1 (by omega) (fun g gs q => ?_) s1 (fun z l' => ?_)
  · cases ini with
    | nil => cases q
    | cons it r =>
      have : g = segOf kk it.pk it.sz 0 := (List.cons.inj q).1.symm
      rw [this]
      exact hd it (.head _)
  · refine cut_X hK hX kk kf (if lst.left then packetBytes kk (leftPk ko sc) 1 else []) lst.pk lst.sz kd.length _ spot l' hlong ok hr.1 hr.2 hwl ?_ (by omega) h1 (by omega)
    rw [hw]; exact List.drop_left

theorem segsOf_start (kk ko ks : List Int) (items : List Item) (i : Nat) (h : i < items.length) : ((segsOf kk ko ks 0 items).map (·.start)).getD i 0 = ((wholeOf kk ko ks (items.take i)).length : Nat) := by
  have := segsOf_get kk ko ks items 0 i _ (List.getElem?_eq_getElem h)
  rw [List.getD_eq_getElem?_getD, List.getElem?_map, this]
  show (0 : Int) + _ = _
  omega
theorem law_end {w : World} {K : Frag} (hK : KOk K) (hX0 : KExc K) {a : Addr} {cd : Value} {c : Cx w K (lawF a cd) 40 true} {E : Value → Shared → Prop} (hout : c.outer = []) (hbs : Bs c) (d r D S : Addr) (kd ks kk ko : List Int) (many : Nat) (items : List Item) (Xs Ts : List Addr) (os os2 : AL) (seed : Int) (rows : List Int)
    (hm : 1 ≤ many) (hm4 : many ≤ 4) (hlen : items.length = many) (hok : ItemsOk kd ks many items) (hX : RawLs (segsOf kk ko ks 0 items) Xs os2) (hr : rows.length ≤ 40) (lkd : kd.length ≤ 8) (lks : ks.length ≤ 4) (lko : ko.length ≤ 20) (hne : ko ≠ kd) :
    Wb c E (lawM2 d D kd kk (wholeOf kk ko ks items)) ((D, .list (Xs.map .ref)) :: (S, .list (Ts.map .ref)) :: (os2 ++ drw [] os d r seed rows)) ((topR 73).body.drop 7) (Rt fun v _ => v = .bool true) := by
  show Wb c E [(Str.ofString "draws", .ref d), (Str.ofString "dcid", .bytes kd), (Str.ofString "key", .bytes kk), (Str.ofString "whole", .bytes (wholeOf kk ko ks items)), (Str.ofString "raws", .ref D)] _ (_ :: _ :: _ :: _ :: _) _
  have hXl := hX.length
  rw [segsOf_length] at hXl
  (refine El.eeaxaxx (split_last hok hlen hm) fun ini lst zz1 hini hlst => ?_; (first | subst zz1 | cases zz1))
  have hil : ini.length + 1 = many := by rw [← hlen]; simp
  (refine El.eeaxx (hX.get (segsOf_get kk ko ks (ini ++ [lst]) 0 ini.length lst (by rw [List.getElem?_append_right (Nat.le_refl _), Nat.sub_self]; rfl))) fun X V hXi hXm => ?_)
  have htk : (ini ++ [lst]).take ini.length = ini := List.take_left
  rw [htk, Int.zero_add] at hXm
  have hwl := items_len kk ko lkd lks lko (ini ++ [lst]) hok.all
  have hlp := hlst.plen (kk := kk) lkd lks
  have hXm1 : (X, (segOf kk lst.pk lst.sz ((wholeOf kk ko ks ini).length : Nat)).raw V) ∈ (D, AO.list (Xs.map .ref)) :: (S, AO.list (Ts.map .ref)) :: (os2 ++ drw [] os d r seed rows) := .tail _ (.tail _ (List.mem_append_left _ hXm))
  refine Wb.assign (v := .ref X) (Ev.item_last ?_ ?_ (.head _) (by rw [List.length_map]; omega) ?_ rfl) (by kernel_rfl) ?_
  · walk_at "ev"
  · walk_at "ev"
  · rw [List.length_map, hXl, hlen, ← hil, Nat.add_sub_cancel, List.getElem?_map, hXi]; rfl
  have AT : ∀ {m' : AM} {x : Str} {v : AV} {p1 p2 : Pos}, m'.lookup (Str.ofString "last") = some (.ref X) → (attrTab.contains (184, x) && v.handed) = true → [(Str.ofString "kind", AV.str lst.pk.sort.word), (Str.ofString "first", .int ((packetBytes kk lst.pk lst.sz).getD 0 0)), (Str.ofString "version", .int 1), (Str.ofString "dcid", .bytes lst.pk.d), (Str.ofString "scid", .bytes (segOf kk lst.pk lst.sz ((wholeOf kk ko ks ini).length : Nat)).sc), (Str.ofString "token", .bytes (segOf kk lst.pk lst.sz ((wholeOf kk ko ks ini).length : Nat)).tok), (Str.ofString "tag", .bytes []), (Str.ofString "versions", .ref V), (Str.ofString "start", .int ((wholeOf kk ko ks ini).length : Nat)), (Str.ofString "number_at", .int (((wholeOf kk ko ks ini).length : Nat) + (headOf lst.pk lst.sz).length)), (Str.ofString "end", .int (((wholeOf kk ko ks ini).length : Nat) + (packetBytes kk lst.pk lst.sz).length))].lookup x = some v →
      Ev c E m' ((D, AO.list (Xs.map .ref)) :: (S, AO.list (Ts.map .ref)) :: (os2 ++ drw [] os d r seed rows)) (.Attribute (.Name (Str.ofString "last") p1) x p2) v := fun h1 h2 h3 =>
    Ev.attr hK (C := 184) (Ev.local h1 (by kernel_rfl)) hXm1 (by
      simp only [Bool.and_eq_true] at h2 ⊢
      exact ⟨⟨⟨by kernel_rfl, h2.1⟩, h2.2⟩, rfl⟩) h3
  with_reducible apply Wb.if (p := lst.pk.sort.word = Str.ofString "short")
  · exact Te.cmp (AT rfl rfl rfl) Ev.const_str Cop.seq (by with_unfolding_all rfl)
  · intro _
    exact Wb.ret Ev.const_bool rfl
  · intro hns
    have hlong : lst.pk.sort ≠ .short := fun q => hns (by rw [q]; rfl)
    refine Wb.beh ?_
    have hdr : (D, AO.list (Xs.map .ref)) :: (S, AO.list (Ts.map .ref)) :: (os2 ++ drw [] os d r seed rows) = drw ((D, AO.list (Xs.map .ref)) :: (S, AO.list (Ts.map .ref)) :: os2) os d r seed rows := by
      rw [drw_app, List.append_nil]; rfl
    refine Wb.assignX (R := fun v l' => ∃ k s1 r1, v = .int (((wholeOf kk ko ks ini).length : Nat) + k) ∧ 0 ≤ k ∧ k < (packetBytes kk lst.pk lst.sz).length ∧ r1.length ≤ 40 ∧ l' = drw ((D, AO.list (Xs.map .ref)) :: (S, AO.list (Ts.map .ref)) :: os2) os d r s1 r1) (Ex.binR (x := .int ((wholeOf kk ko ks ini).length : Nat)) (R2 := Took ((D, AO.list (Xs.map .ref)) :: (S, AO.list (Ts.map .ref)) :: os2) os d r (((wholeOf kk ko ks ini).length : Nat) + (packetBytes kk lst.pk lst.sz).length - ((wholeOf kk ko ks ini).length : Nat))) (AT rfl rfl rfl) ?_ ?_) (by kernel_rfl) ?_
    · have e1 : Ev c E _ _ _ _ := AT (m' := [(Str.ofString "last", .ref X), (Str.ofString "draws", .ref d), (Str.ofString "dcid", .bytes kd), (Str.ofString "key", .bytes kk), (Str.ofString "whole", .bytes (wholeOf kk ko ks (ini ++ [lst]))), (Str.ofString "raws", .ref D)]) (x := Str.ofString "end") (p1 := ⟨368, 41, 368, 45⟩) (p2 := ⟨368, 41, 368, 49⟩) rfl rfl rfl
      rw [hdr] at AT ⊢
      exact Ex.take hK (Ev.local rfl (by kernel_rfl)) (Ev.bin (AT rfl rfl rfl) (AT rfl rfl rfl) Bop.sub) hr (by omega) (by kernel_rfl)
    · rintro _ _ ⟨k, s1, r1, rfl, k0, k1, hr1, rfl⟩
      exact ⟨_, Bop.add, k, s1, r1, rfl, k0, by omega, hr1, rfl⟩
    (intro zr1 zr2 zr3; refine El.eeex (zr3) fun k s1 r1 zq63 => ?_; try clear zr3; refine El.axaxaxaxx (zq63) fun zz1 k0 k1 hr1 zz2 => ?_; try clear zq63; (first | subst zz1 | cases zz1); (first | subst zz2 | cases zz2))
    rw [show drw ((D, AO.list (Xs.map .ref)) :: (S, AO.list (Ts.map .ref)) :: os2) os d r s1 r1 = (D, AO.list (Xs.map .ref)) :: (S, AO.list (Ts.map .ref)) :: (os2 ++ drw [] os d r s1 r1) by rw [drw_app, List.append_nil]; rfl]
    have hspot : (((wholeOf kk ko ks ini).length : Nat) + k : Int) = (((wholeOf kk ko ks ini).length + k.toNat : Nat) : Int) := by omega
    rw [hspot]
    have hww : (wholeOf kk ko ks (ini ++ [lst])).length = (wholeOf kk ko ks ini).length + (lst.bytes kk ko ks).length := by
      rw [wholeOf_append, List.length_append]; simp [wholeOf]
    have hlb : (packetBytes kk lst.pk lst.sz).length ≤ (lst.bytes kk ko ks).length := by unfold Item.bytes; rw [List.length_append]; omega
    let f : Nat → Int := fun i => ((segsOf kk ko ks 0 (ini ++ [lst])).map (·.start)).getD i 0
    have hf : ∀ i, i < ini.length → ((segsOf kk ko ks 0 ini).map (·.start)).getD i 0 = f i := fun i hi => by
      show _ = ((segsOf kk ko ks 0 (ini ++ [lst])).map (·.start)).getD i 0
      rw [segsOf_start _ _ _ _ _ hi, segsOf_start _ _ _ _ _ (by rw [List.length_append]; omega), List.take_append_of_le_length (Nat.le_of_lt hi)]
    refine Wb.ret (v := .bool true) (Ev.cmpXX (R1 := fun v l' => ∃ A j1, v = .ref A ∧ l' = (A, AO.list ((List.range ini.length).map fun i => .int (f i))) :: (j1 ++ (D, AO.list (Xs.map .ref)) :: (S, AO.list (Ts.map .ref)) :: (os2 ++ drw [] os d r s1 r1))) (R2 := fun x y l' => ∃ A B j1, x = .ref A ∧ y = .ref B ∧ l' = (B, AO.list ((List.range ini.length).map fun i => .int (f i))) :: (A, AO.list ((List.range ini.length).map fun i => .int (f i))) :: (j1 ++ (D, AO.list (Xs.map .ref)) :: (S, AO.list (Ts.map .ref)) :: (os2 ++ drw [] os d r s1 r1))) ?_ ?_ ?_ (by with_unfolding_all rfl)) rfl
    · refine Ex.compL (cl := []) (fun vs l0 => ∃ Xs' os', vs = Xs'.map .ref ∧ RawLs (segsOf kk ko ks 0 ini) Xs' os' ∧ l0 = os' ++ (D, AO.list (Xs.map .ref)) :: (S, AO.list (Ts.map .ref)) :: (os2 ++ drw [] os d r s1 r1)) f (by with_unfolding_all rfl) (by decide +kernel) rfl (by decide +kernel) rfl ?_ ?_ ?_ rfl
      · intro Γ hΓ
        refine (Ex.callB (c := c.put Γ hΓ) (f := .ref 265) (RA := fun vs l' => vs = [.bytes ((wholeOf kk ko ks (ini ++ [lst])).take ((wholeOf kk ko ks ini).length + k.toNat)), .int kd.length] ∧ l' = (D, AO.list (Xs.map .ref)) :: (S, AO.list (Ts.map .ref)) :: (os2 ++ drw [] os d r s1 r1)) (R := Raws (segsOf kk ko ks 0 ini) ((D, AO.list (Xs.map .ref)) :: (S, AO.list (Ts.map .ref)) :: (os2 ++ drw [] os d r s1 r1))) (Ev.glob hK rfl (by kernel_rfl)) (keeps_of (hK.keepA (by decide +kernel))) (Evs.x (Evs.cons (Ev.eq (Ev.cutT (ks := wholeOf kk ko ks (ini ++ [lst])) (j := (((wholeOf kk ko ks ini).length + k.toNat : Nat) : Int)) ?_ ?_ (by omega) (by omega) (by omega)) ?_) (Evs.cons (Ev.len_b hK (by kernel_rfl) ?_ (by omega)) .nil rfl) rfl)) ?_ rfl).mono ?_
        · walk_at "ev"
        · walk_at "ev"
        · rw [Int.toNat_natCast]
        · walk_at "ev"
        · (intro zr1 zr2 zr3; refine El.axx (zr3) fun zz1 zz2 => ?_; try clear zr3; (first | subst zz1 | cases zz1); (first | subst zz2 | cases zz2))
          exact split_cut_B (c := c.put Γ hΓ) hK hX0 hout hbs (by decide) kk kd ko ks ini lst true ((wholeOf kk ko ks ini).length + k.toNat) hini hlst hlong (by omega) lkd lks lko hne (by omega) (by omega) (by omega)
        · rintro _ _ ⟨D', Xs', os', rfl, rfl, hR⟩
          have hXl' := hR.length
          rw [segsOf_length] at hXl'
          exact ⟨D', _, _, rfl, rfl, by rw [List.length_map]; omega, Xs', os', rfl, hR, rfl⟩
      · (intro c₁ zr2 zr3 i v u C m₂ ld Q E' h tk hc zr15 hv rr hmm hN hld S kk'; refine El.eeaxaxx (zr15) fun Xs' os' zz1 hR zz2 => ?_; try clear zr15; (first | subst zz1 | cases zz1); (first | subst zz2 | cases zz2))
        have hi : i < ini.length := by
          have := (List.getElem?_eq_some_iff.mp hv).1
          rw [List.length_map, hR.length, segsOf_length] at this; exact this
        (refine El.eeaxx (hR.get (segsOf_get kk ko ks ini 0 i _ (List.getElem?_eq_getElem hi))) fun X' V' hXi' hXm' => ?_)
        rw [List.getElem?_map, hXi'] at hv
        cases hv
        cases rr
        refine Gc_attr (u := .none) hK rfl (by with_unfolding_all rfl) rfl S hmm hN (hld _ (List.mem_append_left _ hXm')) (by kernel_rfl) rfl ?_
        (intro zr1 zr2; refine El.ex (zr2) fun t zz1 => ?_; try clear zr2; (first | subst zz1 | cases zz1))
        have e := hf i hi
        rw [segsOf_start _ _ _ _ _ hi] at e
        have := kk' (tk + 1) t
        rw [← e] at this
        rw [Int.zero_add]; exact this
      · (intro zr1 zr2 A zr4; refine El.eeaxaxx (zr4) fun Xs' os' zz1 hR zz2 => ?_; try clear zr4; (first | subst zz1 | cases zz1); (first | subst zz2 | cases zz2))
        refine ⟨A, os', rfl, ?_⟩
        rw [List.length_map, hR.length, segsOf_length]
    · (intro zr1 zr2 zr3; refine El.eeaxx (zr3) fun A j1 zz1 zz2 => ?_; try clear zr3; (first | subst zz1 | cases zz1); (first | subst zz2 | cases zz2))
      refine Ex.compL (cl := []) (fun vs l0 => vs = Xs.dropLast.map .ref ∧ l0 = (A, AO.list ((List.range ini.length).map fun i => .int (f i))) :: (j1 ++ (D, AO.list (Xs.map .ref)) :: (S, AO.list (Ts.map .ref)) :: (os2 ++ drw [] os d r s1 r1))) f (by with_unfolding_all rfl) (by decide +kernel) rfl (by decide +kernel) rfl ?_ ?_ ?_ rfl
      · intro Γ hΓ
        refine Ex.list_cut (c := c.put Γ hΓ) (D := D) (j := -1) ?_ ?_ rfl fun h S => ?_
        · walk_at "ev"
        · walk_at "ev"
        · (refine El.eeaxx (S.list (D := D) (vs := Xs.map .ref) (.tail _ (List.mem_append_right _ (.head _)))) fun us kn hD rs => ?_)
          have hul := rs.length
          rw [List.length_map] at hul
          refine ⟨us, ⟨_, hD, rfl, _, rfl⟩, by omega, fun D' => ⟨Xs.dropLast.map .ref, ?_, D', _, _, rfl, rfl, ?_, rfl, rfl⟩⟩
          · rw [show ((-1 : Int)) = -((1 : Nat) : Int) by rfl, slicePick_butLast _ 1 (Nat.le_refl _)]
            have e : (us.toArray.toList.take (us.toArray.size - 1)).toArray.toList = us.take (us.length - 1) := by simp
            rw [e, List.dropLast_eq_take, List.map_take, hul]
            exact rs.take _
          · rw [List.length_map, List.length_dropLast]; omega
      · (intro c₁ zr2 zr3 i v u C m₂ ld Q E' h tk hc zr15 hv rr hmm hN hld S kk'; refine El.axx (zr15) fun zz1 zz2 => ?_; try clear zr15; (first | subst zz1 | cases zz1); (first | subst zz2 | cases zz2))
        have hi : i < ini.length := by
          have := (List.getElem?_eq_some_iff.mp hv).1
          rw [List.length_map, List.length_dropLast] at this; omega
        have hi2 : i < (ini ++ [lst]).length := by rw [List.length_append]; omega
        (refine El.eeaxx (hX.get (segsOf_get kk ko ks (ini ++ [lst]) 0 i _ (List.getElem?_eq_getElem hi2))) fun X' V' hXi' hXm' => ?_)
        rw [List.dropLast_eq_take, List.getElem?_map, List.getElem?_take, if_pos (by omega), hXi'] at hv
        cases hv
        cases rr
        refine Gc_attr (u := .none) hK rfl (by with_unfolding_all rfl) rfl S hmm hN (hld _ (.tail _ (List.mem_append_right _ (.tail _ (.tail _ (List.mem_append_left _ hXm')))))) (by kernel_rfl) rfl ?_
        (intro zr1 zr2; refine El.ex (zr2) fun t zz1 => ?_; try clear zr2; (first | subst zz1 | cases zz1))
        have e := segsOf_start kk ko ks (ini ++ [lst]) i hi2
        have := kk' (tk + 1) t
        rw [show f i = _ from e] at this
        rw [Int.zero_add]; exact this
      · (intro zr1 zr2 B zr4; refine El.axx (zr4) fun zz1 zz2 => ?_; try clear zr4; (first | subst zz1 | cases zz1); (first | subst zz2 | cases zz2))
        refine ⟨A, B, j1, rfl, rfl, ?_⟩
        rw [List.length_map, List.length_dropLast, show Xs.length - 1 = ini.length by omega]
    · (intro zr1 zr2 zr3 zr4; refine El.eeeaxaxx (zr4) fun A B j1 zz1 zz2 zz3 => ?_; try clear zr4; (first | subst zz1 | cases zz1); (first | subst zz2 | cases zz2); (first | subst zz3 | cases zz3))
      refine ⟨.skip (.skip ?_), Cp.eq_list (vs := (List.range ini.length).map fun i => .int (f i)) (.tail _ (.head _)) (.head _) ?_⟩
      · exact Pick.of_subperm (r := j1) List.perm_append_comm
      · rw [List.all_eq_true]
        intro v hv
        (refine El.eaxx (List.mem_map.mp hv) fun i zz1 zz2 => ?_; (first | subst zz2 | cases zz2))
        rfl

theorem law_mid {w : World} {K : Frag} (hK : KOk K) (hX0 : KExc K) {a : Addr} {cd : Value} {c : Cx w K (lawF a cd) 40 true} {E : Value → Shared → Prop} (hout : c.outer = []) (hbs : Bs c) (d r S : Addr) (kd ks kk ko : List Int) (many : Nat) (hko : ko = kd ++ [120]) (hm : 1 ≤ many) (hm4 : many ≤ 4) (lkd : kd.length ≤ 8) (lks : ks.length ≤ 4) (m1 : AM) (l1 : AL) (hJ : J1 d r S kd ks kk ko many many m1 l1) :
    Wb c E m1 l1 ((topR 73).body.drop 4) (Rt fun v _ => v = .bool true) := by
  obtain ⟨items, Ts, os, seed, rows, hlen, hok, hsl, hr, hsub, rfl⟩ := hJ
  have lko : ko.length ≤ 20 := by rw [hko]; simp; omega
  have hne : ko ≠ kd := by rw [hko]; intro q; have := congrArg List.length q; simp at this
  refine Wb.sub ?_ hsub
  show Wb c E [(Str.ofString "draws", .ref d), (Str.ofString "dcid", .bytes kd), (Str.ofString "scid", .bytes ks), (Str.ofString "key", .bytes kk), (Str.ofString "other", .bytes ko), (Str.ofString "many", .int many), (Str.ofString "sent", .ref S), (Str.ofString "whole", .bytes (wholeOf kk ko ks items))] (drw [] ((S, .list (Ts.map .ref)) :: os) d r seed rows) (_ :: _ :: _ :: _) _
  have hwl := items_len kk ko lkd lks lko items hok.all
  have C1 := split_items_C (w := w) hK kk kd ko ks many items (drw [] ((S, .list (Ts.map .ref)) :: os) d r seed rows) hok hlen hm hm4 lkd lks lko hne
  have hTl := hsl.length
  refine Wb.assignX (Ex.fnA hK (by kernel_rfl) rfl (by kernel_rfl) (Evs.cons ?_ (Evs.cons (Ev.len_b hK (by kernel_rfl) ?_ (by omega)) .nil rfl) rfl) C1 (by kernel_rfl)) (by kernel_rfl) ?_
  · walk_at "ev"
  · walk_at "ev"
  rintro _ _ ⟨D, Xs, os2, rfl, rfl, hX⟩
  have hXl := hX.length
  rw [segsOf_length] at hXl
  refine Wb.pick (t := (D, .list (Xs.map .ref)) :: (S, .list (Ts.map .ref)) :: (os2 ++ drw [] os d r seed rows)) ?_ (Pick.of_perm (List.Perm.cons _ (by classical (rw [List.perm_iff_count]; intro a; simp only [drw, List.count_append, List.count_cons, List.nil_append]; omega))))
  with_reducible apply Wb.if_no (p := ((Xs.map AV.ref).length : Int) ≠ ((Ts.map AV.ref).length : Nat))
  · refine Te.cmp (Ev.len_l hK (by kernel_rfl) ?_ (.head _) (by rw [List.length_map]; omega)) (Ev.len_l hK (by kernel_rfl) ?_ (.tail _ (.head _)) (by rw [List.length_map]; omega)) Cop.ne (by with_unfolding_all rfl)
    · walk_at "ev"
    · walk_at "ev"
  · rw [List.length_map, List.length_map]; omega
  refine Wb.zip hK (lawM2 d D kd kk (wholeOf kk ko ks items)) ?_ ?_ (by rw [List.length_map, List.length_map]; omega) (by walk_at "sub") (by kernel_rfl) ?_ ?_
  · walk_at "ev"
  · walk_at "ev"
  · intro c₁ E₁ i x y T0 own hx hy
    have hi : i < items.length := by
      have := (List.getElem?_eq_some_iff.mp hx).1
      rw [List.length_map] at this; omega
    (refine El.eeaxx (hX.get (segsOf_get kk ko ks items 0 i _ (List.getElem?_eq_getElem hi))) fun X V hXi hXm => ?_)
    (refine El.eeaxaxx (hsl.get (List.getElem?_eq_getElem hi)) fun T P hTi hTm hPm => ?_)
    (refine El.ex (whole_drop kk ko ks (List.getElem?_eq_getElem hi)) fun post hd => ?_)
    rw [List.getElem?_map, hXi] at hx
    rw [List.getElem?_map, hTi] at hy
    cases hx
    cases hy
    rw [Int.zero_add] at hXm
    exact law_turn2 hK d D X T P V T0 (wholeOf kk ko ks items) kk kd ks post items[i] _ (wholeOf kk ko ks (items.take i)).length own _ (hok i _ (List.getElem?_eq_getElem hi)) lkd lks (by omega) hd (List.mem_append_left _ hXm) (List.mem_append_right _ (drw_post hTm)) (List.mem_append_right _ (drw_post hPm))
  · exact law_end hK hX0 hout hbs d r D S kd ks kk ko many items Xs Ts os os2 seed rows hm hm4 hlen hok hX hr lkd lks lko hne
theorem law_body {w : World} {K : Frag} (hK : KOk K) (hX0 : KExc K) {a : Addr} {cd : Value} {c : Cx w K (lawF a cd) 40 true} {E : Value → Shared → Prop} (hout : c.outer = []) (hbs : Bs c) (sa : Addr) (us : List Value) (zs : List Int) (hI : IntsAre us zs) (hz : us.length ≤ 1000) (hs : c.h₀.IsList sa us.toArray) :
    Wb c E [(Str.ofString "script", .ref sa)] [] (topR 73).body (Rt fun v _ => v = .bool true) := by
  show Wb c E [(Str.ofString "script", .ref sa)] [] (_ :: _ :: _ :: _ :: _) _
  refine Wb.assignX (Ex.callE (Ev.glob hK (v := .ref 436) rfl (by kernel_rfl)) (keeps_of (hK.keepA (by decide +kernel))) (by walk_at "evs") (ldraws_B hK sa us zs hI hz hs (by decide)) rfl) (by kernel_rfl) ?_
  (intro zr1 zr2 zr3; refine El.eeeex (zr3) fun d r s1 r1 zq8 => ?_; try clear zr3; refine El.axaxx (zq8) fun zz1 hr1 zz2 => ?_; try clear zq8; (first | subst zz1 | cases zz1); (first | subst zz2 | cases zz2))
  refine Wb.swap (xs := [Str.ofString "dcid", Str.ofString "scid", Str.ofString "key"]) (RL := fun vs l0 => ∃ kd ks kk seed rows, vs = [.bytes kd, .bytes ks, .bytes kk] ∧ kd.length ≤ 8 ∧ ks.length ≤ 4 ∧ rows.length ≤ 40 ∧ l0 = drw [] [] d r seed rows) ?_ (fun vs l0 h => by (refine El.eeeeex (h) fun zz1 zz2 zz3 zz4 zz5 zq9 => ?_; try clear h; refine El.axx (zq9) fun zz6 zz7 => ?_; try clear zq9; (first | subst zz6 | cases zz6)); rfl) (by kernel_rfl) rfl ?_
  · refine Exs.cons (Ex.oct hK (most := 8) (by walk_at "ev") (by walk_at "ev") hr1 (by decide) (by decide) (by kernel_rfl)) ?_ rfl
    rintro _ _ ⟨kd, s2, r2, rfl, _, h2, hr2, rfl⟩
    refine Exs.cons (Ex.oct hK (most := 4) (by walk_at "ev") (by walk_at "ev") hr2 (by decide) (by decide) (by kernel_rfl)) ?_ rfl
    rintro _ _ ⟨ks, s3, r3, rfl, _, h3, hr3, rfl⟩
    refine Exs.cons (Ex.oct hK (most := 3) (by walk_at "ev") (by walk_at "ev") hr3 (by decide) (by decide) (by kernel_rfl)) ?_ rfl
    rintro _ _ ⟨kk, s4, r4, rfl, _, h4, hr4, rfl⟩
    exact Exs.done ⟨kd, ks, kk, s4, r4, rfl, by omega, by omega, hr4, rfl⟩
  (intro zr1 zr2 zr3; refine El.eeeeex (zr3) fun kd ks kk s2 r2 zq10 => ?_; try clear zr3; refine El.axaxaxaxx (zq10) fun zz1 lkd lks hr2 zz2 => ?_; try clear zq10; (first | subst zz1 | cases zz1); (first | subst zz2 | cases zz2))
  refine Wb.unpack (R := fun v l' => ∃ D vs l0, v = .ref D ∧ l' = (D, .tup vs) :: l0 ∧ (∃ (many : Nat) (S : Addr) (seed : Int) (rows : List Int), vs = [.bytes (kd ++ [120]), .int many, .ref S, .bytes []] ∧ 1 ≤ many ∧ many ≤ 4 ∧ rows.length ≤ 40 ∧ l0 = (S, .list []) :: drw [] [] d r seed rows)) (Ex.tupX ?_ (fun vs l0 h => by (refine El.eeeex (h) fun zz1 zz2 zz3 zz4 zq11 => ?_; try clear h; refine El.axx (zq11) fun zz5 zz6 => ?_; try clear zq11; (first | subst zz5 | cases zz5)); exact Nat.le_of_ble_eq_true rfl)) (by kernel_rfl) rfl ?_
  · refine Exs.vcons (v := .bytes (kd ++ [120])) (Ev.bin (y := .bytes [120]) ?_ (Ev.eq Ev.const_bytes rfl) (Bop.cat (by omega) (by decide))) (Exs.cons (R1 := fun v l' => ∃ (many : Nat) (seed : Int) (rows : List Int), v = .int many ∧ 1 ≤ many ∧ many ≤ 4 ∧ rows.length ≤ 40 ∧ l' = drw [] [] d r seed rows) (Ex.binR (x := .int 1) (R2 := Took [] [] d r 3) ?_ (Ex.take hK (many := 3) (by walk_at "ev") (by walk_at "ev") hr2 (by decide) (by kernel_rfl)) ?_) ?_ rfl) rfl
    · walk_at "ev"
    · walk_at "ev"
    · rintro _ _ ⟨k, s3, r3, rfl, k0, k1, hr3, rfl⟩
      exact ⟨_, Bop.add, k.toNat + 1, s3, r3, by congr 1; omega, by omega, by omega, hr3, rfl⟩
    · (intro zr1 zr2 zr3; refine El.eeex (zr3) fun many s3 r3 zq12 => ?_; try clear zr3; refine El.axaxaxaxx (zq12) fun zz1 k0 k1 hr3 zz2 => ?_; try clear zq12; (first | subst zz1 | cases zz1); (first | subst zz2 | cases zz2))
      refine Exs.cons (Ex.list Evs.nil (by decide)) ?_ rfl
      (intro zr1 zr2 zr3; refine El.eaxx (zr3) fun S zz1 zz2 => ?_; try clear zr3; (first | subst zz1 | cases zz1); (first | subst zz2 | cases zz2))
      exact Exs.ofv (vs := [.bytes []]) (Evs.cons (Ev.eq Ev.const_bytes rfl) .nil rfl) ⟨many, S, s3, r3, rfl, k0, k1, hr3, rfl⟩
  (intro zr1 zr2 zr3; refine El.eeex (zr3) fun D zz1 zz2 zq13 => ?_; try clear zr3; refine El.axaxx (zq13) fun zz3 zz4 zq14 => ?_; try clear zq13; refine El.eeeeaxaxaxaxx (zq14) fun many S s3 r3 zz5 hm hm4 hr3 zz6 => ?_; try clear zq14; (first | subst zz3 | cases zz3); (first | subst zz4 | cases zz4); (first | subst zz5 | cases zz5); (first | subst zz6 | cases zz6))
  refine ⟨D, _, _, _, rfl, .head _, rfl, Asgs.name (by kernel_rfl) (Asgs.name (by kernel_rfl) (Asgs.name (by kernel_rfl) (Asgs.name (by kernel_rfl) Asgs.nil))), ?_⟩
  refine Wb.pick (t := drw [] [(S, .list [])] d r s3 r3) ?_ (.skip (Pick.of_perm (by classical (rw [List.perm_iff_count]; intro a; simp only [drw, List.count_append, List.count_cons, List.nil_append, List.count_nil]; omega))))
  have lko : (kd ++ [(120 : Int)]).length ≤ 20 := by simp; omega
  refine Wb.forJ (J1 d r S kd ks kk (kd ++ [120]) many) (items := (List.range many).map fun i => .int (0 + (i : Nat) * 1)) ?_ ⟨[], [], [], s3, r3, rfl, (fun j it h => by cases h), .nil, hr3, by walk_at "sub", rfl⟩ ?_ ?_ (by kernel_rfl)
  · refine Iter.of_rng (a := 0) (z := many) (st := 1) ?_ (small_one (by omega) (by omega) (by omega) (by omega)) (by rw [rangeSize_nat]; congr 1)
    refine Ex.callE ?_ keeps_type ?_ Bw.range1 rfl
    · walk_at "bt"
    · walk_at "evs"
  · rintro c₁ E₁ i v I o m1 _ hv ⟨items, Ts, os, seed, rows, hlen, hok, hsl, hr, hsub, rfl⟩
    obtain ⟨hi, rfl⟩ : i < many ∧ v = .int i := by
      rw [List.getElem?_map] at hv
      (refine El.eaxx (Option.map_eq_some_iff.mp hv) fun j hj zz1 => ?_; (first | subst zz1 | cases zz1))
      (refine El.ex (List.getElem?_eq_some_iff.mp hj) fun hj1 hj2 => ?_)
      rw [List.getElem_range] at hj2
      rw [List.length_range] at hj1
      exact ⟨hj1, by rw [hj2]; congr 1; omega⟩
    refine ((law_turn1 hK d r S I o kd ks kk (kd ++ [120]) many i items Ts os seed rows hi hm4 hlen hok hsl hr lkd lks lko).sub hsub.up).mono fun f m' l' hT => ?_
    (refine El.axeaxx (hT) fun zz1 l0 e hJ => ?_; try clear hT; (first | subst zz1 | cases zz1))
    exact ⟨l0, e, hJ⟩
  · intro m1 l1 hJ
    rw [List.length_map, List.length_range] at hJ
    exact law_mid hK hX0 hout hbs d r S kd ks kk (kd ++ [120]) many rfl hm hm4 lkd lks m1 l1 hJ

end Mine
end
section
open PySem PySem.W PySem.Spec PySem.Calls PyProof.Rows
namespace Mine
set_option maxRecDepth 100000
set_option maxHeartbeats 4000000
set_option linter.unusedVariables false
set_option Elab.async false
theorem G_fullW {prog : Program} {w : World} {Γ : PySem.Ctx} {A : Around} {Q : Value → Shared → Prop} {E : Value → Shared → Prop} {s : Shared} {name : Str} {params : Arguments} {body : List Stmt} {scope : Scope}
    {dV kV pm cd doc : Value} {a : Addr} {o : Obj} {args : List Value} {binds : List (Str × Value)} (hΓ : Γ.In A) (hC : Clean Γ)
    (hroom : A.depth < recursionLimit) (ho : s.heap.get? a = some o) (hdata : o.data = .func { docDef name params body scope pm cd doc with defaults := dV, kwdefaults := kV }) (hlim : s.heap.NoLimit) (hcd : s.heap.CodeRec cd name)
    (hbind : BindsTo s { docDef name params body scope pm cd doc with defaults := dV, kwdefaults := kV } ⟨args, []⟩ binds)
    (hloc : ∀ x ∈ binds, scope.names.lookup x.1 = some .local)
    (h : ∀ h₁ (Γ' : PySem.Ctx), Γ'.In (A.deeper (envOf name scope s.heap.objs.size a cd)) → Clean Γ' → Fr s.heap s.heap.objs.size h₁ (fun x => binds.reverse.lookup x) →
      G (model prog w) Γ' (execs body (envOf name scope s.heap.objs.size a cd)) (fun f s' => Q (match f with | .ret v => v | _ => .none) s') (fun _ _ => False) { s with heap := h₁, toks := s.toks + binds.length })
    (hco : scope.isCoroutine = false) (hgen : scope.isGenerator = false) (hk : scope.kind = .function)
    (hcell : ∀ x ∈ scope.names, x.2 ≠ .cell) :
    G (model prog w) Γ (call (.ref a) args) Q E s :=
  G_call_def hΓ hC hroom ho hdata hlim hcd rfl hbind hcell hloc (fun h₁ Γ' hΓ' hC' hns hkeep => h h₁ Γ' hΓ' hC' ⟨hns, hkeep, Nat.le_refl _⟩) hco hgen hk
theorem law_walk {q : Program} {loose : List Str} {XP : (Str → Option Value) → Heap → Prop} {YP : World → Heap → Prop} (Kf : World → Frag) (hY : ∀ w h, YP w h → (Kf w).In h) (hK : ∀ w, KOk (Kf w)) (hX : ∀ w, KExc (Kf w)) (ps : Pos) :
    WalkG q loose XP YP PySem.Challenge.rw_no0085_01.row.toRowW { name := (topR 73).name, params := (topR 73).params, body := (topR 73).body, scope := (topR 73).scope, pos := ps } [] := by
  intro w s₀ s₁ mg mb G Y fa o pm cd doc dV kV ho hd hcd hD hmg hg args vals as hpre hlay hrd hwl hlo
  have KX := hY _ _ Y
  refine Ground.open G ?_
  intro T B D TE TW
  clear B D TE TW
  wrow_args hpre hlay hrd hwl hlo
  rename_i zs _ _ _ _ _ _ _ sa us _ hL _ _ _ hI _ hz _
  have good : ∀ s' : Shared, (∀ b o, s₁.heap.get? b = some o → s'.heap.get? b = some o) → s'.os = s₁.os → s'.gens = #[] → GoodWG PySem.Challenge.rw_no0085_01.row.claim (classAt s₀.heap) (ExcName.means s₀.heap) [ofPy (PyData.list (List.map PyData.int zs))] s₁ (Except.ok (Flow.ret (Value.bool true))) s' := fun s' k1 k2 k3 =>
    GoodW.toG ⟨.inl ⟨.bool true, .bool true, [], rfl, raisesW_false (by wrow_none_raised), .bool true, by wrow_post, unshared_nil⟩, k1, k2, k3⟩
  refine ⟨fun Γ hΓ hC => ?_, good s₁ (fun _ _ e => e) rfl hg⟩
  have he := Dflts.none hD (by kernel_rfl)
  subst he
  refine G_fullW (prog := prog) (binds := [(Str.ofString "script", .ref sa)]) hΓ hC (by decide) ho hd (Top.nolimit T) hcd (BindsTo.of_eq (by kernel_rfl)) ?_ (fun h₁ Γ' hΓ' hC' F => ?_) (by kernel_rfl) (by kernel_rfl) (by kernel_rfl) ?_
  · exact fun x hx => by
      rcases List.mem_cons.mp hx with rfl | hx
      · kernel_rfl
      · cases hx
  · obtain ⟨dp, un, gd, hd2, hu2, hΓ2⟩ : ∃ dp un gd, dp + 40 < recursionLimit ∧ un + 8 * 40 < cLine ∧ Γ'.In (ktrTop dp un gd (topR 73).name (topR 73).scope s₁.heap.objs.size fa cd [] []) := ⟨_, _, _, by decide, by decide, hΓ'⟩
    let c : Cx w (Kf w) (lawF fa cd) 40 true := ⟨Γ', dp, un, gd, [], [], callerA, s₁.heap, s₁.heap, s₁.heap.objs.size, s₁, q, looseW q loose, ExcName.means s₀.heap, mg, mb, hΓ2, fun _ => hC', below_caller s₁.heap, KX, T, by kernel_rfl, hd2, hu2⟩
    have hlen : us.length ≤ 1000 := by
      have := hI.sizeZ
      rw [List.size_toArray] at this
      omega
    refine law_body (c := c) (E := fun _ _ => False) (hK w) (hX w) rfl ⟨KX, T⟩ sa us zs hI hlen hL _ h₁ _ ⟨_, [], F, fun x v hx => ?_, (fun _ h => nomatch h), .nil, .nil⟩ fun f f' m' l' h' tk' hP S' hf => ?_
    · have hx' := hx
      rw [List.lookup_cons] at hx
      split at hx
      · rename_i e
        cases hx
        exact ⟨_, by rw [eq_of_beq e]; rfl, rfl⟩
      · cases hx
    · obtain ⟨mm, news, Fr₀, _⟩ := S'
      cases f with
      | next => cases hP
      | ret v => (refine El.eaxx (hf) fun u zz1 r => ?_; try clear hf; (first | subst zz1 | cases zz1)); cases hP; cases r; exact good _ Fr₀.keep rfl hg
      | brk => exact hP.elim
      | cont => exact hP.elim
  · exact fun x hx => by
      have : ((topR 73).scope.names.all fun y => decide (y.2 ≠ .cell)) = true := by kernel_rfl
      exact of_decide_eq_true (List.all_eq_true.mp this x hx)
noncomputable def AllP {α : Type} (P : α → Prop) : List α → Prop
  | [] => True
  | x :: r => P x ∧ AllP P r
theorem all_mem {α : Type} {P : α → Prop} : ∀ {l : List α}, AllP P l → ∀ x ∈ l, P x
  | _ :: _, h, _, .head _ => h.1
  | _ :: _, h, _, .tail _ m => all_mem h.2 _ m
theorem globs_of {K : Frag} (h : AllP (fun p : Str × AV => ∃ u, nsIn K mainGlobals p.1 = some (some u) ∧ Real p.2 u) globTab) : ∀ x v, globTab.lookup x = some v → ∃ u, nsIn K mainGlobals x = some (some u) ∧ Real v u := fun x v z => all_mem h (x, v) (lookup_mem z)
theorem strKeys_all {es : Array DictEntry} (h : es.toList.all (fun e => match e.key with | .str _ _ => true | _ => false) = true) : StrKeys es := fun e he => by
  have := List.all_eq_true.mp h e (Array.mem_toList_iff.mpr he)
  split at this
  · rename_i n t hk; exact ⟨n, t, hk⟩
  · cases this
theorem own_of {K : Frag} {fI N : Addr} {es : Array DictEntry} {oc : Value} {od : Option Addr} {sl : Array (Option Value)} {n : Nat} (hN : K.lookup N = some ⟨oc, od, .dict es n, sl⟩) (hs : es.toList.all (fun e => match e.key with | .str _ _ => true | _ => false) = true) (h1 : nsFind es "__init__" = some (.ref fI)) (h2 : nsFind es "__setattr__" = none) (h3 : nsFind es "text" = none) :
    ∃ mN, (∀ h : Heap, K.In h → h.Ns N mN) ∧ mN "__init__" = some (.ref fI) ∧ mN "__setattr__" = none ∧ mN "text" = none :=
  ⟨nsFind es, fun h X => ⟨_, es, n, X _ _ hN, rfl, strKeys_all hs, fun _ => rfl⟩, h1, h2, h3⟩
end Mine

end
section
open PySem PySem.W PyProof.Rows
namespace Mine
set_option maxRecDepth 100000
set_option maxHeartbeats 0
set_option Elab.async false
theorem top.tw10006222313960134694 : True := trivial
theorem top.tw10008474027749305400 : True := trivial
theorem top.tw10090393231696489298 : True := trivial
theorem top.tw10187264123177260123 : True := trivial
theorem top.tw10226039269515513512 : True := trivial
theorem top.tw10404823597219466188 : True := trivial
theorem top.tw1040915598704419856 : True := trivial
theorem top.tw104434173382791472 : True := trivial
theorem top.tw1047907039808853306 : True := trivial
theorem top.tw10484538523117445312 : True := trivial
theorem top.tw105208000716104510 : True := trivial
theorem top.tw10548783162686979305 : True := trivial
theorem top.tw10567129059001840431 : True := trivial
theorem top.tw10617020205504526918 : True := trivial
theorem top.tw10648311167861321448 : True := trivial
theorem top.tw10657950659306570408 : True := trivial
theorem top.tw10661347744875259296 : True := trivial
theorem top.tw10773188271377071773 : True := trivial
theorem top.tw10783980745131425670 : True := trivial
theorem top.tw10801874191123338550 : True := trivial
theorem top.tw10864713392326063847 : True := trivial
theorem top.tw1088946173253831356 : True := trivial
theorem top.tw10915162052029792233 : True := trivial
theorem top.tw10936122117785486979 : True := trivial
theorem top.tw10956490626425055710 : True := trivial
theorem top.tw10987319290404115282 : True := trivial
theorem top.tw10996937224433265937 : True := trivial
theorem top.tw1108800333578037850 : True := trivial
theorem top.tw11133666699803404755 : True := trivial
theorem top.tw11141966352661209427 : True := trivial
theorem top.tw11199532085631943738 : True := trivial
theorem top.tw11199710921928265848 : True := trivial
theorem top.tw11203750815551599093 : True := trivial
theorem top.tw11240886729373846589 : True := trivial
theorem top.tw1124271682379634556 : True := trivial
theorem top.tw11279390925490393535 : True := trivial
theorem top.tw11334203419191126389 : True := trivial
theorem top.tw11334350811105764591 : True := trivial
theorem top.tw11334415319851112604 : True := trivial
theorem top.tw1139600151236580504 : True := trivial
theorem top.tw11423202765487971197 : True := trivial
theorem top.tw11430207588045935325 : True := trivial
theorem top.tw11443710868159068359 : True := trivial
theorem top.tw11459358961799972967 : True := trivial
theorem top.tw11466170419677230873 : True := trivial
theorem top.tw1149218181149386328 : True := trivial
theorem top.tw11546936639936008217 : True := trivial
theorem top.tw11582926029173025856 : True := trivial
theorem top.tw11613256710310857696 : True := trivial
theorem top.tw11762496359356365647 : True := trivial
theorem top.tw11858546649754279707 : True := trivial
theorem top.tw11922380849998532372 : True := trivial
theorem top.tw1195175773429642966 : True := trivial
theorem top.tw12012865196380796599 : True := trivial
theorem top.tw12063507109938499728 : True := trivial
theorem top.tw12080426169559351053 : True := trivial
theorem top.tw12105128591322288922 : True := trivial
theorem top.tw1212798325632107971 : True := trivial
theorem top.tw12166907935582030026 : True := trivial
theorem top.tw12318557346453588183 : True := trivial
theorem top.tw12342655685612074800 : True := trivial
theorem top.tw12357524464438376042 : True := trivial
theorem top.tw12376051458212225564 : True := trivial
theorem top.tw12385144161495827662 : True := trivial
theorem top.tw12392516345856041104 : True := trivial
theorem top.tw12415523145999629524 : True := trivial
theorem top.tw12425085872883035938 : True := trivial
theorem top.tw1245559373397905713 : True := trivial
theorem top.tw12483720753089274532 : True := trivial
theorem top.tw12535971307161669396 : True := trivial
theorem top.tw12540527436937284434 : True := trivial
theorem top.tw12622177474791663080 : True := trivial
theorem top.tw12643491718579748851 : True := trivial
theorem top.tw12718909917080609646 : True := trivial
theorem top.tw1275901062530889299 : True := trivial
theorem top.tw12787338502077490372 : True := trivial
theorem top.tw12819366960792805191 : True := trivial
theorem top.tw1284575025550258836 : True := trivial
theorem top.tw1291508964198565346 : True := trivial
theorem top.tw1294077662247117797 : True := trivial
theorem top.tw12958502747184954254 : True := trivial
theorem top.tw13001836021917841797 : True := trivial
theorem top.tw13044034144603486326 : True := trivial
theorem top.tw13090165191389475591 : True := trivial
theorem top.tw13091174067606910046 : True := trivial
theorem top.tw13120753694373217308 : True := trivial
theorem top.tw13134186033006778460 : True := trivial
theorem top.tw13160728816969591200 : True := trivial
theorem top.tw13177472732611162249 : True := trivial
theorem top.tw13264354339760550358 : True := trivial
theorem top.tw13272337422414781067 : True := trivial
theorem top.tw13303987763403120937 : True := trivial
theorem top.tw13307591127769906961 : True := trivial
theorem top.tw13326734554550294991 : True := trivial
theorem top.tw13345470168829271861 : True := trivial
theorem top.tw13359135706311490777 : True := trivial
theorem top.tw13369591340354186047 : True := trivial
theorem top.tw13370750898655102155 : True := trivial
theorem top.tw13501252493785611398 : True := trivial
theorem top.tw13706816188851595723 : True := trivial
theorem top.tw13822267516522204269 : True := trivial
theorem top.tw13889484949932952446 : True := trivial
theorem top.tw13896958669275611876 : True := trivial
theorem top.tw13983857475226248213 : True := trivial
theorem top.tw1400011881503588481 : True := trivial
theorem top.tw14142502885225118848 : True := trivial
theorem top.tw14168018189251442112 : True := trivial
theorem top.tw14263998999751124003 : True := trivial
theorem top.tw14282377253939248939 : True := trivial
theorem top.tw14349089067433371257 : True := trivial
theorem top.tw14371913498598963198 : True := trivial
theorem top.tw14372152842798730730 : True := trivial
theorem top.tw14374289702345001990 : True := trivial
theorem top.tw14390669486469195807 : True := trivial
theorem top.tw14399976873020721970 : True := trivial
theorem top.tw14402358008270493973 : True := trivial
theorem top.tw14459580976405569124 : True := trivial
theorem top.tw14502225709538309166 : True := trivial
theorem top.tw14597223018079223185 : True := trivial
theorem top.tw14611434983143301774 : True := trivial
theorem top.tw146815374380898660 : True := trivial
theorem top.tw14697636140705633519 : True := trivial
theorem top.tw14724332232928298890 : True := trivial
theorem top.tw14747140909534839006 : True := trivial
theorem top.tw14762295962024373759 : True := trivial
theorem top.tw14789260269991461300 : True := trivial
theorem top.tw14796646475526232899 : True := trivial
theorem top.tw14823308797102314842 : True := trivial
theorem top.tw14826035006057030972 : True := trivial
theorem top.tw14839182381909581876 : True := trivial
theorem top.tw14861896470697024400 : True := trivial
theorem top.tw14917401599646851644 : True := trivial
theorem top.tw1492452104121835379 : True := trivial
theorem top.tw14987219478266130788 : True := trivial
theorem top.tw15058813355848621054 : True := trivial
theorem top.tw15092371282622821202 : True := trivial
theorem top.tw1513038484208349539 : True := trivial
theorem top.tw15169761463676818070 : True := trivial
theorem top.tw1523948284192841196 : True := trivial
theorem top.tw15245507539482535896 : True := trivial
theorem top.tw15286249088069653756 : True := trivial
theorem top.tw15361541807878343388 : True := trivial
theorem top.tw15362295582089109014 : True := trivial
theorem top.tw15503665604740900718 : True := trivial
theorem top.tw15569959144833144457 : True := trivial
theorem top.tw15595458437365679964 : True := trivial
theorem top.tw15740088241188596515 : True := trivial
theorem top.tw1585457916280141200 : True := trivial
theorem top.tw15860264024139754761 : True := trivial
theorem top.tw15878805988109762761 : True := trivial
theorem top.tw15918733279669447828 : True := trivial
theorem top.tw15985961358823992270 : True := trivial
theorem top.tw16044733080236030384 : True := trivial
theorem top.tw16054190913257422852 : True := trivial
theorem top.tw16058212318047004132 : True := trivial
theorem top.tw16104615914030681952 : True := trivial
theorem top.tw16123964013534891561 : True := trivial
theorem top.tw16155163154822807229 : True := trivial
theorem top.tw1617357707322924660 : True := trivial
theorem top.tw16196420915677631385 : True := trivial
theorem top.tw16204670001084760307 : True := trivial
theorem top.tw16325430554902658873 : True := trivial
theorem top.tw16352630495959832749 : True := trivial
theorem top.tw1638113669730673903 : True := trivial
theorem top.tw16415559393655328363 : True := trivial
theorem top.tw16420938139371093754 : True := trivial
theorem top.tw16439428074185983240 : True := trivial
theorem top.tw16453443671601555132 : True := trivial
theorem top.tw16541100652227675460 : True := trivial
theorem top.tw16542028095416433903 : True := trivial
theorem top.tw16550210197400561554 : True := trivial
theorem top.tw16580785732701462914 : True := trivial
theorem top.tw16597617366809209970 : True := trivial
theorem top.tw16599547676461567385 : True := trivial
theorem top.tw16713831800681072344 : True := trivial
theorem top.tw16719718919923625709 : True := trivial
theorem top.tw16782997733028217545 : True := trivial
theorem top.tw16795567611416646642 : True := trivial
theorem top.tw16800595933775061595 : True := trivial
theorem top.tw16821654228018055803 : True := trivial
theorem top.tw16878204669230926818 : True := trivial
theorem top.tw16885616592811714743 : True := trivial
theorem top.tw16900427199656544559 : True := trivial
theorem top.tw17046948494117081484 : True := trivial
theorem top.tw1706793611546318481 : True := trivial
theorem top.tw17177869089781658578 : True := trivial
theorem top.tw17219337458794519322 : True := trivial
theorem top.tw17315540178315561739 : True := trivial
theorem top.tw1732150942055357024 : True := trivial
theorem top.tw17323899518341599180 : True := trivial
theorem top.tw17342085116792181814 : True := trivial
theorem top.tw17355269125676882429 : True := trivial
theorem top.tw1736530178072539846 : True := trivial
theorem top.tw17428532607074087071 : True := trivial
theorem top.tw17470836177267949868 : True := trivial
theorem top.tw17486766287000646611 : True := trivial
theorem top.tw17492772389151264855 : True := trivial
theorem top.tw17542608870123051758 : True := trivial
theorem top.tw1754339480302792767 : True := trivial
theorem top.tw17620759639134147866 : True := trivial
theorem top.tw17795014544551873601 : True := trivial
theorem top.tw17810072253543177317 : True := trivial
theorem top.tw17886615442053742456 : True := trivial
theorem top.tw17953984050398360512 : True := trivial
theorem top.tw18008055252877512497 : True := trivial
theorem top.tw18034075008235765660 : True := trivial
theorem top.tw18063644159110109576 : True := trivial
theorem top.tw18064794426631996164 : True := trivial
theorem top.tw18085771088847121727 : True := trivial
theorem top.tw18086089286151905521 : True := trivial
theorem top.tw1814787853859245837 : True := trivial
theorem top.tw18164388396756303480 : True := trivial
theorem top.tw18177719399980262173 : True := trivial
theorem top.tw18186074749648716422 : True := trivial
theorem top.tw18237780215024852062 : True := trivial
theorem top.tw18245740138792012028 : True := trivial
theorem top.tw18289109515434150305 : True := trivial
theorem top.tw1833847959688406909 : True := trivial
theorem top.tw18367679650794681301 : True := trivial
theorem top.tw1843344800811705456 : True := trivial
theorem top.tw1869187583165140508 : True := trivial
theorem top.tw1886144042066472794 : True := trivial
theorem top.tw196536941598035525 : True := trivial
theorem top.tw1971433849790844608 : True := trivial
theorem top.tw2007660962349395123 : True := trivial
theorem top.tw2057334267981633021 : True := trivial
theorem top.tw2145171640123136144 : True := trivial
theorem top.tw216529984938456764 : True := trivial
theorem top.tw2287823674025257028 : True := trivial
theorem top.tw2312856594315299383 : True := trivial
theorem top.tw2369445192022557226 : True := trivial
theorem top.tw2383874813549526199 : True := trivial
theorem top.tw2443449257678562572 : True := trivial
theorem top.tw2464713573024523455 : True := trivial
theorem top.tw2506305409684761478 : True := trivial
theorem top.tw2514443458684651071 : True := trivial
theorem top.tw2555065506035805374 : True := trivial
theorem top.tw2581206410525282061 : True := trivial
theorem top.tw2617719716777270872 : True := trivial
theorem top.tw2665807947273092163 : True := trivial
theorem top.tw2731995056826638727 : True := trivial
theorem top.tw2732273902793177162 : True := trivial
theorem top.tw2758071753971750899 : True := trivial
theorem top.tw2792943032503483283 : True := trivial
theorem top.tw2812155379371279736 : True := trivial
theorem top.tw283044589724301 : True := trivial
theorem top.tw2834617895031628566 : True := trivial
theorem top.tw2835187731363253809 : True := trivial
theorem top.tw2847958352784047137 : True := trivial
theorem top.tw2867133514656366558 : True := trivial
theorem top.tw2907113945770861938 : True := trivial
theorem top.tw2924597203103170677 : True := trivial
theorem top.tw297971269722091814 : True := trivial
theorem top.tw2988451766255067171 : True := trivial
theorem top.tw3195522803047326042 : True := trivial
theorem top.tw3195968871104189447 : True := trivial
theorem top.tw3254097082911018636 : True := trivial
theorem top.tw3261557481417251176 : True := trivial
theorem top.tw3315250197877816394 : True := trivial
theorem top.tw3337584539547039419 : True := trivial
theorem top.tw339143206060000330 : True := trivial
theorem top.tw3422688185749166683 : True := trivial
theorem top.tw342308947776675178 : True := trivial
theorem top.tw3474246075231452896 : True := trivial
theorem top.tw3477822673542525157 : True := trivial
theorem top.tw3561193834555079511 : True := trivial
theorem top.tw370947364307004932 : True := trivial
theorem top.tw3712731000106771831 : True := trivial
theorem top.tw3730354652608582461 : True := trivial
theorem top.tw3776753064480771068 : True := trivial
theorem top.tw390997316461189296 : True := trivial
theorem top.tw3933941016417956559 : True := trivial
theorem top.tw3969286963782609292 : True := trivial
theorem top.tw3976154599441133093 : True := trivial
theorem top.tw4047667213573674445 : True := trivial
theorem top.tw4076138812419527698 : True := trivial
theorem top.tw4186445540838780016 : True := trivial
theorem top.tw4205137553216949640 : True := trivial
theorem top.tw4213018616267185653 : True := trivial
theorem top.tw427269002284569659 : True := trivial
theorem top.tw427420600052151026 : True := trivial
theorem top.tw4299629679881509495 : True := trivial
theorem top.tw4321519831107876412 : True := trivial
theorem top.tw4498253355057717688 : True := trivial
theorem top.tw4526881389914513428 : True := trivial
theorem top.tw453181688931711583 : True := trivial
theorem top.tw4551080515912023512 : True := trivial
theorem top.tw4555866861457887817 : True := trivial
theorem top.tw4571971715460732019 : True := trivial
theorem top.tw4597200072644226624 : True := trivial
theorem top.tw4655869559712951663 : True := trivial
theorem top.tw4656485037274611717 : True := trivial
theorem top.tw4713442408853163898 : True := trivial
theorem top.tw4784893810139332661 : True := trivial
theorem top.tw4828031223510198475 : True := trivial
theorem top.tw4835499133494076262 : True := trivial
theorem top.tw4840481374290595910 : True := trivial
theorem top.tw4940147422707163885 : True := trivial
theorem top.tw4945492601562930671 : True := trivial
theorem top.tw501154541418245514 : True := trivial
theorem top.tw5058314954733539658 : True := trivial
theorem top.tw5088376156974544275 : True := trivial
theorem top.tw5118827330378232414 : True := trivial
theorem top.tw513902232445383129 : True := trivial
theorem top.tw5155950481276406077 : True := trivial
theorem top.tw517144808224063464 : True := trivial
theorem top.tw5186299589460371103 : True := trivial
theorem top.tw5244899138074338376 : True := trivial
theorem top.tw5278709424875269971 : True := trivial
theorem top.tw5303079699428457377 : True := trivial
theorem top.tw53344730913325255 : True := trivial
theorem top.tw5398424786039705171 : True := trivial
theorem top.tw5476889619067714990 : True := trivial
theorem top.tw5523086135645875356 : True := trivial
theorem top.tw5581607755468803823 : True := trivial
theorem top.tw5597187220613765494 : True := trivial
theorem top.tw5667650583090716360 : True := trivial
theorem top.tw5766051744304087583 : True := trivial
theorem top.tw5860347150701562758 : True := trivial
theorem top.tw5868845118606482295 : True := trivial
theorem top.tw5889316905344633881 : True := trivial
theorem top.tw5915399644114372684 : True := trivial
theorem top.tw5938664839603501006 : True := trivial
theorem top.tw594810645892935528 : True := trivial
theorem top.tw5969682004907312646 : True := trivial
theorem top.tw6042063481754889096 : True := trivial
theorem top.tw6058780594550047802 : True := trivial
theorem top.tw6176384092110617959 : True := trivial
theorem top.tw6187478851450931391 : True := trivial
theorem top.tw6196800358849779857 : True := trivial
theorem top.tw6240723676877644813 : True := trivial
theorem top.tw6333448901615975916 : True := trivial
theorem top.tw6370870915552960936 : True := trivial
theorem top.tw6430265229019958763 : True := trivial
theorem top.tw6438537300738474071 : True := trivial
theorem top.tw6487610083215253720 : True := trivial
theorem top.tw6491118196486620199 : True := trivial
theorem top.tw649594095290182367 : True := trivial
theorem top.tw6505410396798821541 : True := trivial
theorem top.tw6520327441239513222 : True := trivial
theorem top.tw6572447435987645144 : True := trivial
theorem top.tw6624316729101989866 : True := trivial
theorem top.tw6662652255960138227 : True := trivial
theorem top.tw6664487174759623829 : True := trivial
theorem top.tw6694047246710070196 : True := trivial
theorem top.tw6756868429301003459 : True := trivial
theorem top.tw6761616313442571491 : True := trivial
theorem top.tw6812286434817487243 : True := trivial
theorem top.tw6859976401760118174 : True := trivial
theorem top.tw6885214360128481674 : True := trivial
theorem top.tw6898770573198911631 : True := trivial
theorem top.tw6930518751129746686 : True := trivial
theorem top.tw7008692893051332821 : True := trivial
theorem top.tw705360758644809490 : True := trivial
theorem top.tw708234853630380328 : True := trivial
theorem top.tw7198060816514059695 : True := trivial
theorem top.tw7204493036743257322 : True := trivial
theorem top.tw72247145696351765 : True := trivial
theorem top.tw7250933059871147345 : True := trivial
theorem top.tw728428047077509346 : True := trivial
theorem top.tw7297446738713254254 : True := trivial
theorem top.tw7313339093194340965 : True := trivial
theorem top.tw7386116660499605909 : True := trivial
theorem top.tw7414872774492366064 : True := trivial
theorem top.tw7429413206186439793 : True := trivial
theorem top.tw7444641836354208208 : True := trivial
theorem top.tw7458633546980236471 : True := trivial
theorem top.tw7527032243904285869 : True := trivial
theorem top.tw7600245330811189008 : True := trivial
theorem top.tw76412952228603488 : True := trivial
theorem top.tw7652560490529028683 : True := trivial
theorem top.tw7673058066778466091 : True := trivial
theorem top.tw7715697345341360870 : True := trivial
theorem top.tw7743179893348639699 : True := trivial
theorem top.tw775762912060472103 : True := trivial
theorem top.tw7830913209206220567 : True := trivial
theorem top.tw7847352863974893604 : True := trivial
theorem top.tw7847650389618582240 : True := trivial
theorem top.tw795583310449317561 : True := trivial
theorem top.tw8139039716903228087 : True := trivial
theorem top.tw8140125068956082859 : True := trivial
theorem top.tw814325599930780420 : True := trivial
theorem top.tw8143265674769528471 : True := trivial
theorem top.tw8148004212497801138 : True := trivial
theorem top.tw81815255157605957 : True := trivial
theorem top.tw8204474986945543665 : True := trivial
theorem top.tw8237333600419904120 : True := trivial
theorem top.tw8265191368974092141 : True := trivial
theorem top.tw8311017846404947139 : True := trivial
theorem top.tw8321918168302905379 : True := trivial
theorem top.tw8345894832289464959 : True := trivial
theorem top.tw8435561252592420358 : True := trivial
theorem top.tw8443935842833279946 : True := trivial
theorem top.tw8472579005086612782 : True := trivial
theorem top.tw8507776931139520737 : True := trivial
theorem top.tw8523463495250067690 : True := trivial
theorem top.tw8538268897159353584 : True := trivial
theorem top.tw8598144960395782539 : True := trivial
theorem top.tw860223938195835975 : True := trivial
theorem top.tw8622502720953521162 : True := trivial
theorem top.tw8645369167282567922 : True := trivial
theorem top.tw864819663365544661 : True := trivial
theorem top.tw8657480035899644758 : True := trivial
theorem top.tw8689318265317240412 : True := trivial
theorem top.tw8694864300669457046 : True := trivial
theorem top.tw8729362747519067210 : True := trivial
theorem top.tw8735323631387419056 : True := trivial
theorem top.tw8810280945414196856 : True := trivial
theorem top.tw887695700811335699 : True := trivial
theorem top.tw8892184565913893157 : True := trivial
theorem top.tw8973803690348224638 : True := trivial
theorem top.tw9059672392935016618 : True := trivial
theorem top.tw9059832203979395877 : True := trivial
theorem top.tw9063741608606530840 : True := trivial
theorem top.tw908825868028484722 : True := trivial
theorem top.tw9108098604805947806 : True := trivial
theorem top.tw9165953624949470791 : True := trivial
theorem top.tw9166809390415177425 : True := trivial
theorem top.tw9227057690007400460 : True := trivial
theorem top.tw9229161468869434483 : True := trivial
theorem top.tw9233335307524088747 : True := trivial
theorem top.tw9259421805112917234 : True := trivial
theorem top.tw9272544492142499777 : True := trivial
theorem top.tw9335426496214029073 : True := trivial
theorem top.tw9366391650621772374 : True := trivial
theorem top.tw9442318146202087700 : True := trivial
theorem top.tw9503340733035011235 : True := trivial
theorem top.tw956942650209027819 : True := trivial
theorem top.tw9601329371697537090 : True := trivial
theorem top.tw9631074621892390191 : True := trivial
theorem top.tw9739860059890490050 : True := trivial
theorem top.tw9743097575036673082 : True := trivial
theorem top.tw9759319705405543751 : True := trivial
theorem top.tw9768079942903668216 : True := trivial
theorem top.tw9800703332001039478 : True := trivial
theorem top.tw9851269098105209369 : True := trivial
theorem top.tw987869383939708018 : True := trivial
theorem top.tw9919435345466941130 : True := trivial
theorem top.tw9951221954081769418 : True := trivial
theorem top.tw9953747333497923681 : True := trivial
theorem top.tw9961057766049560675 : True := trivial
theorem top.tw9962302188120564619 : True := trivial
set_option Elab.async true
theorem top : PySem.Challenge.rw_no0085_01.Holds := by
  (w_on; o_law; k_head; (case hw => w_witness2))
  refine law_walk _ (fun w h y => kIn_of y) (fun w => ?_) (fun w => ?_) _
  · refine ⟨all_mem ⟨⟨by kernel_rfl, by kernel_rfl, by kernel_rfl, by kernel_rfl, by kernel_rfl, by kernel_rfl, by kernel_rfl, by kernel_rfl⟩, ⟨by kernel_rfl, by kernel_rfl, by kernel_rfl, by kernel_rfl, by kernel_rfl, by kernel_rfl, by kernel_rfl, by kernel_rfl⟩, trivial⟩, all_mem (by repeat (first | exact trivial | refine ⟨by kernel_rfl, ?_⟩)),
      all_mem (by repeat (first | exact trivial | refine ⟨⟨by kernel_rfl, by kernel_rfl, by kernel_rfl⟩, ?_⟩)), all_mem (by repeat (first | exact trivial | refine ⟨⟨⟨_, _, _, _, _, _, _, rfl⟩, by kernel_rfl⟩, ?_⟩)), all_mem (by repeat (first | exact trivial | refine ⟨⟨⟨_, _, _, _, _, _, _, rfl⟩, by kernel_rfl⟩, ?_⟩)),
      globs_of (by repeat (first | exact trivial | refine ⟨⟨_, rfl, rfl⟩, ?_⟩ | refine ⟨⟨_, rfl, _, rfl⟩, ?_⟩)), all_mem (by repeat (first | exact trivial | refine ⟨by kernel_rfl, ?_⟩)), ⟨[_, _, _, _], _, rfl, .cons ⟨_, rfl⟩ (.cons ⟨_, rfl⟩ (.cons ⟨_, rfl⟩ (.cons ⟨_, rfl⟩ .nil)))⟩, ⟨[_, _, _, _], _, rfl, .cons ⟨_, rfl⟩ (.cons ⟨_, rfl⟩ (.cons ⟨_, rfl⟩ (.cons ⟨_, rfl⟩ .nil)))⟩⟩
  · exact ⟨⟨⟨_, _, _, _, _, _, _, _, _, _, _, _, _, rfl⟩, by kernel_rfl, by kernel_rfl, own_of rfl (by kernel_rfl) (by kernel_rfl) (by kernel_rfl) (by kernel_rfl)⟩, ⟨⟨_, _, _, _, _, _, _, _, _, _, _, _, _, rfl⟩, by kernel_rfl, by kernel_rfl, own_of rfl (by kernel_rfl) (by kernel_rfl) (by kernel_rfl) (by kernel_rfl)⟩⟩
end Mine
end
theorem PySem.Challenge.cw_no0085_01_holds : PySem.Challenge.rw_no0085_01.Holds :=
  Mine.top
