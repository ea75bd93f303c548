import PyProof.Rows.All
import Wide.All
import OpenK.AllK
import Wide.FinOn
import PySem.Challenge.RW_nt0611_03
set_option Elab.async false
set_option maxRecDepth 100000
set_option linter.unusedVariables false
set_option genInjectivity false
set_option genSizeOf false
set_option genSizeOfSpec false
set_option tactic.hygienic false
set_option backward.match.sparseCases false
section
namespace Mine
theorem xAA{p0 p1 P:Prop}(h:p0/\p1)(k:p0->p1->P):P:=k h.1 h.2
theorem xAAA{p0 p1 p2 P:Prop}(h:p0/\p1/\p2)(k:p0->p1->p2->P):P:=k h.1 h.2.1 h.2.2
theorem xAAAA{p0 p1 p2 p3 P:Prop}(h:p0/\p1/\p2/\p3)(k:p0->p1->p2->p3->P):P:=k h.1 h.2.1 h.2.2.1 h.2.2.2
theorem xAAAAA{p0 p1 p2 p3 p4 P:Prop}(h:p0/\p1/\p2/\p3/\p4)(k:p0->p1->p2->p3->p4->P):P:=k h.1 h.2.1 h.2.2.1 h.2.2.2.1 h.2.2.2.2
theorem xAAAAAA{p0 p1 p2 p3 p4 p5 P:Prop}(h:p0/\p1/\p2/\p3/\p4/\p5)(k:p0->p1->p2->p3->p4->p5->P):P:=k h.1 h.2.1 h.2.2.1 h.2.2.2.1 h.2.2.2.2.1 h.2.2.2.2.2
theorem xAAAAAAA{p0 p1 p2 p3 p4 p5 p6 P:Prop}(h:p0/\p1/\p2/\p3/\p4/\p5/\p6)(k:p0->p1->p2->p3->p4->p5->p6->P):P:=k h.1 h.2.1 h.2.2.1 h.2.2.2.1 h.2.2.2.2.1 h.2.2.2.2.2.1 h.2.2.2.2.2.2
theorem xAAAEA{U0:Sort _}{p0 p1 p2:Prop}{p4:U0->Prop}{P:Prop}(h:p0/\p1/\p2/\(∃ a0,p4 a0))(k:p0->p1->p2->∀ a0,p4 a0->P):P:=h.2.2.2.elim fun a0 g0=>k h.1 h.2.1 h.2.2.1 a0 g0
theorem xAAAEEAA{U0 U1:Sort _}{p0 p1 p2:Prop}{p5 p6:U0->U1->Prop}{P:Prop}(h:p0/\p1/\p2/\(∃ a0 a1,p5 a0 a1/\p6 a0 a1))(k:p0->p1->p2->∀ a0 a1,p5 a0 a1->p6 a0 a1->P):P:=h.2.2.2.elim fun a0 g0=>g0.elim fun a1 g1=>k h.1 h.2.1 h.2.2.1 a0 a1 g1.1 g1.2
theorem xAAEEAAA{U0 U1:Sort _}{p0 p1:Prop}{p4 p5 p6:U0->U1->Prop}{P:Prop}(h:p0/\p1/\(∃ a0 a1,p4 a0 a1/\p5 a0 a1/\p6 a0 a1))(k:p0->p1->∀ a0 a1,p4 a0 a1->p5 a0 a1->p6 a0 a1->P):P:=h.2.2.elim fun a0 g0=>g0.elim fun a1 g1=>k h.1 h.2.1 a0 a1 g1.1 g1.2.1 g1.2.2
theorem xAEAA{U0:Sort _}{p0:Prop}{p2 p3:U0->Prop}{P:Prop}(h:p0/\(∃ a0,p2 a0/\p3 a0))(k:p0->∀ a0,p2 a0->p3 a0->P):P:=h.2.elim fun a0 g0=>k h.1 a0 g0.1 g0.2
theorem xAEAAA{U0:Sort _}{p0:Prop}{p2 p3 p4:U0->Prop}{P:Prop}(h:p0/\(∃ a0,p2 a0/\p3 a0/\p4 a0))(k:p0->∀ a0,p2 a0->p3 a0->p4 a0->P):P:=h.2.elim fun a0 g0=>k h.1 a0 g0.1 g0.2.1 g0.2.2
theorem xAEAEEAA{U0 U1 U2:Sort _}{p0:Prop}{p2:U0->Prop}{p5 p6:U0->U1->U2->Prop}{P:Prop}(h:p0/\(∃ a0,p2 a0/\(∃ a1 a2,p5 a0 a1 a2/\p6 a0 a1 a2)))(k:p0->∀ a0,p2 a0->∀ a1 a2,p5 a0 a1 a2->p6 a0 a1 a2->P):P:=h.2.elim fun a0 g0=>g0.2.elim fun a1 g1=>g1.elim fun a2 g2=>k h.1 a0 g0.1 a1 a2 g2.1 g2.2
theorem xAEEA{U0 U1:Sort _}{p0:Prop}{p3:U0->U1->Prop}{P:Prop}(h:p0/\(∃ a0 a1,p3 a0 a1))(k:p0->∀ a0 a1,p3 a0 a1->P):P:=h.2.elim fun a0 g0=>g0.elim fun a1 g1=>k h.1 a0 a1 g1
theorem xAEEAAA{U0 U1:Sort _}{p0:Prop}{p3 p4 p5:U0->U1->Prop}{P:Prop}(h:p0/\(∃ a0 a1,p3 a0 a1/\p4 a0 a1/\p5 a0 a1))(k:p0->∀ a0 a1,p3 a0 a1->p4 a0 a1->p5 a0 a1->P):P:=h.2.elim fun a0 g0=>g0.elim fun a1 g1=>k h.1 a0 a1 g1.1 g1.2.1 g1.2.2
theorem xAEEAAAAA{U0 U1:Sort _}{p0:Prop}{p3 p4 p5 p6 p7:U0->U1->Prop}{P:Prop}(h:p0/\(∃ a0 a1,p3 a0 a1/\p4 a0 a1/\p5 a0 a1/\p6 a0 a1/\p7 a0 a1))(k:p0->∀ a0 a1,p3 a0 a1->p4 a0 a1->p5 a0 a1->p6 a0 a1->p7 a0 a1->P):P:=h.2.elim fun a0 g0=>g0.elim fun a1 g1=>k h.1 a0 a1 g1.1 g1.2.1 g1.2.2.1 g1.2.2.2.1 g1.2.2.2.2
theorem xEA{U0:Sort _}{p1:U0->Prop}{P:Prop}(h:∃ a0,p1 a0)(k:∀ a0,p1 a0->P):P:=h.elim fun a0 g0=>k a0 g0
theorem xEAA{U0:Sort _}{p1 p2:U0->Prop}{P:Prop}(h:∃ a0,p1 a0/\p2 a0)(k:∀ a0,p1 a0->p2 a0->P):P:=h.elim fun a0 g0=>k a0 g0.1 g0.2
theorem xEAAA{U0:Sort _}{p1 p2 p3:U0->Prop}{P:Prop}(h:∃ a0,p1 a0/\p2 a0/\p3 a0)(k:∀ a0,p1 a0->p2 a0->p3 a0->P):P:=h.elim fun a0 g0=>k a0 g0.1 g0.2.1 g0.2.2
theorem xEAAAA{U0:Sort _}{p1 p2 p3 p4:U0->Prop}{P:Prop}(h:∃ a0,p1 a0/\p2 a0/\p3 a0/\p4 a0)(k:∀ a0,p1 a0->p2 a0->p3 a0->p4 a0->P):P:=h.elim fun a0 g0=>k a0 g0.1 g0.2.1 g0.2.2.1 g0.2.2.2
theorem xEAAAAA{U0:Sort _}{p1 p2 p3 p4 p5:U0->Prop}{P:Prop}(h:∃ a0,p1 a0/\p2 a0/\p3 a0/\p4 a0/\p5 a0)(k:∀ a0,p1 a0->p2 a0->p3 a0->p4 a0->p5 a0->P):P:=h.elim fun a0 g0=>k a0 g0.1 g0.2.1 g0.2.2.1 g0.2.2.2.1 g0.2.2.2.2
theorem xEAAAAAA{U0:Sort _}{p1 p2 p3 p4 p5 p6:U0->Prop}{P:Prop}(h:∃ a0,p1 a0/\p2 a0/\p3 a0/\p4 a0/\p5 a0/\p6 a0)(k:∀ a0,p1 a0->p2 a0->p3 a0->p4 a0->p5 a0->p6 a0->P):P:=h.elim fun a0 g0=>k a0 g0.1 g0.2.1 g0.2.2.1 g0.2.2.2.1 g0.2.2.2.2.1 g0.2.2.2.2.2
theorem xEAAEA{U0 U1:Sort _}{p1 p2:U0->Prop}{p4:U0->U1->Prop}{P:Prop}(h:∃ a0,p1 a0/\p2 a0/\(∃ a1,p4 a0 a1))(k:∀ a0,p1 a0->p2 a0->∀ a1,p4 a0 a1->P):P:=h.elim fun a0 g0=>g0.2.2.elim fun a1 g1=>k a0 g0.1 g0.2.1 a1 g1
theorem xEAEAAA{U0 U1:Sort _}{p1:U0->Prop}{p3 p4 p5:U0->U1->Prop}{P:Prop}(h:∃ a0,p1 a0/\(∃ a1,p3 a0 a1/\p4 a0 a1/\p5 a0 a1))(k:∀ a0,p1 a0->∀ a1,p3 a0 a1->p4 a0 a1->p5 a0 a1->P):P:=h.elim fun a0 g0=>g0.2.elim fun a1 g1=>k a0 g0.1 a1 g1.1 g1.2.1 g1.2.2
theorem xEEA{U0 U1:Sort _}{p2:U0->U1->Prop}{P:Prop}(h:∃ a0 a1,p2 a0 a1)(k:∀ a0 a1,p2 a0 a1->P):P:=h.elim fun a0 g0=>g0.elim fun a1 g1=>k a0 a1 g1
theorem xEEAA{U0 U1:Sort _}{p2 p3:U0->U1->Prop}{P:Prop}(h:∃ a0 a1,p2 a0 a1/\p3 a0 a1)(k:∀ a0 a1,p2 a0 a1->p3 a0 a1->P):P:=h.elim fun a0 g0=>g0.elim fun a1 g1=>k a0 a1 g1.1 g1.2
theorem xEEAAA{U0 U1:Sort _}{p2 p3 p4:U0->U1->Prop}{P:Prop}(h:∃ a0 a1,p2 a0 a1/\p3 a0 a1/\p4 a0 a1)(k:∀ a0 a1,p2 a0 a1->p3 a0 a1->p4 a0 a1->P):P:=h.elim fun a0 g0=>g0.elim fun a1 g1=>k a0 a1 g1.1 g1.2.1 g1.2.2
theorem xEEAAAA{U0 U1:Sort _}{p2 p3 p4 p5:U0->U1->Prop}{P:Prop}(h:∃ a0 a1,p2 a0 a1/\p3 a0 a1/\p4 a0 a1/\p5 a0 a1)(k:∀ a0 a1,p2 a0 a1->p3 a0 a1->p4 a0 a1->p5 a0 a1->P):P:=h.elim fun a0 g0=>g0.elim fun a1 g1=>k a0 a1 g1.1 g1.2.1 g1.2.2.1 g1.2.2.2
theorem xEEAAAAA{U0 U1:Sort _}{p2 p3 p4 p5 p6:U0->U1->Prop}{P:Prop}(h:∃ a0 a1,p2 a0 a1/\p3 a0 a1/\p4 a0 a1/\p5 a0 a1/\p6 a0 a1)(k:∀ a0 a1,p2 a0 a1->p3 a0 a1->p4 a0 a1->p5 a0 a1->p6 a0 a1->P):P:=h.elim fun a0 g0=>g0.elim fun a1 g1=>k a0 a1 g1.1 g1.2.1 g1.2.2.1 g1.2.2.2.1 g1.2.2.2.2
theorem xEEAAAAAA{U0 U1:Sort _}{p2 p3 p4 p5 p6 p7:U0->U1->Prop}{P:Prop}(h:∃ a0 a1,p2 a0 a1/\p3 a0 a1/\p4 a0 a1/\p5 a0 a1/\p6 a0 a1/\p7 a0 a1)(k:∀ a0 a1,p2 a0 a1->p3 a0 a1->p4 a0 a1->p5 a0 a1->p6 a0 a1->p7 a0 a1->P):P:=h.elim fun a0 g0=>g0.elim fun a1 g1=>k a0 a1 g1.1 g1.2.1 g1.2.2.1 g1.2.2.2.1 g1.2.2.2.2.1 g1.2.2.2.2.2
theorem xEEEA{U0 U1 U2:Sort _}{p3:U0->U1->U2->Prop}{P:Prop}(h:∃ a0 a1 a2,p3 a0 a1 a2)(k:∀ a0 a1 a2,p3 a0 a1 a2->P):P:=h.elim fun a0 g0=>g0.elim fun a1 g1=>g1.elim fun a2 g2=>k a0 a1 a2 g2
theorem xEEEAA{U0 U1 U2:Sort _}{p3 p4:U0->U1->U2->Prop}{P:Prop}(h:∃ a0 a1 a2,p3 a0 a1 a2/\p4 a0 a1 a2)(k:∀ a0 a1 a2,p3 a0 a1 a2->p4 a0 a1 a2->P):P:=h.elim fun a0 g0=>g0.elim fun a1 g1=>g1.elim fun a2 g2=>k a0 a1 a2 g2.1 g2.2
theorem xEEEAAA{U0 U1 U2:Sort _}{p3 p4 p5:U0->U1->U2->Prop}{P:Prop}(h:∃ a0 a1 a2,p3 a0 a1 a2/\p4 a0 a1 a2/\p5 a0 a1 a2)(k:∀ a0 a1 a2,p3 a0 a1 a2->p4 a0 a1 a2->p5 a0 a1 a2->P):P:=h.elim fun a0 g0=>g0.elim fun a1 g1=>g1.elim fun a2 g2=>k a0 a1 a2 g2.1 g2.2.1 g2.2.2
theorem xEEEAAAA{U0 U1 U2:Sort _}{p3 p4 p5 p6:U0->U1->U2->Prop}{P:Prop}(h:∃ a0 a1 a2,p3 a0 a1 a2/\p4 a0 a1 a2/\p5 a0 a1 a2/\p6 a0 a1 a2)(k:∀ a0 a1 a2,p3 a0 a1 a2->p4 a0 a1 a2->p5 a0 a1 a2->p6 a0 a1 a2->P):P:=h.elim fun a0 g0=>g0.elim fun a1 g1=>g1.elim fun a2 g2=>k a0 a1 a2 g2.1 g2.2.1 g2.2.2.1 g2.2.2.2
theorem xEEEAAAAA{U0 U1 U2:Sort _}{p3 p4 p5 p6 p7:U0->U1->U2->Prop}{P:Prop}(h:∃ a0 a1 a2,p3 a0 a1 a2/\p4 a0 a1 a2/\p5 a0 a1 a2/\p6 a0 a1 a2/\p7 a0 a1 a2)(k:∀ a0 a1 a2,p3 a0 a1 a2->p4 a0 a1 a2->p5 a0 a1 a2->p6 a0 a1 a2->p7 a0 a1 a2->P):P:=h.elim fun a0 g0=>g0.elim fun a1 g1=>g1.elim fun a2 g2=>k a0 a1 a2 g2.1 g2.2.1 g2.2.2.1 g2.2.2.2.1 g2.2.2.2.2
theorem xEEEAAAAAA{U0 U1 U2:Sort _}{p3 p4 p5 p6 p7 p8:U0->U1->U2->Prop}{P:Prop}(h:∃ a0 a1 a2,p3 a0 a1 a2/\p4 a0 a1 a2/\p5 a0 a1 a2/\p6 a0 a1 a2/\p7 a0 a1 a2/\p8 a0 a1 a2)(k:∀ a0 a1 a2,p3 a0 a1 a2->p4 a0 a1 a2->p5 a0 a1 a2->p6 a0 a1 a2->p7 a0 a1 a2->p8 a0 a1 a2->P):P:=h.elim fun a0 g0=>g0.elim fun a1 g1=>g1.elim fun a2 g2=>k a0 a1 a2 g2.1 g2.2.1 g2.2.2.1 g2.2.2.2.1 g2.2.2.2.2.1 g2.2.2.2.2.2
theorem xEEEAAAAAAAAA{U0 U1 U2:Sort _}{p3 p4 p5 p6 p7 p8 p9 p10 p11:U0->U1->U2->Prop}{P:Prop}(h:∃ a0 a1 a2,p3 a0 a1 a2/\p4 a0 a1 a2/\p5 a0 a1 a2/\p6 a0 a1 a2/\p7 a0 a1 a2/\p8 a0 a1 a2/\p9 a0 a1 a2/\p10 a0 a1 a2/\p11 a0 a1 a2)(k:∀ a0 a1 a2,p3 a0 a1 a2->p4 a0 a1 a2->p5 a0 a1 a2->p6 a0 a1 a2->p7 a0 a1 a2->p8 a0 a1 a2->p9 a0 a1 a2->p10 a0 a1 a2->p11 a0 a1 a2->P):P:=h.elim fun a0 g0=>g0.elim fun a1 g1=>g1.elim fun a2 g2=>k a0 a1 a2 g2.1 g2.2.1 g2.2.2.1 g2.2.2.2.1 g2.2.2.2.2.1 g2.2.2.2.2.2.1 g2.2.2.2.2.2.2.1 g2.2.2.2.2.2.2.2.1 g2.2.2.2.2.2.2.2.2
theorem xEEEEAA{U0 U1 U2 U3:Sort _}{p4 p5:U0->U1->U2->U3->Prop}{P:Prop}(h:∃ a0 a1 a2 a3,p4 a0 a1 a2 a3/\p5 a0 a1 a2 a3)(k:∀ a0 a1 a2 a3,p4 a0 a1 a2 a3->p5 a0 a1 a2 a3->P):P:=h.elim fun a0 g0=>g0.elim fun a1 g1=>g1.elim fun a2 g2=>g2.elim fun a3 g3=>k a0 a1 a2 a3 g3.1 g3.2
theorem xEEEEAAAA{U0 U1 U2 U3:Sort _}{p4 p5 p6 p7:U0->U1->U2->U3->Prop}{P:Prop}(h:∃ a0 a1 a2 a3,p4 a0 a1 a2 a3/\p5 a0 a1 a2 a3/\p6 a0 a1 a2 a3/\p7 a0 a1 a2 a3)(k:∀ a0 a1 a2 a3,p4 a0 a1 a2 a3->p5 a0 a1 a2 a3->p6 a0 a1 a2 a3->p7 a0 a1 a2 a3->P):P:=h.elim fun a0 g0=>g0.elim fun a1 g1=>g1.elim fun a2 g2=>g2.elim fun a3 g3=>k a0 a1 a2 a3 g3.1 g3.2.1 g3.2.2.1 g3.2.2.2
theorem xEEEEAAAAA{U0 U1 U2 U3:Sort _}{p4 p5 p6 p7 p8:U0->U1->U2->U3->Prop}{P:Prop}(h:∃ a0 a1 a2 a3,p4 a0 a1 a2 a3/\p5 a0 a1 a2 a3/\p6 a0 a1 a2 a3/\p7 a0 a1 a2 a3/\p8 a0 a1 a2 a3)(k:∀ a0 a1 a2 a3,p4 a0 a1 a2 a3->p5 a0 a1 a2 a3->p6 a0 a1 a2 a3->p7 a0 a1 a2 a3->p8 a0 a1 a2 a3->P):P:=h.elim fun a0 g0=>g0.elim fun a1 g1=>g1.elim fun a2 g2=>g2.elim fun a3 g3=>k a0 a1 a2 a3 g3.1 g3.2.1 g3.2.2.1 g3.2.2.2.1 g3.2.2.2.2
theorem xEEEEAAAAAA{U0 U1 U2 U3:Sort _}{p4 p5 p6 p7 p8 p9:U0->U1->U2->U3->Prop}{P:Prop}(h:∃ a0 a1 a2 a3,p4 a0 a1 a2 a3/\p5 a0 a1 a2 a3/\p6 a0 a1 a2 a3/\p7 a0 a1 a2 a3/\p8 a0 a1 a2 a3/\p9 a0 a1 a2 a3)(k:∀ a0 a1 a2 a3,p4 a0 a1 a2 a3->p5 a0 a1 a2 a3->p6 a0 a1 a2 a3->p7 a0 a1 a2 a3->p8 a0 a1 a2 a3->p9 a0 a1 a2 a3->P):P:=h.elim fun a0 g0=>g0.elim fun a1 g1=>g1.elim fun a2 g2=>g2.elim fun a3 g3=>k a0 a1 a2 a3 g3.1 g3.2.1 g3.2.2.1 g3.2.2.2.1 g3.2.2.2.2.1 g3.2.2.2.2.2
theorem xEEEEAAAAAAA{U0 U1 U2 U3:Sort _}{p4 p5 p6 p7 p8 p9 p10:U0->U1->U2->U3->Prop}{P:Prop}(h:∃ a0 a1 a2 a3,p4 a0 a1 a2 a3/\p5 a0 a1 a2 a3/\p6 a0 a1 a2 a3/\p7 a0 a1 a2 a3/\p8 a0 a1 a2 a3/\p9 a0 a1 a2 a3/\p10 a0 a1 a2 a3)(k:∀ a0 a1 a2 a3,p4 a0 a1 a2 a3->p5 a0 a1 a2 a3->p6 a0 a1 a2 a3->p7 a0 a1 a2 a3->p8 a0 a1 a2 a3->p9 a0 a1 a2 a3->p10 a0 a1 a2 a3->P):P:=h.elim fun a0 g0=>g0.elim fun a1 g1=>g1.elim fun a2 g2=>g2.elim fun a3 g3=>k a0 a1 a2 a3 g3.1 g3.2.1 g3.2.2.1 g3.2.2.2.1 g3.2.2.2.2.1 g3.2.2.2.2.2.1 g3.2.2.2.2.2.2
theorem xEEEEAAAAAAAA{U0 U1 U2 U3:Sort _}{p4 p5 p6 p7 p8 p9 p10 p11:U0->U1->U2->U3->Prop}{P:Prop}(h:∃ a0 a1 a2 a3,p4 a0 a1 a2 a3/\p5 a0 a1 a2 a3/\p6 a0 a1 a2 a3/\p7 a0 a1 a2 a3/\p8 a0 a1 a2 a3/\p9 a0 a1 a2 a3/\p10 a0 a1 a2 a3/\p11 a0 a1 a2 a3)(k:∀ a0 a1 a2 a3,p4 a0 a1 a2 a3->p5 a0 a1 a2 a3->p6 a0 a1 a2 a3->p7 a0 a1 a2 a3->p8 a0 a1 a2 a3->p9 a0 a1 a2 a3->p10 a0 a1 a2 a3->p11 a0 a1 a2 a3->P):P:=h.elim fun a0 g0=>g0.elim fun a1 g1=>g1.elim fun a2 g2=>g2.elim fun a3 g3=>k a0 a1 a2 a3 g3.1 g3.2.1 g3.2.2.1 g3.2.2.2.1 g3.2.2.2.2.1 g3.2.2.2.2.2.1 g3.2.2.2.2.2.2.1 g3.2.2.2.2.2.2.2
theorem xEEEEEAAAA{U0 U1 U2 U3 U4:Sort _}{p5 p6 p7 p8:U0->U1->U2->U3->U4->Prop}{P:Prop}(h:∃ a0 a1 a2 a3 a4,p5 a0 a1 a2 a3 a4/\p6 a0 a1 a2 a3 a4/\p7 a0 a1 a2 a3 a4/\p8 a0 a1 a2 a3 a4)(k:∀ a0 a1 a2 a3 a4,p5 a0 a1 a2 a3 a4->p6 a0 a1 a2 a3 a4->p7 a0 a1 a2 a3 a4->p8 a0 a1 a2 a3 a4->P):P:=h.elim fun a0 g0=>g0.elim fun a1 g1=>g1.elim fun a2 g2=>g2.elim fun a3 g3=>g3.elim fun a4 g4=>k a0 a1 a2 a3 a4 g4.1 g4.2.1 g4.2.2.1 g4.2.2.2
theorem xEEEEEAAAAA{U0 U1 U2 U3 U4:Sort _}{p5 p6 p7 p8 p9:U0->U1->U2->U3->U4->Prop}{P:Prop}(h:∃ a0 a1 a2 a3 a4,p5 a0 a1 a2 a3 a4/\p6 a0 a1 a2 a3 a4/\p7 a0 a1 a2 a3 a4/\p8 a0 a1 a2 a3 a4/\p9 a0 a1 a2 a3 a4)(k:∀ a0 a1 a2 a3 a4,p5 a0 a1 a2 a3 a4->p6 a0 a1 a2 a3 a4->p7 a0 a1 a2 a3 a4->p8 a0 a1 a2 a3 a4->p9 a0 a1 a2 a3 a4->P):P:=h.elim fun a0 g0=>g0.elim fun a1 g1=>g1.elim fun a2 g2=>g2.elim fun a3 g3=>g3.elim fun a4 g4=>k a0 a1 a2 a3 a4 g4.1 g4.2.1 g4.2.2.1 g4.2.2.2.1 g4.2.2.2.2
theorem om0{a b:Nat}(h0:((a+3)<b)):(a<b):=Nat.lt_of_add_right_lt h0
theorem om1{a b:Nat}(h0:((a+3)<b)):((a+1)<b):=Nat.lt_of_succ_lt (Nat.lt_of_succ_lt h0)
theorem om2{a b:Nat}(h0:(((a+1)+1)<=(b+1))):((a+1)<=b):=Nat.le_of_lt_succ h0
theorem om3{a b:Nat}(h0:(0<a))(h1:(b=a)):(0<((a:Nat):Int)):=Int.natCast_pos.mpr h0
theorem om4{a:Nat}(h0:((a+1)<5000)):(a<5000):=Nat.lt_of_succ_lt h0
theorem om5{a b:Nat}(h0:((a+1)<b)):(a<b):=Nat.lt_of_succ_lt h0
theorem om6{a b:Nat}(h0:((a+1)<(b+1))):(a<b):=Nat.succ_lt_succ_iff.mp h0
theorem om7{a b:Nat}(h0:((a+3)<b)):((a+2)<b):=Nat.lt_of_succ_lt h0
theorem om8{a:Nat}(h0:(a<=0)):(a=0):=Nat.eq_zero_of_le_zero h0
theorem om9{a b c:Nat}(h0:(c<=b))(h1:(a<=c)):(a<=b):=Nat.le_trans h1 h0
theorem om10{a b c:Nat}(h0:((a+1)<c))(h1:(b<=1)):((a+b)<=c):=Nat.le_trans (Nat.add_le_add_left h1 a) (Nat.le_of_lt h0)
theorem om11{a b:Nat}(h0:((a+1)<b)):((a+1)<=b):=Nat.le_of_succ_le h0
theorem om12{a b:Nat}(h0:(((a+1)+1)<=(b+1))):(a<=b):=Nat.le_of_succ_le (Nat.le_of_succ_le_succ h0)
theorem om13{a b:Nat}:((a+1)<=(a+(b+1))):=Nat.succ_le_succ (Nat.le_add_right a b)
theorem om14{a b c:Nat}(h0:(b<=c))(h1:(a<=1)):((a+b)<=(c+1)):=Nat.add_comm c 1▸Nat.add_le_add h1 h0
theorem om15{a b c:Nat}(h0:(c<=b))(h1:(a=c)):(a<=b):=le_of_eq_of_le h1 h0
theorem om16{a:Nat}:(a<=(a+1)):=Nat.le_add_right a 1
theorem om17{a:Nat}(h0:((a+1)<5000)):(a<1000000):=Nat.lt_of_lt_of_le (Nat.lt_of_succ_lt h0) (by decide)
theorem om18{a:Nat}:(((2*a)+1)=(1+(2*a))):=Nat.add_comm (2*a) 1
theorem om19{a:Int}:(((a+1)-1)=a):=Int.add_sub_cancel a 1
theorem om20{a:Nat}(h0:(a=10)):(a<1114112):=by subst h0;decide
theorem om21{a:Nat}:(((((((a=14)\/(a=15))\/(a=16))\/(a=17))\/(a=18))\/(a=19))->((((¬(a=0))/\(¬(a=1)))/\(¬(a=2)))/\((4<=a)->(10<a)))):=fun h=>by rcases h with ((((h|h)|h)|h)|h)|h <;> subst h <;> decide
theorem om22{a:Nat}(h0:(a<5000)):((a-0)<5000):=Nat.sub_lt_of_lt h0
theorem om23{a:Nat}(h0:(a<1000)):(a<5000):=Nat.lt_of_lt_of_le h0 (by decide)
theorem om24{a b:Nat}:(a<=(a+b)):=Nat.le_add_right a b
theorem om25{a b:Nat}(h0:((b-a)=0))(h1:(a<=b)):(a=b):=Nat.le_antisymm h1 (Nat.le_of_sub_eq_zero h0)
theorem om26{a b c:Nat}(h0:((b-a)=(c+1)))(h1:(a<=b)):(a<b):=Nat.lt_of_sub_eq_succ h0
theorem om30{a b c:Nat}(h0:(c<=b))(h1:(a<=(3*c))):(a<=(3*b)):=Nat.le_trans h1 (Nat.mul_le_mul_left 3 h0)
theorem om31{a b c:Nat}(h0:(c<=(3*b)))(h1:(a<=(c+1))):(a<=(3*(b+1))):=Nat.le_trans h1 (Nat.add_le_add h0 (by decide:1<=3))
theorem om32{a b c d:Nat}(h0:(c<=(d+1)))(h1:(d<=(3*b)))(h2:(a<=(c+2))):(a<=(3*(b+1))):=Nat.le_trans h2 (Nat.le_trans (Nat.add_le_add_right h0 2) (Nat.add_le_add_right h1 3))
theorem om33{a b:Nat}(h0:(b<=1)):((a+b)<=(a+1)):=Nat.add_le_add_iff_left.mpr h0
theorem om37{a b:Int}(h0:(b<a)):(0<=((a-b)-1)):=Int.le_sub_one_of_lt (Int.sub_pos_of_lt h0)
theorem om38{a:Nat}(h0:(a<=16)):(a<=1000000):=Nat.le_trans h0 (by decide)
theorem om40{a b:Nat}(h0:((a+2)<b)):((a+1)<b):=Nat.lt_of_succ_lt h0
theorem om41{a b:Nat}(h0:(a<=b))(h1:(b<=16)):((4*a)<=140):=Nat.le_trans (Nat.mul_le_mul_left 4 (Nat.le_trans h0 h1)) (by decide)
theorem om42{a b:Nat}(h0:((a+1)<b)):((a+1)<b):=h0
theorem om44{a:Nat}{b:Int}(h0:(b=((a:Nat):Int)))(h1:(b=0)):(a<2):=Int.ofNat_lt.mp (h0▸h1▸by decide)
theorem om45{a:Nat}{b:Int}(h0:(b=((a:Nat):Int)))(h1:(b<=1)):(a<2):=Int.ofNat_lt.mp (h0▸Int.lt_of_le_of_lt h1 (by decide))
theorem om46{a b:Nat}(h0:(b<=1500))(h1:(a<=(3*b))):((a+3)<1000000):=Nat.lt_of_le_of_lt (Nat.add_le_add_right (Nat.le_trans h1 (Nat.mul_le_mul_left 3 h0)) 3) (by decide)
theorem om47{a b c:Nat}(h0:((c+(b+1))<=1500)):((a+1)<=(a+(b+1))):=Nat.succ_le_succ (Nat.le_add_right a b)
theorem om48{a b:Nat}:(((a+1)+b)<=(a+(b+1))):=Nat.le_of_eq (Nat.succ_add a b)
theorem om49{a b:Nat}(h0:(a<b)):(a<=b):=Nat.le_of_succ_le h0
theorem om50{a b c d e:Nat}(h0:(c<=b))(h1:(d<=e))(h2:(d=a))(h3:(e=c)):(a<=b):=h2▸Nat.le_trans h1 (h3▸h0)
theorem om51{a b:Nat}(h0:(a<b)):(((a:Nat):Int)<((b:Nat):Int)):=Int.ofNat_lt.mpr h0
theorem om52{a b:Nat}(h0:(¬(a<b))):(¬(((a:Nat):Int)<((b:Nat):Int))):=fun q=>h0 (Int.ofNat_lt.mp q)
theorem om53{a:Int}{b c:Nat}(h0:(0<c))(h1:(b=c))(h2:(a<((c:Nat):Int))):((Int.toNat a)<b):=h1▸(Int.toNat_lt' h0).mpr h2
theorem om54{a:Nat}{b:Int}{c:Nat}(h0:((b<0)/\((0<=(b+((a:Nat):Int)))/\(c=(Int.toNat (b+((a:Nat):Int))))))):((-((a:Nat):Int))<=b):=by omega
theorem om55{a:Int}:(((a-1)+1)=a):=Int.sub_add_cancel a 1
theorem om56{a:Int}:(a=((a+1)-1)):=Eq.symm (Int.add_sub_cancel a 1)
theorem om57{a b:Nat}(h0:(a<b))(h1:(b<=10)):((a-0)<5000):=Nat.lt_of_lt_of_le h0 (Nat.le_trans h1 (by decide))
theorem om58{a b c:Nat}(h0:(c<b))(h1:(a<c)):(a<b):=Nat.lt_trans h1 h0
theorem om300{a b:Nat}:((Int.toNat (max 0 (min ((a:Nat):Int) ((b:Nat):Int))))=(min a b)):=(Nat.le_total a b).elim (fun h=>by rw [Int.min_eq_left (Int.ofNat_le.mpr h),Nat.min_eq_left h,Int.max_eq_right (Int.natCast_nonneg _)];rfl) fun h=>by rw [Int.min_eq_right (Int.ofNat_le.mpr h),Nat.min_eq_right h,Int.max_eq_right (Int.natCast_nonneg _)];rfl
theorem om302{a b c d:Nat}(h0:(a<=d))(h1:((min d c)=d))(h2:(b<=(c-d))):((a+b)<=c):=Nat.le_trans (Nat.add_le_add h0 h2) (Nat.le_of_eq (Nat.add_sub_cancel' (h1▸Nat.min_le_right d c)))
theorem om303{a b c:Nat}(h0:(1<=b))(h1:((min b (c-a))=b)):((a+b)<=c):=Nat.add_le_of_le_sub' (Nat.le_of_lt (Nat.lt_of_sub_pos (Nat.lt_of_lt_of_le h0 (h1▸Nat.min_le_right b (c-a))))) (h1▸Nat.min_le_right b (c-a))
theorem om304{a b c d e:Nat}(h0:((c<=15)/\(0<c)))(h1:(d=c))(h2:(e=c))(h3:(a<=(0+e)))(h4:(e=c))(h5:(b=1000000)):(a<=b):=h5▸Nat.le_trans (Nat.zero_add e▸h3) (h2▸Nat.le_trans h0.1 (by decide))
theorem om305{a b c:Nat}(h0:(a<=(c+5)))(h1:(((c+(8*(b+1)))+200)<9900)):((((a+3)+(8*b))+200)<9900):=Nat.lt_of_le_of_lt (Nat.add_le_add_right (Nat.le_trans (Nat.add_le_add_right (Nat.add_le_add_right h0 3) (8*b)) (Nat.le_of_eq (Nat.add_right_comm c 8 (8*b)))) 200) h1
theorem om306{a b c:Nat}(h0:(a=(c+1)))(h1:(((c+(2*(b+1)))+2)<1000)):((((a+1)+(2*b))+2)<1000):=by subst h0;exact Nat.lt_of_le_of_lt (Nat.add_le_add_right (Nat.le_of_eq (Nat.add_right_comm c 2 (2*b))) 2) h1
theorem om307{a b:Nat}{c:Int}(h0:(((a:Nat):Int)=(max 0 (min c ((b:Nat):Int))))):(a<=b):=Int.ofNat_le.mp (h0▸Int.max_le.mpr ⟨Int.natCast_nonneg b,Int.min_le_right c b⟩)
theorem om308{a:Nat}:((Int.toNat ((-1)+(((a:Nat):Int)+2)))=(a+1)):=by rw [show (a:Int)+2=((a+1:Nat):Int)+1 from rfl,Int.add_comm,Int.add_neg_cancel_right];rfl
theorem om309{a b c d e:Nat}(h0:((b+c)<=16))(h1:(d<=b))(h2:(e<=c))(h3:(a<=(4*e))):(a<5000):=Nat.lt_of_le_of_lt (Nat.le_trans h3 (Nat.mul_le_mul_left 4 (Nat.le_trans h2 (Nat.le_trans (Nat.le_add_left _ _) h0)))) (by decide)
theorem om310{a:Nat}:((Int.toNat ((-2)+(((a:Nat):Int)+2)))=a):=by rw [Int.add_comm,Int.add_neg_cancel_right];rfl
theorem om311{a:Nat}:((Int.toNat ((-1)+(((a+1):Nat):Int)))=a):=by rw [Int.add_comm,show ((a+1:Nat):Int)=(a:Int)+1 from rfl,Int.add_neg_cancel_right];rfl
theorem om312{a b c d e:Nat}(h0:((a+c)<5000))(h1:(d<c))(h2:(b<=e))(h3:(e<=d)):((a+b)<1000000):=Nat.lt_trans (Nat.lt_of_le_of_lt (Nat.add_le_add_left (Nat.le_of_lt (Nat.lt_of_le_of_lt (Nat.le_trans h2 h3) h1)) a) h0) (by decide)
theorem om313{a b c d:Nat}(h0:((c+d)<=16))(h1:(a<=c))(h2:(b<=d)):(((4*a)+(4*b))<=1500):=Nat.le_trans (Nat.le_of_eq (Nat.mul_add 4 a b).symm) (Nat.le_trans (Nat.mul_le_mul_left 4 (Nat.le_trans (Nat.add_le_add h1 h2) h0)) (by decide))
theorem om314{a b:Nat}(h0:(((a+(8*(b+1)))+200)<9900)):((((a+3)+(8*b))+200)<9900):=Nat.lt_of_le_of_lt (Nat.add_le_add_right (Nat.le_trans (Nat.le_of_eq (Nat.add_right_comm a 3 (8*b))) (Nat.add_le_add_left (show 3<=8 by decide) (a+8*b))) 200) h0
theorem om315{a b:Int}{c:Nat}{d:Int}(h0:(((Int.natAbs b)<=c)/\(((Int.natAbs d)<=c)/\((0<a)/\(a<=((c:Nat):Int))))))(h1:(c=1000000)):((Int.natAbs a)<=4000000):=Int.ofNat_le.mp (by rw [Int.natAbs_of_nonneg (Int.le_of_lt h0.2.2.1)];exact Int.le_trans h0.2.2.2 (by rw [h1];decide))
theorem om316{a b:Nat}(h0:(((a+(2*(b+1)))+2)<1000)):((a+1)<1000):=Nat.lt_of_le_of_lt (Nat.succ_le_succ (Nat.le_trans (Nat.le_add_right a (2*(b+1))) (Nat.le_succ _))) h0
theorem om317{a b:Int}{c:Nat}{d:Int}(h0:(((Int.natAbs b)<=c)/\(((Int.natAbs d)<=c)/\((0<a)/\(a<=((c:Nat):Int))))))(h1:(c=1000000)):((Int.natAbs a)<1073741824):=Int.ofNat_lt.mp (by rw [Int.natAbs_of_nonneg (Int.le_of_lt h0.2.2.1)];exact Int.lt_of_le_of_lt h0.2.2.2 (by rw [h1];decide))
theorem om318{a b:Nat}(h0:(((a+(2*(b+1)))+2)<1000)):((((a+1)+(2*b))+2)<1000):=Nat.lt_of_le_of_lt (Nat.add_le_add_right (Nat.le_trans (Nat.le_of_eq (Nat.add_right_comm a 1 (2*b))) (Nat.le_succ _)) 2) h0
theorem om319{a b c:Nat}(h0:((b+(c+1))<=150))(h1:(a<=(3*b))):((a+2)<1000000):=Nat.lt_of_le_of_lt (Nat.add_le_add_right (Nat.le_trans h1 (Nat.mul_le_mul_left 3 (Nat.le_trans (Nat.le_add_right _ _) h0))) 2) (by decide)
theorem om320{a b c:Nat}(h0:(b<=c))(h1:(c<=16))(h2:(a<=((4*b)+4))):(a<5000):=Nat.lt_of_le_of_lt (Nat.le_trans h2 (Nat.add_le_add_right (Nat.mul_le_mul_left 4 (Nat.le_trans h0 h1)) 4)) (by decide)
theorem om321{a b c:Nat}(h0:((b+(c+1))<=150))(h1:(a<=(3*b))):((a+3)<1000000):=Nat.lt_of_le_of_lt (Nat.add_le_add_right (Nat.le_trans h1 (Nat.mul_le_mul_left 3 (Nat.le_trans (Nat.le_add_right _ _) h0))) 3) (by decide)
theorem om322{a b c:Nat}(h0:(b<=c))(h1:(c<=16))(h2:(a<b)):((4*a)<=140):=Nat.le_trans (Nat.mul_le_mul_left 4 (Nat.le_of_lt (Nat.lt_of_lt_of_le h2 (Nat.le_trans h0 h1)))) (by decide)
theorem om324{a b:Nat}(h0:(((a+(8*b))+200)<9900)):((a+65)<9900):=Nat.lt_of_le_of_lt (Nat.add_le_add (Nat.le_add_right a (8*b)) (show 65<=200 by decide)) h0
theorem om325{a b:Nat}(h0:(((a+(2*(b+1)))+2)<1000)):(a<1000):=Nat.lt_of_le_of_lt (Nat.le_trans (Nat.le_add_right a (2*(b+1))) (Nat.le_add_right _ 2)) h0
theorem om326{a:Int}(h0:((0<=a)/\(a<=2000001))):((Int.natAbs a)<=4000000):=Int.ofNat_le.mp (by rw [Int.natAbs_of_nonneg h0.1];exact Int.le_trans h0.2 (by decide))
theorem om328{a:Nat}(h0:(a<190))(h1:(¬(0<a))):(¬(1<(((1+(2*a)):Nat):Int))):=by rw [Nat.eq_zero_of_not_pos h1];decide
theorem om329{a:Int}{b:Nat}(h0:(¬(0<=a)))(h1:(0<=(a+((b:Nat):Int)))):((Int.toNat (a+((b:Nat):Int)))<b):=(Int.toNat_lt h1).mpr (by have q:=Int.add_lt_add_right (Int.not_le.mp h0) b;rwa [Int.zero_add] at q)
theorem om332{a:Nat}(h0:(a<1000)):(((1+(2*a))+2)<1000000):=Nat.lt_of_le_of_lt (Nat.add_le_add_right (Nat.add_le_add_left (Nat.mul_le_mul_left 2 (Nat.le_of_lt h0)) 1) 2) (by decide)
theorem om335{a b:Nat}:(((2*((a:Nat):Int))+1)≠((2*((((a+1)+b):Nat):Int))+1)):=fun q=>Nat.ne_of_lt (Nat.lt_of_lt_of_le (Nat.lt_succ_self a) (Nat.le_add_right _ b)) (Nat.eq_of_mul_eq_mul_left (by decide) (Nat.succ.inj (Int.ofNat.inj q)))
theorem om336{a:Nat}{b:Int}{c d:Nat}(h0:(a=c))(h1:((b<0)/\((0<=(b+((c:Nat):Int)))/\(d=(Int.toNat (b+((c:Nat):Int))))))):((-((a:Nat):Int))<=b):=h0▸Int.le_of_sub_nonneg (by rw [Int.sub_neg];exact h1.2.1)
end Mine
end
section
open PySem
namespace Mine
inductive Bi where
 | len | range | list | tuple | ord | chr
inductive Mi where
 | join | find | replace | append | extend | pop | get | update
noncomputable abbrev ob{α β:Type}(x:Option α)(f:α->β)(z:β):β:=match x with
 | some a=>f a
 | none=>z
inductive V where
 | none | bool (b:Bool) | int (i:Int) | str (s:Str)
 | tup (vs:List V) | lst (vs:List V) | rng (a b c:Int) | ref (r i:Nat) | fn (a:Addr) | bi (n:Bi)
 deriving Inhabited
inductive Ob where
 | list (vs:List V) | dict (es:List (Str×V)) | inst (c:Addr) (es:List (Str×V))
 deriving Inhabited
noncomputable abbrev Store:=List (List Ob)
noncomputable abbrev Fr:=List (Str×V)
noncomputable abbrev Y:String->Str:=Str.ofString
noncomputable abbrev Qa:Str:=Y ""
noncomputable abbrev Qb:Str:=Y "note"
noncomputable abbrev Qc:Str:=Y "text"
noncomputable abbrev Qd:Str:=Y "t"
noncomputable abbrev Qe:Str:=Y "self"
noncomputable abbrev Qf:Str:=Y "c"
noncomputable abbrev Qg:Str:=Y "sign"
noncomputable abbrev Qh:Str:=Y "table"
noncomputable abbrev Qi:Str:=Y "last"
noncomputable abbrev Qj:Str:=Y "script"
noncomputable abbrev Qk:Str:=Y "first"
noncomputable abbrev Ql:Str:=Y "begun"
noncomputable abbrev Qm:Str:=Y "snaps"
noncomputable abbrev Qn:Str:=Y "states"
noncomputable abbrev Qo:Str:=Y "pieces"
noncomputable abbrev Qp:Str:=Y "draft"
noncomputable abbrev Qq:Str:=Y "final"
noncomputable abbrev Qr:Str:=Y "place"
noncomputable abbrev Qs:Str:=Y "piece"
noncomputable abbrev Qt:Str:=Y "at"
noncomputable abbrev Qu:Str:=Y "so_far"
noncomputable abbrev Qv:Str:=Y "k"
noncomputable abbrev Qw:Str:=Y "rows"
noncomputable abbrev Qx:Str:=Y "append"
noncomputable abbrev Qy:Str:=Y "state"
noncomputable abbrev Qz:Str:=Y "words"
noncomputable abbrev Qaa:Str:=Y "mark"
noncomputable abbrev Qab:Str:=Y "errors"
noncomputable abbrev Qac:Str:=Y "attribute name"
noncomputable abbrev Qad:Str:=Y "tag name"
noncomputable abbrev Qae:Str:=Y "tag open"
noncomputable abbrev Qaf:Str:=Y "code"
noncomputable abbrev Qag:Str:=Y "goal"
noncomputable abbrev Qah:Str:=Y "kind"
noncomputable abbrev Qai:Str:=Y "error"
noncomputable abbrev Qaj:Str:=Y "/"
noncomputable abbrev Qak:Str:=Y "\x00"
noncomputable abbrev Qal:Str:=Y "token"
noncomputable abbrev Qam:Str:=Y "to"
noncomputable abbrev Qan:Str:=Y "<"
noncomputable abbrev Qao:Str:=Y "deed"
noncomputable abbrev Qap:Str:=Y "\x0a"
noncomputable abbrev Qaq:Str:=Y "signs"
noncomputable abbrev Qar:Str:=Y "end"
noncomputable abbrev Qas:Str:=Y ">"
noncomputable abbrev Qat:Str:=Y "comment"
noncomputable abbrev Qau:Str:=Y "out"
noncomputable abbrev Qav:Str:=Y "before attribute name"
noncomputable abbrev Qaw:Str:=Y "data"
noncomputable abbrev Qax:Str:=Y "again"
noncomputable abbrev Qay:Str:=Y "name"
noncomputable abbrev Qaz:Str:=Y "*"
noncomputable abbrev Qba:Str:=Y "A"
noncomputable abbrev Qbb:Str:=Y "attrs"
noncomputable abbrev Qbc:Str:=Y "self-closing start tag"
noncomputable abbrev Qbd:Str:=Y "next"
noncomputable abbrev Qbe:Str:=Y "back"
noncomputable abbrev Qbf:Str:=Y "is_return"
noncomputable abbrev Qbg:Str:=Y "end tag open"
noncomputable abbrev Qbh:Str:=Y "a"
noncomputable abbrev Qbi:Str:=Y "is_closed"
noncomputable abbrev Qbj:Str:=Y "stream"
noncomputable abbrev Qbk:Str:=Y "after attribute name"
noncomputable abbrev Qbl:Str:=Y "Z"
noncomputable abbrev Qbm:Str:=Y "is_closing"
noncomputable abbrev Qbn:Str:=Y "extend"
noncomputable abbrev Qbo:Str:=Y "done"
noncomputable abbrev Qbp:Str:=Y "\n"
noncomputable abbrev Qbq:Str:=Y "is_waiting"
noncomputable abbrev Qbr:Str:=Y "="
noncomputable abbrev Qbs:Str:=Y "�"
noncomputable abbrev Qbt:Str:=Y "lost"
noncomputable abbrev Qbu:Str:=Y "before attribute value"
noncomputable abbrev Qbv:Str:=Y "\""
noncomputable abbrev Qbw:Str:=Y "kept"
noncomputable abbrev Qbx:Str:=Y "</"
noncomputable abbrev Qby:Str:=Y "put"
noncomputable abbrev Qbz:Str:=Y "feed"
noncomputable abbrev Qca:Str:=Y "emit_eof"
noncomputable abbrev Qcb:Str:=Y "run"
noncomputable abbrev Qcc:Str:=Y "z"
noncomputable abbrev Qcd:Str:=Y "\x0d"
noncomputable abbrev Qce:Str:=Y "is_done"
noncomputable abbrev Qcf:Str:=Y "char"
noncomputable abbrev Qcg:Str:=Y "eof-in-tag"
noncomputable abbrev Qch:Str:=Y "after attribute value (quoted)"
noncomputable abbrev Qci:Str:=Y "i"
noncomputable abbrev Qcj:Str:=Y "\x0d\x0a"
noncomputable abbrev Qck:Str:=Y "~"
noncomputable abbrev Qcl:Str:=Y "add_name"
noncomputable abbrev Qcm:Str:=Y "add_value"
noncomputable abbrev Qcn:Str:=Y "start"
noncomputable abbrev Qco:Str:=Y "unexpected-null-character"
noncomputable abbrev Qcp:Str:=Y "'"
noncomputable abbrev Qcq:Str:=Y "attribute value (double-quoted)"
noncomputable abbrev Qcr:Str:=Y "attribute value (single-quoted)"
noncomputable abbrev Qcs:Str:=Y "attr"
noncomputable abbrev Qct:Str:=Y "$"
noncomputable abbrev Qcu:Str:=Y "closing"
noncomputable abbrev Qcv:Str:=Y "replace"
noncomputable abbrev Qcw:Str:=Y "begin_attr"
noncomputable abbrev Qcx:Str:=Y "emit_draft"
noncomputable abbrev Qcy:Str:=Y "attribute value (unquoted)"
noncomputable abbrev Qcz:Str:=Y "size"
noncomputable abbrev Qda:Str:=Y "_"
noncomputable abbrev Qdb:Str:=Y "give"
noncomputable abbrev Qdc:Str:=Y "quit"
noncomputable abbrev Qdd:Str:=Y "twice"
noncomputable abbrev Qde:Str:=Y "update"
noncomputable abbrev Qdf:Str:=Y "__debug__"
noncomputable abbrev Qdg:Str:=Y "__classdict__"
noncomputable abbrev Qdh:Str:=Y "/claim/cut.py"
noncomputable abbrev Qdi:Str:=Y "emit_sign"
noncomputable abbrev Qdj:Str:=Y "quote"
noncomputable abbrev Qdk:Str:=Y "public"
noncomputable abbrev Qdl:Str:=Y "system"
noncomputable abbrev Qdm:Str:=Y "is_quirks"
noncomputable abbrev Qdn:Str:=Y "B"
noncomputable abbrev Qdo:Str:=Y "check_attr"
noncomputable abbrev Qdp:Str:=Y "emit_text"
noncomputable abbrev Qdq:Str:=Y "is_ready"
noncomputable abbrev Qdr:Str:=Y "&"
noncomputable abbrev Qds:Str:=Y "doctype"
noncomputable abbrev Qdt:Str:=Y "!"
noncomputable abbrev Qdu:Str:=Y "eof-before-tag-name"
noncomputable abbrev Qdv:Str:=Y "invalid-first-character-of-tag-name"
noncomputable abbrev Qdw:Str:=Y "b"
noncomputable abbrev M(α:Type):=Store->Option (α×Store)
noncomputable abbrev CC:=Addr->List V->M V
noncomputable def Store.get(O:Store)(r i:Nat):Option Ob:=match O[r]? with
 | some l=>l[i]?
 | none=>none
noncomputable def Store.put(O:Store)(r i:Nat)(o:Ob):Store:=O.modify r fun l=>l.set i o
noncomputable def Store.add(O:Store)(r:Nat)(o:Ob):Store:=O.modify r fun l=>l++[o]
noncomputable def ret{α:Type}(a:α):M α:=fun O=>some (a,O)
noncomputable def bnd{α β:Type}(m:M α)(k:α->M β):M β:=fun O=>match m O with
 | some (a,O')=>k a O'
 | none=>none
noncomputable def fail{α:Type}:M α:=fun w0=>none
noncomputable def lift{α:Type}(x:Option α):M α:=fun O=>match x with
 | some a=>some (a,O)
 | none=>none
noncomputable def look{α:Type}(f:Store->Option α):M α:=fun O=>match f O with
 | some a=>some (a,O)
 | none=>none
noncomputable def lim:Nat:=1000000
noncomputable def lk{α:Type}(x:Str):List (Str×α)->Option α
 | []=>none
 | (y,v)::r=>if y==x then some v else lk x r
noncomputable def setK{α:Type}(x:Str)(v:α):List (Str×α)->List (Str×α)
 | []=>[(x,v)]
 | (y,w)::r=>if y==x then (y,v)::r else (y,w)::setK x v r
noncomputable def lkN{α:Type}(x:Nat):List (Nat×α)->Option α
 | []=>none
 | (y,v)::r=>if Nat.beq y x then some v else lkN x r
structure Fn where
 params:List Str
 dflts:List V
 body:List Stmt
 scope:Scope
structure Cls where
 region:Nat
 meths:List (Str×Addr)
 attrs:List Str
 init:Addr
structure Prog where
 fns:List (Addr×Fn)
 clss:List (Addr×Cls)
 globs:List (Str×Addr)
 site:Nat->Nat->Option Nat
noncomputable def lstO:V->Option (List V)
 | .lst us=>some us
 | _=>none
noncomputable def objO(O:Store):V->Option (Nat×Nat×Ob)
 | .ref r i=>ob (O.get r i) (fun o=>some (r,i,o)) none
 | _=>none
noncomputable def listB:Ob->Option (List V)
 | .list vs=>some vs
 | _=>none
noncomputable def dictB:Ob->Option (List (Str×V))
 | .dict es=>some es
 | _=>none
noncomputable def instB:Ob->Option (Addr×List (Str×V))
 | .inst c es=>some (c,es)
 | _=>none
noncomputable def lref(O:Store)(v:V):Option (Nat×Nat×List V):=ob (objO O v) (fun z=>ob (listB z.2.2) (fun vs=>some (z.1,z.2.1,vs)) none) none
noncomputable def dref(O:Store)(v:V):Option (Nat×Nat×List (Str×V)):=ob (objO O v) (fun z=>ob (dictB z.2.2) (fun vs=>some (z.1,z.2.1,vs)) none) none
noncomputable def asList(O:Store)(v:V):Option (List V):=ob (lstO v) some (ob (lref O v) (fun z=>some z.2.2) none)
noncomputable def tupO:V->Option (List V)
 | .tup vs=>some vs
 | _=>none
noncomputable def asSeq(O:Store)(v:V):Option (List V):=ob (tupO v) some (asList O v)
noncomputable def strO:V->Option Str
 | .str s=>some s
 | _=>none
noncomputable def intO:V->Option Int
 | .int s=>some s
 | _=>none
noncomputable def allO{α β:Type}(f:α->Option β):List α->Option (List β)
 | []=>some []
 | v::vs=>ob (f v) (fun d=>ob (allO f vs) (fun ds=>some (d::ds)) none) none
noncomputable def scal:V->Option PyData
 | .none=>some .none
 | .bool b=>some (.bool b)
 | .int i=>some (.int i)
 | .str s=>some (.str s)
 | _=>none
noncomputable def toD(O:Store):Nat->V->Option PyData
 | 0=>scal
 | n+1=>fun v=>ob (tupO v) (fun vs=>ob (allO (toD O n) vs) (fun ds=>some (.tuple ds)) none)
   (ob (asList O v) (fun vs=>ob (allO (toD O n) vs) (fun ds=>some (.list ds)) none) (scal v))
noncomputable abbrev toDs(O:Store)(n:Nat):List V->Option (List PyData):=allO (toD O n)
noncomputable abbrev strsOf:List V->Option (List Str):=allO strO
noncomputable abbrev intsOf:List V->Option (List Int):=allO intO
noncomputable def eqG(O:Store)(a b:V):Option Bool:=ob (toD O 8 a) (fun da=>ob (toD O 8 b) (fun db=>some (PyData.eqv da db)) none) none
noncomputable def eqV(O:Store)(a b:V):Option Bool:=ob (strO a) (fun x=>ob (strO b) (fun y=>some (x==y)) (eqG O a b)) (ob (intO a) (fun x=>ob (intO b) (fun y=>some (x==y)) (eqG O a b)) (eqG O a b))
noncomputable abbrev strss:List V->Option (List (List Str)):=allO fun v=>ob (lstO v) strsOf none
noncomputable def hasSub(x y:Str):Bool:=!(Builtin.Str.occurrences x y 0 x.length 1).isEmpty
noncomputable def dictO(O:Store)(v:V):Option (List (Str×V)):=ob (dref O v) (fun z=>some z.2.2) none
noncomputable def memV(a:V)(vs:List V):Option Bool :=
 ob (strO a) (fun x=>ob (strsOf vs) (fun l=>some (l.any (·==x))) none)
  (ob (intO a) (fun x=>ob (intsOf vs) (fun l=>some (l.any (·==x))) none)
   (ob (lstO a) (fun us=>ob (strsOf us) (fun x=>ob (strss vs) (fun l=>some (l.any (·==x))) none) none) none))
noncomputable def inV(O:Store)(a c:V):Option Bool :=
 ob (strO a) (fun x=>ob (strO c) (fun y=>some (hasSub y x)) (ob (dictO O c) (fun es=>some (lk x es).isSome) (ob (asSeq O c) (memV a) none)))
  (ob (asSeq O c) (memV a) none)
noncomputable abbrev ob2{α β γ:Type}(f:α->Option β)(a b:α)(k:β->β->Option γ)(z:Option γ):Option γ:=ob (f a) (fun x=>ob (f b) (fun y=>k x y) z) z
noncomputable def noneO:V->Option Unit
 | .none=>some ()
 | _=>none
noncomputable def isNone:V->Option Bool
 | .none=>some true
 | .ref _ _=>some false
 | _=>none
noncomputable def isV(a b:V):Option Bool:=ob (noneO b) (fun w0=>isNone a) none
noncomputable def strLt(x y:Str):Bool:=decide (x.cps.toList < y.cps.toList)
noncomputable def cmpV(op:CmpOp)(a b:V)(O:Store):Option Bool:=match op with
 | .Eq=>eqV O a b
 | .NotEq=>(eqV O a b).map (!·)
 | .Lt=>ob2 intO a b (fun x y=>some (decide (x < y))) none
 | .LtE=>ob2 intO a b (fun x y=>some (decide (x<=y))) (ob2 strO a b (fun x y=>some (!strLt y x)) none)
 | .Gt=>ob2 intO a b (fun x y=>some (decide (y < x))) none
 | .GtE=>ob2 intO a b (fun x y=>some (decide (y<=x))) none
 | .Is=>isV a b
 | .IsNot=>(isV a b).map (!·)
 | .In=>inV O a b
 | .NotIn=>(inV O a b).map (!·)
noncomputable def binV(op:Operator)(a b:V)(O:Store):Option V:=match op with
 | .Add=>ob2 intO a b (fun x y=>some (.int (x+y)))
   (ob2 strO a b (fun x y=>if x.length+y.length<=lim then some (.str (x++y)) else none)
    (ob2 (asList O) a b (fun x y=>if x.length+y.length<=lim then some (.lst (x++y)) else none) none))
 | .Sub=>ob2 intO a b (fun x y=>some (.int (x - y))) none
 | .Mult=>ob2 intO a b (fun x y=>if x.natAbs < 1000000/\y.natAbs < 1000000 then some (.int (x*y)) else none) none
 | .Mod=>ob2 intO a b (fun x y=>if 0 < y then some (.int (x.fmod y)) else none) none
 | .FloorDiv=>ob2 intO a b (fun x y=>if 0 < y/\y.natAbs < 1000000000 then some (.int (x.fdiv y)) else none) none
 | _=>none
noncomputable def augV(op:Operator)(a b:V)(_:Store):Option V:=match op with
 | .Sub=>ob2 intO a b (fun x y=>some (.int (x - y))) none
 | _=>none
noncomputable def idx(i:Int)(n:Nat):Option Nat :=
 if 0<=i then (if i.toNat < n then some i.toNat else none)
 else if 0<=i+n then some (i+n).toNat else none
noncomputable def itemV(o i:V)(O:Store):Option V :=
 ob (strO o) (fun s=>ob (intO i) (fun k=>ob (idx k s.length) (fun j=>some (.str ⟨#[s.cps.getD j 0]⟩)) none) none)
  (ob (dictO O o) (fun es=>ob (strO i) (fun x=>lk x es) none)
   (ob (intO i) (fun k=>ob (asSeq O o) (fun vs=>ob (idx k vs.length) (fun j=>vs[j]?) none) none) none))
noncomputable def sliceL{α:Type}(lo hi:Option Int)(l:List α):List α :=
 (l.drop (lo.elim 0 (clipAt l.length))).take (hi.elim l.length (clipAt l.length) - lo.elim 0 (clipAt l.length))
noncomputable def stepL{α:Type}(lo hi:Option Int)(k:Int)(l:List α):List α :=
 (sliceRange (sliceBounds lo hi (some k) l.length).1 (sliceBounds lo hi (some k) l.length).2.1 (sliceBounds lo hi (some k) l.length).2.2).filterMap (l[·]?)
noncomputable def optInt(o:Option V):Option (Option Int):=ob o (fun v=>ob (intO v) (fun i=>some (some i)) none) (some none)
noncomputable def sOk(s:Str):Bool:=s.cps.all (· < 0x110000)
noncomputable def sliceV(o:V)(lo hi:Option V)(O:Store):Option V:=ob (optInt lo) (fun a=>ob (optInt hi) (fun b =>
 ob (strO o) (fun s=>some (.str ⟨(sliceL a b s.cps.toList).toArray⟩)) (ob (asList O o) (fun vs=>some (.lst (sliceL a b vs))) none)) none) none
noncomputable def stepV(o:V)(lo hi:Option V)(st:V)(O:Store):Option V:=ob (optInt lo) (fun a=>ob (optInt hi) (fun b =>
 ob (intO st) (fun k=>ob (asList O o) (fun vs=>if k≠0 then some (.lst (stepL a b k vs)) else none) none) none) none) none
noncomputable def isT:V->Option Bool
 | .bool b=>some b
 | .none=>some false
 | _=>none
noncomputable def rngO:V->Option (Int×Int×Int)
 | .rng a b c=>some (a,b,c)
 | _=>none
noncomputable def drawV(o:V)(k:Nat)(O:Store):Option (Option V) :=
 ob (strO o) (fun s=>some (if k < s.cps.size then some (.str ⟨#[s.cps.getD k 0]⟩) else none))
  (ob (rngO o) (fun r=>if 0 < r.2.2 then some (if r.1+(k:Int)*r.2.2 < r.2.1 then some (.int (r.1+(k:Int)*r.2.2)) else none) else none)
   (ob (asList O o) (fun vs=>some vs[k]?) none))
inductive Fl where
 | next (fr:Fr) | ret (v:V)
noncomputable def mkList(P:Prog)(pos:Pos)(vs:List V):M V:=fun O=>if vs.length<=lim then (match P.site pos.line pos.col with
 | some r=>match O[r]? with
  | some l=>some (.ref r l.length,O.add r (.list vs))
  | none=>none
 | none=>some (.lst vs,O)) else none
noncomputable def one:List V->Option V
 | [a]=>some a
 | _=>none
noncomputable def two{α:Type}:List α->Option (α×α)
 | [a,b]=>some (a,b)
 | _=>none
noncomputable def rangeV:List Int->Option V
 | [b]=>if b.natAbs<=lim then some (.rng 0 b 1) else none
 | [a,b]=>if a.natAbs<=lim/\b.natAbs<=lim then some (.rng a b 1) else none
 | [a,b,c]=>if a.natAbs<=lim/\b.natAbs<=lim/\0 < c/\c<=lim then some (.rng a b c) else none
 | _=>none
noncomputable def bV(n:Bi)(O:Store)(args:List V):Option V:=match n with
 | .len=>ob (one args) (fun a=>ob (strO a) (fun s=>some (.int s.length)) (ob (asSeq O a) (fun vs=>some (.int vs.length)) none)) none
 | .range=>ob (intsOf args) rangeV none
 | .ord=>ob (one args) (fun a=>ob (strO a) (fun s=>if s.length=1 then some (.int (s.cps.getD 0 0:Nat)) else none) none) none
 | .chr=>ob (one args) (fun a=>ob (intO a) (fun i=>if 0<=i/\i < 0x110000 then some (.str ⟨#[i.toNat]⟩) else none) none) none
 | .list=>ob (one args) (fun a=>ob (strO a) (fun s=>some (.lst (s.cps.toList.map fun c=>.str ⟨#[c]⟩))) (ob (asList O a) (fun vs=>some (.lst vs)) none)) none
 | .tuple=>ob (one args) (fun a=>ob (asList O a) (fun vs=>some (.tup vs)) none) none
noncomputable def builtinV(n:Bi)(args:List V):M V:=look fun O=>bV n O args
noncomputable def joinS(ss:List Str):Str:=⟨(ss.map (·.cps.toList)).flatten.toArray⟩
inductive MK where
 | bi (id:Mi) | fn (f:Addr)
noncomputable def strM(x:Str):Option Mi:=if x=="join" then some .join else if x=="find" then some .find else if x=="replace" then some .replace else none
noncomputable def listM(x:Str):Option Mi:=if x=="append" then some .append else if x=="extend" then some .extend else if x=="pop" then some .pop else none
noncomputable def dictM(x:Str):Option Mi:=if x=="get" then some .get else if x=="update" then some .update else none
noncomputable def updD(es fs:List (Str×V)):List (Str×V):=fs.foldl (fun es p=>setK p.1 p.2 es) es
noncomputable def mV(id:Mi)(o:V)(args:List V)(O:Store):Option (V×Store):=match id with
 | .join=>ob (strO o) (fun s=>ob (one args) (fun v=>ob (asList O v) (fun vs=>ob (strsOf vs) (fun l=>if (l.map (·.length)).sum<=lim/\l.length<=1000/\s.length=0 then some (.str (joinS l),O) else none) none) none) none) none
 | .find=>ob (strO o) (fun s=>ob (one args) (fun v=>ob (strO v) (fun x=>some (.int (Txt.find s x),O)) none) none) none
 | .replace=>none
 | .append=>ob (lref O o) (fun z=>ob (one args) (fun v=>if z.2.2.length < lim then some (.none,O.put z.1 z.2.1 (.list (z.2.2++[v]))) else none) none) none
 | .extend=>ob (lref O o) (fun z=>ob (one args) (fun v=>ob (asList O v) (fun ws=>if z.2.2.length+ws.length < lim then some (.none,O.put z.1 z.2.1 (.list (z.2.2++ws))) else none) none) none) none
 | .pop=>ob (lref O o) (fun z=>if args.isEmpty then ob z.2.2.getLast? (fun x=>some (x,O.put z.1 z.2.1 (.list z.2.2.dropLast))) none else none) none
 | .get=>ob (dref O o) (fun z=>ob (two args) (fun a=>ob (strO a.1) (fun x=>some ((lk x z.2.2).getD a.2,O)) none) none) none
 | .update=>ob (dref O o) (fun z=>ob (one args) (fun v=>ob (dref O v) (fun y=>if z.2.2.length+y.2.2.length < lim/\(z.1≠y.1\/z.2.1≠y.2.1) then some (.none,O.put z.1 z.2.1 (.dict (updD z.2.2 y.2.2))) else none) none) none) none
noncomputable def methV(id:Mi)(o:V)(args:List V):M V:=fun O=>mV id o args O
noncomputable def biTab:List (Str×Bi):=[("len",.len),("range",.range),("list",.list),("tuple",.tuple),("ord",.ord),("chr",.chr)]
noncomputable def biName(x:Str):Option Bi:=lk x biTab
section
variable (P:Prog)(call:CC)(sc:Scope)
noncomputable def nameO(fr:Fr)(x:Str):Option V:=match lk x fr with
 | some v=>some v
 | none=>match sc.names.lookup x with
  | some .globalImplicit=>match lk x P.globs with
   | some a=>some (.fn a)
   | none=>(biName x).map .bi
  | _=>none
noncomputable def nameV(fr:Fr)(x:Str):M V:=lift (nameO P sc fr x)
noncomputable def applyV(f:V)(args:List V):M V:=match f with
 | .bi n=>builtinV n args
 | .fn a=>match lkN a P.clss with
  | some c=>fun O=>match O[c.region]? with
   | some l=>bnd (call c.init (.ref c.region l.length::args)) (fun | .none=>ret (.ref c.region l.length) | _=>fail) (O.add c.region (.inst a []))
   | none=>none
  | none=>call a args
 | _=>fail
noncomputable def instO(O:Store)(o:V):Option (Nat×Nat×Addr×List (Str×V)×Cls):=ob (objO O o) (fun z=>ob (instB z.2.2) (fun c=>ob (lkN c.1 P.clss) (fun k=>some (z.1,z.2.1,c.1,c.2,k)) none) none) none
noncomputable def attrO(o:V)(x:Str)(O:Store):Option V:=ob (instO P O o) (fun z=>if z.2.2.2.2.attrs.contains x then lk x z.2.2.2.1 else none) none
noncomputable def attrV(o:V)(x:Str):M V:=look (attrO P o x)
noncomputable def setAttrV(o:V)(x:Str)(v:V):M Unit:=fun O=>ob (instO P O o) (fun z=>if z.2.2.2.2.attrs.contains x&&decide (z.2.2.2.1.length < 100) then some ((),O.put z.1 z.2.1 (.inst z.2.2.1 (setK x v z.2.2.2.1))) else none) none
noncomputable def setItemV(o k v:V):M Unit:=fun O=>ob (strO k)
 (fun x=>ob (dref O o) (fun z=>if z.2.2.length < lim then some ((),O.put z.1 z.2.1 (.dict (setK x v z.2.2))) else none) none)
 (ob (intO k) (fun j=>ob (lref O o) (fun z=>ob (idx j z.2.2.length) (fun m=>some ((),O.put z.1 z.2.1 (.list (z.2.2.set m v)))) none) none) none)
noncomputable def methK(o:V)(x:Str)(O:Store):Option MK:=ob (strO o) (fun w0=>(strM x).map .bi) (ob (lref O o) (fun w0=>(listM x).map .bi) (ob (dref O o) (fun w0=>(dictM x).map .bi)
 (ob (instO P O o) (fun z=>ob (lk x z.2.2.2.2.meths) (fun f=>ob (lk x z.2.2.2.1) (fun w0=>none) (some (.fn f))) none) none)))
noncomputable def methodV(k:MK)(o:V)(args:List V):M V:=match k with
 | .fn f=>call f (o::args)
 | .bi id=>methV id o args
noncomputable def isRepl:MK->Bool
 | .bi id=>match id with
  | .replace=>true
  | _=>false
 | _=>false
noncomputable def constV:Const->M V
 | .none=>ret .none
 | .bool b=>ret (.bool b)
 | .int i=>ret (.int i)
 | .str s=>if s.cps.all (· < 0x110000)/\s.length<=lim then ret (.str s) else fail
 | _=>fail
noncomputable def mkDict(P:Prog)(pos:Pos)(es:List (Str×V)):M V:=fun O=>match P.site pos.line pos.col with
 | some r=>match O[r]? with
  | some l=>some (.ref r l.length,O.add r (.dict (updD [] es)))
  | none=>none
 | none=>none
noncomputable def compK(o:V)(elt:V->M V)(test:V->M Bool):Nat->Nat->List V->M V
 | 0,_,_=>fail
 | n+1,k,acc=>bnd (look (drawV o k)) fun r=>ob r (fun v=>bnd (test v) fun b =>
   if b then bnd (elt v) fun w=>if acc.length < lim then compK o elt test n (k+1) (acc++[w]) else fail
   else compK o elt test n (k+1) acc) (ret (.lst acc))
noncomputable def plainBase:Expr->Bool
 | .Call (.Name ..) ..=>false
 | _=>true
noncomputable def cstS:Expr->Option Str
 | .Constant c _ _=>match c with
  | .str a=>some a
  | _=>none
 | _=>none
noncomputable def replV(o:V)(args:List Expr):M V:=ob (strO o) (fun s=>ob (two args) (fun p=>ob (cstS p.1) (fun a=>ob (cstS p.2) (fun b =>
  if b.length<=14/\(a==b)=false/\(Txt.replace s a b).cps.all (· < 0x110000)=true/\(Txt.replace s a b).length<=lim then ret (.str (Txt.replace s a b)) else fail) fail) fail) fail) fail
noncomputable def callOk(o:Expr)(args:List Expr)(ap p:Pos):Bool:=plainBase o&&decide (args.length < 20)&&(ap.endLine==p.line)
noncomputable def compFr(scope:Scope)(fr:Fr):Fr:=fr.filter fun p=>scope.names.lookup p.1==some NameKind.free
noncomputable def notSet:Expr->Bool
 | .Set ..=>false
 | _=>true
noncomputable def negV:V->Option V
 | .int i=>some (.int (-i))
 | _=>none
noncomputable def compOk(sc scope:Scope)(x:Str):Bool:=scope.kind==.function&&(x != (Y ".0"))&&scope.names.lookup x==some .local&&scope.names.all fun p=>(p.1 != Qdf)&&(p.1 != Qdg) &&
 (match p.2 with
  | .local=>p.1==x||(p.1==(Y ".0")&&scope.names.lookup (Y ".0")==some .local)
  | .free=>sc.names.lookup p.1==some .cell&&p.1 != x
  | .globalImplicit=>p.1 != x
  | _=>false)
noncomputable def nameE:Expr->Option Str
 | .Name x _=>some x
 | _=>none
noncomputable def genV:List Comprehension->Option (Str×Expr×List Expr)
 | [g]=>if g.is_async=0 then ob (nameE g.target) (fun x=>some (x,g.iter,g.ifs)) none else none
 | _=>none
noncomputable abbrev Shp:=CmpOp×Expr×Option (CmpOp×Expr)
noncomputable def shpV:List CmpOp->List Expr->Option Shp
 | [op],[r]=>some (op,r,none)
 | [op1,op₂],[r₁,r₂]=>some (op1,r₁,some (op₂,r₂))
 | _,_=>none
inductive Cal where
 | m (o:Expr) (x:Str) (ap:Pos) | n (f:Str) (q:Pos) | bad
noncomputable abbrev calB{β:Type}(c:Cal)(f:Expr->Str->Pos->β)(g:Str->Pos->β)(z:β):β:=match c with
 | .m o x ap=>f o x ap
 | .n h q=>g h q
 | .bad=>z
noncomputable def calE:Expr->Cal
 | .Attribute o x ap=>.m o x ap
 | .Name f q=>.n f q
 | _=>.bad
noncomputable def calV(f:Expr):List Keyword->Cal
 | []=>calE f
 | _=>.bad
noncomputable def slcV:Expr->Option (Option Expr×Option Expr×Option Expr)
 | .Slice lo hi st _=>some (lo,hi,st)
 | _=>none
inductive Tst where
 | no (e:Expr) | bool (op:BoolOp) (es:List Expr) | cmp (l:Expr) (d:Shp) | plain | bad
noncomputable abbrev tstB{β:Type}(t:Tst)(f:Expr->β)(g:BoolOp->List Expr->β)(h:Expr->Shp->β)(p z:β):β:=match t with
 | .no e=>f e
 | .bool op es=>g op es
 | .cmp l d=>h l d
 | .plain=>p
 | .bad=>z
noncomputable def tstV:Expr->Tst
 | .UnaryOp op e _=>match op with
  | .Not=>.no e
  | _=>.bad
 | .BoolOp op es _=>.bool op es
 | .IfExp ..=>.bad
 | .Compare l ops rs _=>match shpV ops rs with
  | some d=>.cmp l d
  | none=>.bad
 | _=>.plain
inductive Tgt where
 | tup (ts:List Expr) | one (t:Expr) | bad
noncomputable abbrev tgtB{β:Type}(t:Tgt)(f:List Expr->β)(g:Expr->β)(z:β):β:=match t with
 | .tup ts=>f ts
 | .one t=>g t
 | .bad=>z
noncomputable def tgtV:List Expr->Tgt
 | [t]=>match t with
  | .Tuple ts _ _=>.tup ts
  | .List ..=>.bad
  | .Starred ..=>.bad
  | t=>.one t
 | _=>.bad
noncomputable def augT:Expr->Option (Expr×Str)
 | .Attribute o x _=>some (o,x)
 | _=>none
noncomputable def goOn(k:Fr->M Fl):Fl->M Fl
 | .next fr=>k fr
 | .ret v=>ret (.ret v)
noncomputable def setOk(sc:Scope)(x:Str):Bool:=match sc.names.lookup x with
 | some .local=>true
 | some .cell=>true
 | _=>false
noncomputable def forV(t:Expr):List Stmt->Option Str
 | []=>nameE t
 | _=>none
noncomputable abbrev ifsE(t:Fr->Expr->M Bool)(ifs:List Expr)(fr:Fr):M Bool:=match ifs with
 | []=>ret true
 | [c]=>t fr c
 | _=>fail
mutual
noncomputable def evalE:Nat->Scope->Fr->Expr->M V
 | 0,_,_,_=>fail
 | n+1,sc,fr,e=>match e with
  | .Constant c _ _=>constV c
  | .Name x _=>nameV P sc fr x
  | .BoolOp op es _=>boolE n sc fr op es
  | .BinOp l op r _=>bnd (evalE n sc fr l) fun a=>bnd (evalE n sc fr r) fun b=>look (binV op a b)
  | .UnaryOp op e _=>match op with
   | .Not=>bnd (evalE n sc fr e) fun a=>bnd (lift (isT a)) fun b=>ret (.bool (!b))
   | .USub=>bnd (evalE n sc fr e) fun a=>lift (negV a)
   | _=>fail
  | .IfExp t a b _=>bnd (testE n sc fr t) fun c=>if c then evalE n sc fr a else evalE n sc fr b
  | .Dict ks vs pos=>if ks.length<=15/\0 < ks.length then bnd (pairsE n sc fr ks vs) fun es=>mkDict P pos es else fail
  | .List es pos=>bnd (evalEs n sc fr es) fun vs=>mkList P pos vs
  | .Tuple es _ _=>bnd (evalEs n sc fr es) fun vs=>if vs.length<=lim then ret (.tup vs) else fail
  | .ListComp elt gens scope _=>bnd (lift (genV gens)) fun d=>if notSet d.2.1&&compOk sc scope d.1 then bnd (evalE n sc fr d.2.1) fun o =>
    compK o (fun v=>evalE n scope (setK d.1 v (compFr scope fr)) elt) (fun v=>ifsE (fun fr' c=>testE n scope fr' c) d.2.2 (setK d.1 v (compFr scope fr))) 200 0 [] else fail
  | .Compare l ops rs _=>bnd (lift (shpV ops rs)) fun s=>bnd (evalE n sc fr l) fun a=>bnd (evalE n sc fr s.2.1) fun b=>bnd (look (cmpV s.1 a b)) fun c=>ob s.2.2
   (fun t=>if c then (if notSet t.2 then bnd (evalE n sc fr t.2) fun d=>bnd (look (cmpV t.1 b d)) fun e=>ret (.bool e) else fail) else (if notSet t.2 then ret (.bool false) else fail)) (ret (.bool c))
  | .Call f args kws p=>calB (calV f kws)
   (fun o x ap=>if callOk o args ap p then bnd (evalE n sc fr o) fun ov =>
    bnd (look (methK P ov x)) fun k=>if isRepl k then replV ov args else bnd (evalEs n sc fr args) fun as=>methodV call k ov as else fail)
   (fun f q=>if decide (args.length < 20) then bnd (evalE n sc fr (.Name f q)) fun fv=>bnd (evalEs n sc fr args) fun as=>applyV P call fv as else fail) fail
  | .Attribute o x _=>if plainBase o then bnd (evalE n sc fr o) fun ov=>attrV P ov x else fail
  | .Subscript o i _=>ob (slcV i) (fun s=>bnd (evalE n sc fr o) fun ov=>bnd (optE n sc fr s.1) fun a=>bnd (optE n sc fr s.2.1) fun b=>ob s.2.2
    (fun st=>bnd (evalE n sc fr st) fun c=>look (stepV ov a b c)) (look (sliceV ov a b)))
   (bnd (evalE n sc fr o) fun ov=>bnd (evalE n sc fr i) fun iv=>look (itemV ov iv))
  | _=>fail

noncomputable def optE:Nat->Scope->Fr->Option Expr->M (Option V)
 | 0,_,_,_=>fail
 | _+1,_,_,none=>ret none
 | n+1,sc,fr,some e=>bnd (evalE n sc fr e) fun v=>ret (some v)

noncomputable def evalEs:Nat->Scope->Fr->List Expr->M (List V)
 | 0,_,_,_=>fail
 | _+1,_,_,[]=>ret []
 | n+1,sc,fr,e::r=>bnd (evalE n sc fr e) fun v=>bnd (evalEs n sc fr r) fun vs=>ret (v::vs)

noncomputable def pairsE:Nat->Scope->Fr->List (Option Expr)->List Expr->M (List (Str×V))
 | 0,_,_,_,_=>fail
 | _+1,_,_,[],[]=>ret []
 | n+1,sc,fr,some k::ks,e::r=>bnd (evalE n sc fr k) fun
  | .str x=>bnd (evalE n sc fr e) fun v=>bnd (pairsE n sc fr ks r) fun vs=>ret ((x,v)::vs)
  | _=>fail
 | _+1,_,_,_,_=>fail

noncomputable def boolE:Nat->Scope->Fr->BoolOp->List Expr->M V
 | 0,_,_,_,_=>fail
 | n+1,sc,fr,_,[e]=>evalE n sc fr e
 | n+1,sc,fr,op,e::r=>bnd (evalE n sc fr e) fun v=>bnd (lift (isT v)) fun b=>match op,b with
  | .And,false=>ret v
  | .Or,true=>ret v
  | _,_=>boolE n sc fr op r
 | _+1,_,_,_,_=>fail

noncomputable def testE:Nat->Scope->Fr->Expr->M Bool
 | 0,_,_,_=>fail
 | n+1,sc,fr,e=>tstB (tstV e) (fun e=>bnd (testE n sc fr e) fun b=>ret (!b)) (fun op es=>testsE n sc fr op es)
  (fun l s=>bnd (evalE n sc fr l) fun a=>bnd (evalE n sc fr s.2.1) fun b=>bnd (look (cmpV s.1 a b)) fun c=>ob s.2.2
   (fun t=>if c then (if notSet t.2 then bnd (evalE n sc fr t.2) fun d=>look (cmpV t.1 b d) else fail) else (if notSet t.2 then ret false else fail)) (ret c))
  (bnd (evalE n sc fr e) fun v=>lift (isT v)) fail

noncomputable def testsE:Nat->Scope->Fr->BoolOp->List Expr->M Bool
 | 0,_,_,_,_=>fail
 | _+1,_,_,op,[]=>ret (op==.And)
 | n+1,sc,fr,op,e::r=>bnd (testE n sc fr e) fun b=>match op,b with
  | .And,false=>ret false
  | .Or,true=>ret true
  | _,_=>testsE n sc fr op r
end
noncomputable def setVar(x:Str)(v:V)(fr:Fr):M Fr:=if setOk sc x then ret (setK x v fr) else fail
noncomputable def assignE(n:Nat)(fr:Fr)(v:V)(t:Expr):M Fr:=match t with
 | .Name x _=>setVar sc x v fr
 | .Attribute o x _=>bnd (evalE P call n sc fr o) fun ov=>bnd (setAttrV P ov x v) fun w0=>ret fr
 | .Subscript o i _=>bnd (evalE P call n sc fr o) fun ov=>bnd (evalE P call n sc fr i) fun iv=>bnd (setItemV ov iv v) fun w0=>ret fr
 | _=>fail
noncomputable def assignEs(n:Nat):Fr->List V->List Expr->M Fr
 | fr,[],[]=>ret fr
 | fr,v::vs,t::ts=>bnd (assignE P call sc n fr v t) fun fr'=>assignEs n fr' vs ts
 | _,_,_=>fail
noncomputable def loopW(test:Fr->M Bool)(body:Fr->M Fl):Nat->Fr->M Fl
 | 0,_=>fail
 | n+1,fr=>bnd (test fr) fun b=>if b then bnd (body fr) (goOn fun fr'=>loopW test body n fr') else ret (.next fr)
noncomputable def loopF(o:V)(set:V->Fr->M Fr)(body:Fr->M Fl):Nat->Nat->Fr->M Fl
 | 0,_,_=>fail
 | n+1,k,fr=>bnd (look (drawV o k)) fun r=>ob r (fun v=>bnd (set v fr) fun fr₁=>bnd (body fr₁) (goOn fun fr'=>loopF o set body n (k+1) fr')) (ret (.next fr))
noncomputable def tupOk(e:Expr):Bool:=match e with
 | .Tuple vs _ _=>!(vs.all (constantsAlone 8))||vs.all (foldedForSure 8)
 | _=>true
noncomputable def notComp:Expr->Bool
 | .ListComp ..=>false
 | .SetComp ..=>false
 | .DictComp ..=>false
 | _=>true
noncomputable def tupV:V->Option (List V)
 | .tup vs=>some vs
 | _=>none
noncomputable def nameT:Expr->Bool
 | .Name ..=>true
 | _=>false
noncomputable def names:List Expr->List Str
 | .Name x _::r=>x::names r
 | _::r=>names r
 | []=>[]
noncomputable def nodupB:List Str->Bool
 | []=>true
 | x::r=>!(r.any (·==x))&&nodupB r
mutual
noncomputable def execS:Nat->Fr->Stmt->M Fl
 | 0,_,_=>fail
 | n+1,fr,s=>match s with
  | .Expr e _=>if notComp e then bnd (evalE P call n sc fr e) fun w0=>ret (.next fr) else fail
  | .Pass _=>ret (.next fr)
  | .Return e _=>match e with
   | some e=>bnd (evalE P call n sc fr e) fun v=>ret (.ret v)
   | none=>ret (.ret .none)
  | .Assign ts e _=>tgtB (tgtV ts)
   (fun ts=>if tupOk e&&nodupB (names ts)&&decide (ts.length < 20) then bnd (evalE P call n sc fr e) fun v=>bnd (lift (tupV v)) fun vs=>bnd (assignEs P call sc n fr vs ts) fun fr'=>ret (.next fr') else fail)
   (fun t=>bnd (evalE P call n sc fr e) fun v=>bnd (assignE P call sc n fr v t) fun fr'=>ret (.next fr')) fail
  | .AugAssign t op e _=>ob (augT t) (fun z=>bnd (evalE P call n sc fr z.1) fun ov=>bnd (attrV P ov z.2) fun a=>bnd (evalE P call n sc fr e) fun b =>
    bnd (look (augV op a b)) fun v=>bnd (setAttrV P ov z.2 v) fun w0=>ret (.next fr)) fail
  | .If t a b _=>bnd (testE P call n sc fr t) fun c=>if c then execSs n fr a else execSs n fr b
  | .While t a b _=>match b with
   | []=>loopW (fun fr=>testE P call n sc fr t) (fun fr=>execSs n fr a) 5000 fr
   | _=>fail
  | .For t it a b _=>ob (forV t b) (fun x=>if notSet it then bnd (evalE P call n sc fr it) fun o=>loopF o (fun v fr=>setVar sc x v fr) (fun fr=>execSs n fr a) 5000 0 fr else fail) fail
  | _=>fail
noncomputable def execSs:Nat->Fr->List Stmt->M Fl
 | 0,_,_=>fail
 | n+1,fr,ss=>match ss with
  | []=>ret (.next fr)
  | s::r=>bnd (execS n fr s) (goOn fun fr'=>execSs n fr' r)
end
end
noncomputable def bindP:List Str->List V->List V->Option Fr
 | [],[],_=>some []
 | p::ps,v::vs,ds=>match bindP ps vs ds with
  | some fr=>some ((p,v)::fr)
  | none=>none
 | p::ps,[],ds=>match ds.drop (ds.length - (ps.length+1)) with
  | d::_=>if ps.length < ds.length then (match bindP ps [] ds with
   | some fr=>some ((p,d)::fr)
   | none=>none) else none
  | []=>none
 | [],_::_,_=>none
noncomputable def callD(P:Prog):Nat->CC
 | 0,_,_=>fail
 | d+1,a,args=>match lkN a P.fns with
  | some f=>match bindP f.params args f.dflts with
   | some fr=>bnd (execSs P (callD P d) f.scope 60 fr f.body) fun
    | .ret v=>ret v
    | .next _=>ret .none
   | none=>fail
  | none=>fail
end Mine
end
section
open PySem PySem.Calls PyProof.Rows PySem.W
namespace Mine
structure Gh where
 ρ:Nat->Nat->Option (Addr×Addr)
 Z:Addr->Prop
noncomputable def Gh.St(g:Gh)(b:Addr):Prop:=∃ r i a,g.ρ r i=some (a,b)
noncomputable def biVal:Bi->Value
 | .len=>.builtin "len" | .ord=>.builtin "ord" | .chr=>.builtin "chr"
 | .range=>.type "range" | .list=>.type "list" | .tuple=>.type "tuple"
noncomputable abbrev lo(its:Array Value)(n:Nat):Obj:={ cls:=.type "list",data:=.seq its n }
noncomputable abbrev tpo(its:Array Value)(n:Nat):Obj:={ cls:=.type "tuple",data:=.seq its n }
mutual
noncomputable def VR(g:Gh)(h:Heap):V->Value->Prop
 | .none,u=>u=.none
 | .bool b,u=>u=.bool b
 | .int i,u=>∃ t,u=.int i t
 | .str s,u=>∃ t,u=.str s t/\sOk s=true/\s.length<=lim
 | .tup vs,u=>∃ a its n,u=.ref a/\h.get? a=some (tpo its n)/\¬ g.Z a/\VRs g h vs its.toList/\vs.length<=lim
 | .lst vs,u=>∃ a its n,u=.ref a/\h.get? a=some (lo its n)/\¬ g.Z a/\VRs g h vs its.toList/\vs.length<=lim
 | .rng a b c,u=>∃ r t1 t2 t3,u=.ref r/\IsRange h r a b c t1 t2 t3/\¬ g.Z r/\a.natAbs<=lim/\b.natAbs<=lim/\0 < c/\c<=lim
 | .ref r i,u=>∃ a d,u=.ref a/\g.ρ r i=some (a,d)
 | .fn a,u=>u=.ref a
 | .bi n,u=>u=biVal n
noncomputable def VRs(g:Gh)(h:Heap):List V->List Value->Prop
 | [],us=>us=[]
 | v::vs,us=>∃ u r,us=u::r/\VR g h v u/\VRs g h vs r
end
noncomputable def ER(g:Gh)(h:Heap):List (Str×V)->List DictEntry->Prop
 | [],l=>l=[]
 | (x,v)::es,l=>∃ e r,l=e::r/\(∃ t,e.key=.str x t)/\VR g h v e.val/\ER g h es r
noncomputable def PR(g:Gh)(h:Heap):List (Str×V)->List (Str×Value)->Prop
 | [],l=>l=[]
 | (x,v)::es,l=>∃ u r,l=(x,u)::r/\VR g h v u/\PR g h es r
structure Cx where
 prog:Program
 w:World
 B:Heap
 K:Frag
 P:Prog
 big:∃ b,sysModules < b/\B.get? b≠none
noncomputable def OR(C:Cx)(g:Gh)(h:Heap)(o:Ob)(a d:Addr):Prop:=match o with
 | .list vs=>a=d/\∃ its n,h.get? d=some (lo its n)/\VRs g h vs its.toList/\vs.length<=lim
 | .dict es=>a=d/\∃ l,h.DictOf (strKind C.prog C.w) d l/\PR g h es l/\es.length<=lim
 | .inst c es=>h.get? a=some (instObj c d)/\¬ g.Z a/\∃ l n,h.get? d=some (dictOf l n)/\ER g h es l/\es.length<=100
structure Rel(C:Cx)(g:Gh)(O:Store)(h:Heap):Prop where
 base:∀ b o,C.B.get? b=some o->h.get? b=some o
 zb:∀ a,g.Z a->C.B.get? a=none/\sysModules < a
 zh:∀ a,g.Z a->h.get? a≠none
 st:∀ b,g.St b->g.Z b
 dom:∀ r i,O.get r i=none->g.ρ r i=none
 obj:∀ r i o,O.get r i=some o->∃ a d,g.ρ r i=some (a,d)/\OR C g h o a d
 inj:∀ r i r' i' a a' d,g.ρ r i=some (a,d)->g.ρ r' i'=some (a',d)->r=r'/\i=i'
structure Tr(W:Addr->Prop)(g:Gh)(s:Shared)(g':Gh)(s':Shared):Prop where
 grow:∀ r i x,g.ρ r i=some x->g'.ρ r i=some x
 keep:∀ b o,s.heap.get? b=some o->¬ g.St b->¬ W b->s'.heap.get? b=some o
 zz:∀ a,s.heap.get? a≠none->¬ W a->g'.Z a->g.Z a
 zk:∀ a,g.Z a->g'.Z a
 live:∀ a,s.heap.get? a≠none->¬ W a->s'.heap.get? a≠none
 fresh:∀ b,g'.St b->¬ g.St b->s.heap.get? b=none\/W b
 gens:s'.gens=s.gens
 os:s'.os=s.os
theorem Tr.refl(W:Addr->Prop)(g:Gh)(s:Shared):Tr W g s g s :=
 ⟨fun w0 w0 w0 e=>e,fun w0 w0 e w0 w0=>e,fun w0 w0 w0 z=>z,fun w0 z=>z,fun w0 e w0=>e,fun w0 a b=>absurd a b,rfl,rfl⟩
theorem Uak{h:Heap}{b:Addr}{o:Obj}(e:h.get? b=some o):h.get? b≠none:=by rw [e];exact Option.some_ne_none _
theorem Tr.trans{W:Addr->Prop}{g₁ g₂ g₃:Gh}{s₁ s₂ s₃:Shared}(x:Tr W g₁ s₁ g₂ s₂)(y:Tr W g₂ s₂ g₃ s₃):Tr W g₁ s₁ g₃ s₃ where
 grow:=fun r i p e=>y.grow _ _ _ (x.grow _ _ _ e)
 keep:=fun b o e h w=>by
  refine y.keep b o (x.keep b o e h w) (fun q=>?_) w;rcases x.fresh b q h with z | z
  ·rw [e] at z;cases z
  ·exact w z
 zz:=fun a l w z=>x.zz a l w (y.zz a (x.live a l w) w z)
 zk:=fun a z=>y.zk a (x.zk a z)
 live:=fun a l w=>y.live a (x.live a l w) w
 fresh:=fun b p q=>by
  by_cases m:g₂.St b
  ·exact x.fresh b m q
  ·rcases y.fresh b p m with z | z
   ·by_cases w:W b
    ·exact .inr w
    ·refine .inl ?_
     by_cases l:s₁.heap.get? b=none
     ·exact l
     ·exact absurd z (x.live b l w)
   ·exact .inr z
 gens:=y.gens.trans x.gens
 os:=y.os.trans x.os
theorem Tr.weak{W W':Addr->Prop}{g g':Gh}{s s':Shared}(x:Tr W g s g' s')(h:∀ b,s.heap.get? b≠none->W b->W' b):Tr W' g s g' s' :=
 { x with
  keep:=fun b o e p w=>x.keep b o e p fun q=>w (h b (Uak e) q)
  zz:=fun a l w z=>x.zz a l (fun q=>w (h a l q)) z
  live:=fun a l w=>x.live a l fun q=>w (h a l q)
  fresh:=fun b p q=>by
   rcases x.fresh b p q with z | z
   ·exact .inl z
   ·by_cases l:s.heap.get? b=none
    ·exact .inl l
    ·exact .inr (h b l z) }
theorem Tr.none{W:Addr->Prop}{g g':Gh}{s s':Shared}(x:Tr (fun w0=>False) g s g' s'):Tr W g s g' s':=x.weak fun w0 w0 q=>q.elim
section
variable {W:Addr->Prop}{g g':Gh}{s s':Shared}
theorem Tr.at_(x:Tr W g s g' s')(hs:∀ b,g.St b->g.Z b)(hw:∀ b,W b->g.Z b){a:Addr}{o:Obj}(e:s.heap.get? a=some o)(z:¬ g.Z a):s'.heap.get? a=some o :=
 x.keep a o e (fun q=>z (hs a q)) fun q=>z (hw a q)
theorem Tr.notZ(x:Tr W g s g' s')(hw:∀ b,W b->g.Z b){a:Addr}{o:Obj}(e:s.heap.get? a=some o)(z:¬ g.Z a):¬ g'.Z a :=
 fun q=>z (x.zz a (Uak e) (fun w=>z (hw a w)) q)
structure Kp(g:Gh)(h:Heap)(g':Gh)(h':Heap):Prop where
 grow:∀ r i x,g.ρ r i=some x->g'.ρ r i=some x
 at_:∀ a o,h.get? a=some o->¬ g.Z a->h'.get? a=some o
 nz:∀ a o,h.get? a=some o->¬ g.Z a->¬ g'.Z a
theorem Tr.kp(x:Tr W g s g' s')(hs:∀ b,g.St b->g.Z b)(hw:∀ b,W b->g.Z b):Kp g s.heap g' s'.heap :=
 ⟨x.grow,fun w0 w0 e z=>x.at_ hs hw e z,fun w0 w0 e z=>x.notZ hw e z⟩
variable {h₀ h₁:Heap}
mutual
theorem VR.kp(x:Kp g h₀ g' h₁):∀ (v:V) {u:Value},VR g h₀ v u->VR g' h₁ v u
 | .none,_,h=>by simpa [VR] using h
 | .bool _,_,h=>by simpa [VR] using h
 | .int _,_,h=>by simpa [VR] using h
 | .str _,_,h=>by simpa [VR] using h
 | .tup vs,_,h=>by
  dsimp only [VR] at h ⊢;refine xEEEAAAAA h fun a its n e ho z hv hl=>?_;exact ⟨a,its,n,e,x.at_ _ _ ho z,x.nz _ _ ho z,VRs.kp x vs hv,hl⟩
 | .lst vs,_,h=>by
  dsimp only [VR] at h ⊢;refine xEEEAAAAA h fun a its n e ho z hv hl=>?_;exact ⟨a,its,n,e,x.at_ _ _ ho z,x.nz _ _ ho z,VRs.kp x vs hv,hl⟩
 | .rng _ _ _,_,h=>by
  dsimp only [VR] at h ⊢;refine xEEEEAAAA h fun r t1 t2 t3 e ho z bd=>?_;exact ⟨r,t1,t2,t3,e,x.at_ _ _ ho z,x.nz _ _ ho z,bd⟩
 | .ref _ _,_,h=>by
  dsimp only [VR] at h ⊢;refine xEEAA h fun a d e p=>?_;exact ⟨a,d,e,x.grow _ _ _ p⟩
 | .fn _,_,h=>by simpa [VR] using h
 | .bi _,_,h=>by simpa [VR] using h
theorem VRs.kp(x:Kp g h₀ g' h₁):∀ (vs:List V) {us:List Value},VRs g h₀ vs us->VRs g' h₁ vs us
 | [],_,h=>by simpa [VRs] using h
 | v::vs,_,h=>by
  dsimp only [VRs] at h ⊢;refine xEEAAA h fun u r e a b=>?_;exact ⟨u,r,e,VR.kp x v a,VRs.kp x vs b⟩
end
theorem ER.kp(x:Kp g h₀ g' h₁):∀ (es:List (Str×V)) {l:List DictEntry},ER g h₀ es l->ER g' h₁ es l
 | [],_,h=>by simpa [ER] using h
 | (k,v)::es,_,h=>by
  dsimp only [ER] at h ⊢;refine xEEAAAA h fun e r q a b c=>?_;exact ⟨e,r,q,a,VR.kp x v b,ER.kp x es c⟩
theorem PR.kp(x:Kp g h₀ g' h₁):∀ (es:List (Str×V)) {l:List (Str×Value)},PR g h₀ es l->PR g' h₁ es l
 | [],_,h=>by simpa [PR] using h
 | (k,v)::es,_,h=>by
  dsimp only [PR] at h ⊢;refine xEEAAA h fun e r q b c=>?_;exact ⟨e,r,q,VR.kp x v b,PR.kp x es c⟩
end
section
variable {W:Addr->Prop}{g g':Gh}{s s':Shared}
theorem VR.tr(x:Tr W g s g' s')(hs:∀ b,g.St b->g.Z b)(hw:∀ b,W b->g.Z b)(v:V){u:Value}(h:VR g s.heap v u):VR g' s'.heap v u:=VR.kp (x.kp hs hw) v h
theorem VRs.tr(x:Tr W g s g' s')(hs:∀ b,g.St b->g.Z b)(hw:∀ b,W b->g.Z b)(v:List V){u:List Value}(h:VRs g s.heap v u):VRs g' s'.heap v u:=VRs.kp (x.kp hs hw) v h
theorem ER.tr(x:Tr W g s g' s')(hs:∀ b,g.St b->g.Z b)(hw:∀ b,W b->g.Z b)(es:List (Str×V)){l:List DictEntry}(h:ER g s.heap es l):ER g' s'.heap es l:=ER.kp (x.kp hs hw) es h
theorem PR.tr(x:Tr W g s g' s')(hs:∀ b,g.St b->g.Z b)(hw:∀ b,W b->g.Z b)(es:List (Str×V)){l:List (Str×Value)}(h:PR g s.heap es l):PR g' s'.heap es l:=PR.kp (x.kp hs hw) es h
end
theorem VRs.len{g:Gh}{h:Heap}:∀ {vs:List V} {us:List Value},VRs g h vs us->us.length=vs.length
 | [],_,e=>by dsimp only [VRs] at e;rw [e];rfl
 | v::vs,_,e=>by
  dsimp only [VRs] at e;refine xEEAAA e fun u r qz1 w0 h=>?_;subst qz1;simp [VRs.len h]
theorem VRs.get{g:Gh}{h:Heap}:∀ {vs:List V} {us:List Value},VRs g h vs us->∀ {i:Nat} {v:V},vs[i]?=some v->∃ u,us[i]?=some u/\VR g h v u
 | [],_,_,i,v,q=>by simp at q
 | v::vs,_,e,i,w,q=>by
  dsimp only [VRs] at e;refine xEEAAA e fun u r qz1 a h=>?_;subst qz1;cases i with
  | zero=>simp at q;subst q;exact ⟨u,rfl,a⟩
  | succ i=>exact VRs.get h (by simpa using q)
theorem VRs.app{g:Gh}{h:Heap}:∀ {vs ws:List V} {us xs:List Value},VRs g h vs us->VRs g h ws xs->VRs g h (vs++ws) (us++xs)
 | [],_,_,_,e,f=>by dsimp only [VRs] at e;subst e;exact f
 | v::vs,_,_,_,e,f=>by
  dsimp only [VRs] at e;refine xEEAAA e fun u r qz1 a h=>?_;subst qz1;skip;exact ⟨u,r++_,rfl,a,VRs.app h f⟩
theorem VRs.one{g:Gh}{h:Heap}{v:V}{u:Value}(e:VR g h v u):VRs g h [v] [u]:=by dsimp only [VRs];exact ⟨u,[],rfl,e,rfl⟩
theorem VRs.take{g:Gh}{h:Heap}:∀ (n:Nat) {vs:List V} {us:List Value},VRs g h vs us->VRs g h (vs.take n) (us.take n)
 | 0,_,_,_=>by rfl
 | n+1,[],_,e=>by dsimp only [VRs] at e;subst e;simp [VRs]
 | n+1,v::vs,_,e=>by
  dsimp only [VRs] at e;refine xEEAAA e fun u r qz1 a h=>?_;subst qz1;skip;exact ⟨u,_,rfl,a,VRs.take n h⟩
theorem VRs.drop{g:Gh}{h:Heap}:∀ (n:Nat) {vs:List V} {us:List Value},VRs g h vs us->VRs g h (vs.drop n) (us.drop n)
 | 0,_,_,e=>by simpa using e
 | n+1,[],_,e=>by dsimp only [VRs] at e;subst e;simp [VRs]
 | n+1,v::vs,_,e=>by
  dsimp only [VRs] at e;refine xEEAAA e fun u r qz1 a h=>?_;subst qz1;skip;exact VRs.drop n h
theorem VRs.set{g:Gh}{h:Heap}{w:V}{x:Value}(q:VR g h w x):∀ (n:Nat) {vs:List V} {us:List Value},VRs g h vs us->VRs g h (vs.set n w) (us.set n x)
 | _,[],_,e=>by dsimp only [VRs] at e;subst e;simp [VRs]
 | 0,v::vs,_,e=>by
  dsimp only [VRs] at e;refine xEEAAA e fun u r qz1 a h=>?_;subst qz1;skip;exact ⟨x,r,rfl,q,h⟩
 | n+1,v::vs,_,e=>by
  dsimp only [VRs] at e;refine xEEAAA e fun u r qz1 a h=>?_;subst qz1;skip;exact ⟨u,_,rfl,a,VRs.set q n h⟩
set_option tactic.hygienic true in
theorem Store.get_put{O:Store}{r i:Nat}{o o':Ob}(h:O.get r i=some o')(r' i':Nat):(O.put r i o).get r' i'=if r'=r/\i'=i then some o else O.get r' i':=by
 delta Store.get at h ⊢;delta Store.put;rw [List.getElem?_modify];split at h
 ·rename_i l hl
  by_cases e:r=r'
  ·subst e;simp only [if_true,hl,Option.map_eq_map,Option.map_some,List.getElem?_set];have hi:i < l.length:=by
    rw [List.getElem?_eq_some_iff] at h;exact h.1
   by_cases e':i=i'
   ·subst e';simp [hi]
   ·have:¬ i'=i:=fun q=>e' q.symm;simp [e',this]
  ·have:¬ r'=r:=fun q=>e q.symm;simp only [e,if_false,this,false_and];cases O[r']? <;> rfl
 ·cases h
theorem Store.get_add{O:Store}{r:Nat}{l:List Ob}{o:Ob}(h:O[r]?=some l)(r' i':Nat):(O.add r o).get r' i'=if r'=r/\i'=l.length then some o else O.get r' i':=by
 delta Store.get Store.add;rw [List.getElem?_modify]
 by_cases e:r=r'
 ·subst e;simp only [if_true,h,Option.map_eq_map,Option.map_some,true_and];rw [List.getElem?_append]
  by_cases q:i' < l.length
  ·have:¬ i'=l.length:=Nat.ne_of_lt q;simp [q,this]
  ·by_cases z:i'=l.length
   ·subst z;simp
   ·have h1:l.length < i':=Nat.lt_of_le_of_ne (Nat.le_of_not_lt q) fun e=>z e.symm;have h2:l[i']?=none:=List.getElem?_eq_none (om49 h1);simp only [q,if_false,z,h2];obtain ⟨k,hk⟩:∃ k,i' - l.length=k+1:=⟨i' - l.length - 1,((Nat.sub_add_cancel (Nat.sub_pos_of_lt h1)).symm)⟩
    rw [hk];simp
 ·have:¬ r'=r:=fun q=>e q.symm;simp only [e,if_false,this,false_and];cases O[r']? <;> rfl
theorem Store.get_end{O:Store}{r:Nat}{l:List Ob}(h:O[r]?=some l):O.get r l.length=none:=by
 delta Store.get;rw [h];simp
theorem OR.tr{C:Cx}{W:Addr->Prop}{g g':Gh}{s s':Shared}(x:Tr W g s g' s')(hs:∀ b,g.St b->g.Z b)(hw:∀ b,W b->g.Z b){o:Ob}{a d:Addr}
  (hd:∀ ob,s.heap.get? d=some ob->s'.heap.get? d=some ob) (h:OR C g s.heap o a d):OR C g' s'.heap o a d:=by
 cases o with
 | list vs=>refine xAEEAAA h fun e its n q v l=>?_;exact ⟨e,its,n,hd _ q,VRs.tr x hs hw vs v,l⟩
 | dict es=>refine xAEAAA h fun e its qz1 v l=>?_;obtain ⟨o,k1,k2,q,k3⟩:=qz1;exact ⟨e,its,⟨o,k1,k2,hd _ q,k3⟩,PR.tr x hs hw es v,l⟩
 | inst c es=>refine xAAEEAAA h fun e z its n q v l=>?_;exact ⟨x.at_ hs hw e z,x.notZ hw e z,its,n,hd _ q,ER.tr x hs hw es v,l⟩
theorem Tr.grown{g:Gh}{s s':Shared}(k:∀ b o,s.heap.get? b=some o->s'.heap.get? b=some o)(hg:s'.gens=s.gens)(ho:s'.os=s.os) :
  Tr (fun w0=>False) g s g s' :=
 ⟨fun w0 w0 w0 e=>e,fun b o e w0 w0=>k b o e,fun w0 w0 w0 z=>z,fun w0 z=>z,fun a l w0=>by
  cases e:s.heap.get? a with
  | none=>exact absurd e l
  | some o=>rw [k a o e];exact Option.some_ne_none _,fun w0 a b=>absurd a b,hg,ho⟩
theorem Rel.grown{C:Cx}{g:Gh}{O:Store}{s s':Shared}(R:Rel C g O s.heap)(k:∀ b o,s.heap.get? b=some o->s'.heap.get? b=some o)
  (hg:s'.gens=s.gens) (ho:s'.os=s.os):Rel C g O s'.heap where
 base:=fun b o e=>k b o (R.base b o e)
 zb:=R.zb
 zh:=fun a z=>(Tr.grown (g:=g) k hg ho).live a (R.zh a z) (fun f=>f)
 st:=R.st
 dom:=R.dom
 obj:=fun r i o e=>by
  refine xEEAA (R.obj r i o e) fun a d p q=>?_;exact ⟨a,d,p,OR.tr (W:=fun w0=>False) (Tr.grown k hg ho) R.st (fun w0 f=>f.elim) (k d) q⟩
 inj:=R.inj
theorem Rel.low{C:Cx}{g:Gh}{O:Store}{h:Heap}(R:Rel C g O h):sysModules < h.objs.size:=by
 refine xEAA C.big fun b hb hl=>?_;cases e:C.B.get? b with
 | none=>exact absurd e hl
 | some o=>exact Nat.lt_trans hb (Heap.lt_size (R.base b o e))
section
variable {C:Cx}{g:Gh}{O:Store}{s s':Shared}
set_option tactic.hygienic true in
theorem Rel.put(R:Rel C g O s.heap){r i:Nat}{o o':Ob}{a d:Addr}(e:O.get r i=some o)(hp:g.ρ r i=some (a,d))(hs:Heap.SameBut d s.heap s'.heap)(hl:s'.heap.get? d≠none)
  (hg:s'.gens=s.gens) (ho:s'.os=s.os) (hn:(x:Tr (fun w0=>False) g s g s')->OR C g s'.heap o' a d) :
  Tr (fun w0=>False) g s g s'/\Rel C g (O.put r i o') s'.heap:=by
 have hd:g.St d:=⟨r,i,a,hp⟩
 have live:∀ b,s.heap.get? b≠none->s'.heap.get? b≠none:=fun b l=>by
  by_cases q:b=d
  ·subst q;exact hl
  ·rw [hs.2 b q];exact l
 have x:Tr (fun w0=>False) g s g s':=by
  refine ⟨fun w0 w0 w0 e=>e,fun b ob e n w0=>?_,fun w0 w0 w0 z=>z,fun w0 z=>z,fun b l w0=>live b l,fun w0 a b=>absurd a b,hg,ho⟩;exact (hs.2 b fun q=>n (q▸hd)).trans e
 refine ⟨x,⟨fun b ob q=>?_,R.zb,fun b z=>live b (R.zh b z),R.st,fun r' i' q=>?_,fun r' i' ob q=>?_,R.inj⟩⟩
 ·have:b≠d:=fun z=>by
   subst z;have:=(R.zb _ (R.st _ hd)).1;rw [q] at this;cases this
  exact (hs.2 b this).trans (R.base b ob q)
 ·rw [Store.get_put e] at q;split at q
  ·cases q
  ·exact R.dom _ _ q
 ·rw [Store.get_put e] at q;split at q
  ·rename_i z;refine xAA z fun qz1 qz2=>?_;subst qz1;subst qz2;cases q;exact ⟨a,d,hp,hn x⟩
  ·rename_i z;refine xEEAA (R.obj _ _ _ q) fun a' d' p' q'=>?_;refine ⟨a',d',p',OR.tr x R.st (fun w0 f=>f.elim) (fun ob z'=>?_) q'⟩;have:d'≠d:=fun y=>by
    subst y;exact z (R.inj _ _ _ _ _ _ _ p' hp)
   exact (hs.2 d' this).trans z'
noncomputable def Gh.ext(g:Gh)(r i:Nat)(a d:Addr):Gh:=⟨fun r' i'=>if r'=r/\i'=i then some (a,d) else g.ρ r' i',fun b=>g.Z b\/b=d⟩
set_option tactic.hygienic true in
theorem Rel.add(R:Rel C g O s.heap){r:Nat}{l:List Ob}{o:Ob}{a d:Addr}(e:O[r]?=some l)(k:∀ b ob,s.heap.get? b=some ob->s'.heap.get? b=some ob)
  (hd:s.heap.get? d=none) (hd':s'.heap.get? d≠none) (hy:sysModules < d)
  (hg:s'.gens=s.gens) (ho:s'.os=s.os) (hn:Tr (fun w0=>False) g s (g.ext r l.length a d) s'->OR C (g.ext r l.length a d) s'.heap o a d) :
  Tr (fun w0=>False) g s (g.ext r l.length a d) s'/\Rel C (g.ext r l.length a d) (O.add r o) s'.heap:=by
 have hnone:g.ρ r l.length=none:=R.dom _ _ (Store.get_end e);have hnz:¬ g.St d:=fun q=>R.zh d (R.st d q) hd;have live:=(Tr.grown (g:=g) k hg ho).live;have x:Tr (fun w0=>False) g s (g.ext r l.length a d) s':=by
  refine ⟨fun r' i' p q=>?_,fun b ob q w0 w0=>k b ob q,fun b q w0 z=>?_,fun b z=>.inl z,live,fun b p q=>?_,hg,ho⟩
  ·show (if _ then _ else _)=_;split
   ·rename_i z;refine xAA z fun qz1 qz2=>?_;subst qz1;subst qz2;rw [hnone] at q;cases q
   ·exact q
  ·rcases z with z | z
   ·exact z
   ·subst z;exact absurd hd q
  ·refine xEEEA p fun r' i' a' p=>?_;have p:(if r'=r/\i'=l.length then some (a,d) else g.ρ r' i')=some (a',b):=p;split at p
   ·cases p;exact .inl hd
   ·exact absurd ⟨r',i',a',p⟩ q
 have st:∀ b,(g.ext r l.length a d).St b->(g.ext r l.length a d).Z b:=fun b p=>by
  refine xEEEA p fun r' i' a' p=>?_;have p:(if r'=r/\i'=l.length then some (a,d) else g.ρ r' i')=some (a',b):=p;split at p
  ·cases p;exact .inr rfl
  ·exact .inl (R.st b ⟨r',i',a',p⟩)
 refine ⟨x,⟨fun b ob q=>k b ob (R.base b ob q),fun b z=>?_,fun b z=>?_,st,fun r' i' q=>?_,fun r' i' ob q=>?_,fun r' i' r'' i'' a' a'' d' p q=>?_⟩⟩
 ·rcases z with z | z
  ·exact R.zb b z
  ·subst z;refine ⟨?_,hy⟩;cases q:C.B.get? b with
   | none=>rfl
   | some ob=>have:=R.base b ob q;rw [hd] at this;cases this
 ·rcases z with z | z
  ·exact live b (R.zh b z) (fun f=>f)
  ·subst z;exact hd'
 ·rw [Store.get_add e] at q;split at q
  ·cases q
  ·rename_i z;show (if _ then _ else _)=_;rw [if_neg z];exact R.dom _ _ q
 ·rw [Store.get_add e] at q;split at q
  ·rename_i z;refine xAA z fun qz1 qz2=>?_;subst qz1;subst qz2;cases q;refine ⟨a,d,by show (if _ then _ else _)=_;rw [if_pos ⟨rfl,rfl⟩],hn x⟩
  ·rename_i z;refine xEEAA (R.obj _ _ _ q) fun a' d' p' q'=>?_;exact ⟨a',d',x.grow _ _ _ p',OR.tr x R.st (fun w0 f=>f.elim) (k d') q'⟩
 ·have p:(if r'=r/\i'=l.length then some (a,d) else g.ρ r' i')=some (a',d'):=p;have q:(if r''=r/\i''=l.length then some (a,d) else g.ρ r'' i'')=some (a'',d'):=q;split at p <;> split at q
  ·rename_i z z';exact ⟨z.1.trans z'.1.symm,z.2.trans z'.2.symm⟩
  ·cases p;exact absurd ⟨r'',i'',a'',q⟩ hnz
  ·cases q;exact absurd ⟨r',i',a',p⟩ hnz
  ·exact R.inj _ _ _ _ _ _ _ p q
end
theorem Uap{n:Nat}(h:n<=lim):n<=sizeLine:=Nat.le_trans h (by delta lim sizeLine;decide)
structure Facts(C:Cx):Prop where
 X:C.K.In C.B
 lim:C.B.NoLimit
 ns:∃ mg mb,C.B.Ns mainGlobals mg/\C.B.Ns builtinsNs mb/\(∀ x a,lk x C.P.globs=some a->mg x=some (.ref a)) /\
  (∀ x:Str,x="len"\/x="ord"\/x="chr"->lk x C.P.globs=none->mg x=none/\mb x=some (.builtin x.toString)) /\
  (∀ x:Str,x="range"\/x="list"\/x="tuple"->lk x C.P.globs=none->mg x=none/\mb x=some (.type x.toString))
structure Room(A:Around)(d:Nat):Prop where
 handled:A.handled=none
 depth:A.depth+2*d+2 < 1000
 units:A.units+8*d+200 < 9900
structure FR(g:Gh)(h:Heap)(env:Env)(fr:Fr):Prop where
 kind:env.scope.kind=.function
 glob:env.globals=mainGlobals
 blt:env.builtins=builtinsNs
 dbg:∀ p ∈ env.scope.names,(p.1==Qdf)=false/\(p.1==Qdg)=false
 zl:g.Z env.locals
 sl:¬ g.St env.locals
 ns:∃ m,h.Ns env.locals m/\∀ x v,lk x fr=some v->env.kindOf x=some .local->∃ u,m x=some u/\VR g h v u
 var:∀ x v,lk x fr=some v->env.kindOf x=some .local\/(env.kindOf x=some .cell\/env.kindOf x=some .free)/\∃ c u,env.cells.lookup x=some c/\h.IsCell c (some u)/\VR g h v u
 cell:∀ x c,env.cells.lookup x=some c->g.Z c/\¬ g.St c/\c≠env.locals/\∃ u,h.IsCell c u
 has:∀ x,env.kindOf x=some .cell->∃ c,env.cells.lookup x=some c
 apart:∀ x y c,env.cells.lookup x=some c->env.cells.lookup y=some c->x=y
section
variable {C:Cx}
noncomputable def Ev(C:Cx)(A:Around){α:Type}(t:Sem α)(g:Gh)(O:Store)(s:Shared)(T:Gh->Heap->α->Prop):Prop :=
 0 < s.toks->∀ (Q:α->Shared->Prop) (E:Value->Shared->Prop),(∀ a s' g',Tr (fun w0=>False) g s g' s'->Rel C g' O s'.heap->T g' s'.heap a->Q a s')->wpAny (model C.prog C.w) A t Q E s
variable {A:Around}{g:Gh}{O O₁ O':Store}{s:Shared}
theorem Ev.bind{α β:Type}{t:Sem α}{k:α->Sem β}{T:Gh->Heap->α->Prop}{T':Gh->Heap->β->Prop}(h:Ev C A t g O₁ s T)
  (hk:∀ a s₁ g₁,Tr (fun w0=>False) g s g₁ s₁->Rel C g₁ O₁ s₁.heap->T g₁ s₁.heap a->Ev C A (k a) g₁ O' s₁ T'):Ev C A (t >>= k) g O' s T' :=
 fun p Q E q=>wpAny_bind (wpAny_mono (wpAny_toks_of p (h p (fun a s₁=>0 < s₁.toks->wpAny (model C.prog C.w) A (k a) Q E s₁) E fun a s₁ g₁ x R t' p'=>hk a s₁ g₁ x R t' p' Q E fun b s₂ g₂ x₂ R2 t₂=>q b s₂ g₂ (x.trans x₂) R2 t₂))
  (fun w0 w0 x=>x.2 x.1) fun w0 w0 x=>x.2)
theorem Ev.mono{α:Type}{t:Sem α}{T T':Gh->Heap->α->Prop}(h:Ev C A t g O s T)(k:∀ g' h' a,T g' h' a->T' g' h' a):Ev C A t g O s T' :=
 fun p Q E q=>h p Q E fun a s' g' x R t'=>q a s' g' x R (k _ _ _ t')
theorem Ev.same{α:Type}{t:Sem α}{T:Gh->Heap->α->Prop}(R:Rel C g O s.heap)
  (h:∀ (Q:α->Shared->Prop) (E:Value->Shared->Prop),(∀ a k,T g s.heap a->Q a { s with toks:=k })->wpAny (model C.prog C.w) A t Q E s):Ev C A t g O s T :=
 fun w0 Q E q=>h Q E fun a k t'=>q a _ g (Tr.grown (fun w0 w0 e=>e) rfl rfl) (R.grown (s':={ s with toks:=k }) (fun w0 w0 e=>e) rfl rfl) t'
theorem Tr.tok{W:Addr->Prop}(k:Nat):Tr W g s g { s with toks:=k }:=(Tr.grown (s:=s) (s':={ s with toks:=k }) (fun w0 w0 e=>e) rfl rfl).none
theorem Rel.tok(R:Rel C g O s.heap)(k:Nat):Rel C g O ({ s with toks:=k }:Shared).heap:=R
theorem FR.tr{s':Shared}{g':Gh}{env:Env}{fr:Fr}(F:FR g s.heap env fr)(R:Rel C g O s.heap)(x:Tr (fun w0=>False) g s g' s'):FR g' s'.heap env fr:=by
 have nf:∀ b,False->g.Z b:=fun w0 f=>f.elim;have nst:∀ {c:Addr} {o:Obj},s.heap.get? c=some o->¬ g.St c->¬ g'.St c:=fun e n q=>by
  rcases x.fresh _ q n with z | z
  ·rw [e] at z;cases z
  ·exact z
 have kp:∀ {c:Addr} {o:Obj},s.heap.get? c=some o->¬ g.St c->s'.heap.get? c=some o:=fun e n=>x.keep _ _ e n fun f=>f;refine xEAA F.ns fun m qz1 hv=>?_;obtain ⟨o,es,ep,ho,hd,hk,hm⟩:=qz1;refine ⟨F.kind,F.glob,F.blt,F.dbg,x.zk _ F.zl,nst ho F.sl,⟨m,⟨o,es,ep,kp ho F.sl,hd,hk,hm⟩,fun y v e k=>?_⟩,fun y v e=>?_,fun y c e=>?_,F.has,F.apart⟩
 ·refine xEAA (hv y v e k) fun u a b=>?_;exact ⟨u,a,VR.tr x R.st nf v b⟩
 ·rcases F.var y v e with k | ⟨k,c,u,a,⟨oc,hc,hcd⟩,b⟩
  ·exact .inl k
  ·exact .inr ⟨k,c,u,a,⟨oc,kp hc (F.cell y c a).2.1,hcd⟩,VR.tr x R.st nf v b⟩
 ·refine xAAAEEAA (F.cell y c e) fun z n l u oc hc hcd=>?_;exact ⟨x.zk _ z,nst hc n,l,u,oc,kp hc n,hcd⟩
theorem VR.tr'{s':Shared}{g':Gh}{v:V}{u:Value}(h:VR g s.heap v u)(R:Rel C g O s.heap)(x:Tr (fun w0=>False) g s g' s'):VR g' s'.heap v u:=VR.tr x R.st (fun w0 f=>f.elim) v h
theorem VRs.tr'{s':Shared}{g':Gh}{v:List V}{u:List Value}(h:VRs g s.heap v u)(R:Rel C g O s.heap)(x:Tr (fun w0=>False) g s g' s'):VRs g' s'.heap v u:=VRs.tr x R.st (fun w0 f=>f.elim) v h
set_option tactic.hygienic true in
theorem Uos{c:Const}{env:Env}{k:Nat}{pos:Pos}{v:V}(h:constV c O=some (v,O'))(R:Rel C g O s.heap) :
  Ev C A (eval (.Constant c k pos) env) g O' s fun g' h' u=>VR g' h' v u:=by
 cases c with
 | none=>cases h;exact Ev.same R fun Q E q=>wpAny_Constant_none (q _ s.toks (by rfl))
 | bool b=>cases h;exact Ev.same R fun Q E q=>wpAny_Constant_bool (q _ s.toks (by rfl))
 | int i=>cases h;exact Ev.same R fun Q E q=>wpAny_Constant_int (q _ _ (by simp [VR]))
 | str x =>
  dsimp only [constV] at h;split at h
  ·rename_i hx;cases h;exact Ev.same R fun Q E q=>Constant_str (q _ _ (by dsimp only [VR];exact ⟨_,rfl,hx.1,hx.2⟩))
  ·cases h
 | _=>cases h
theorem Ube{α:Type}:∀ {l:List (Str×α)} {x:Str} {v:α},l.lookup x=some v->(x,v) ∈ l
 | (k,v)::r,n,c,h=>by
  rw [List.lookup_cons] at h;cases hb:n==k with
  | true=>rw [hb] at h;cases h;rw [beq_iff_eq.mp hb];exact List.mem_cons_self
  | false=>rw [hb] at h;exact List.mem_cons_of_mem _ (Ube h)
theorem lk_hit{α:Type}{x:Str}{v:α}{r:List (Str×α)}:lk x ((x,v)::r)=some v:=if_pos (beq_self_eq_true x)
theorem Udo{α:Type}{x y:Str}{v:α}{r:List (Str×α)}(h:y≠x):lk x ((y,v)::r)=lk x r:=if_neg fun z=>h (beq_iff_eq.mp z)
theorem lk_mem{α:Type}{x:Str}{v:α}:∀ {l:List (Str×α)},lk x l=some v->(x,v) ∈ l
 | [],e=>by cases e
 | (y,w)::r,e=>by
  by_cases q:y=x
  ·subst q;rw [lk_hit] at e;cases e;exact List.mem_cons_self
  ·rw [Udo q] at e;exact List.mem_cons_of_mem _ (lk_mem e)
theorem Urc:∀ e ∈ biTab,((e.1="len"\/e.1="ord"\/e.1="chr")/\biVal e.2=.builtin e.1.toString)\/((e.1="range"\/e.1="list"\/e.1="tuple")/\biVal e.2=.type e.1.toString):=by decide +kernel
theorem Ula{x:Str}{b:Bi}(h:biName x=some b):((x="len"\/x="ord"\/x="chr")/\biVal b=.builtin x.toString)\/((x="range"\/x="list"\/x="tuple")/\biVal b=.type x.toString):=Urc (x,b) (lk_mem h)
set_option tactic.hygienic true in
theorem Uqk{sc:Scope}{env:Env}{fr:Fr}{x:Str}{pos:Pos}{v:V}(Fa:Facts C)(F:FR g s.heap env fr)(R:Rel C g O s.heap)
  (hsc:∀ y,sc.names.lookup y=some .globalImplicit->env.kindOf y=some .globalImplicit) (h:nameV C.P sc fr x O=some (v,O')) :
  Ev C A (eval (.Name x pos) env) g O' s fun g' h' u=>VR g' h' v u:=by
 delta nameV lift at h;split at h
 case h_2=>cases h
 rename_i v' hv';cases h;delta nameO at hv';split at hv'
 ·rename_i v' hv;cases hv';refine Ev.same R fun Q E q=>?_;rcases F.var x v hv with k | ⟨k,c,u,hc,hu,hr⟩
  ·refine xEAA F.ns fun m hm hmv=>?_;refine xEAA (hmv x v hv k) fun u hu hr=>?_;exact wpAny_Name (wpAny_loadName_local F.kind k hm hu (q u s.toks hr)) (F.dbg (x,.local) (Ube k)).1
  ·rcases k with k | k
   ·exact wpAny_Name (wpAny_loadName_cell F.kind k hc hu (q u s.toks hr)) (F.dbg (x,_) (Ube k)).1
   ·exact wpAny_Name (wpAny_loadName_free F.kind k hc hu (q u s.toks hr) (F.dbg (x,_) (Ube k)).2) (F.dbg (x,_) (Ube k)).1
 ·split at hv'
  ·rename_i hk;have k:=hsc x hk;have hd:=(F.dbg (x,_) (Ube k)).1;refine xEEAAAAA Fa.ns fun mg mb ng nb hg hb ht=>?_;have ng':s.heap.Ns env.globals mg:=F.glob▸ng.keeps R.base;have nb':s.heap.Ns env.builtins mb:=F.blt▸nb.keeps R.base;split at hv'
   ·rename_i a ha;cases hv';exact Ev.same R fun Q E q=>Name_function_global F.kind k (loadGlobal_global ng' (hg x a ha) (q _ s.toks (by rfl))) hd
   ·rename_i hn;refine xEAA (Option.map_eq_some_iff.mp hv') fun b hb' qz1=>?_;subst qz1;rcases Ula hb' with ⟨hy,e⟩ | ⟨hy,e⟩
    ·refine xAA (hb x hy hn) fun h1 h2=>?_;exact Ev.same R fun Q E q=>Name_function_global F.kind k (loadGlobal_builtin ng' h1 nb' h2 (q _ s.toks (by dsimp only [VR];exact e.symm))) hd
    ·refine xAA (ht x hy hn) fun h1 h2=>?_;exact Ev.same R fun Q E q=>Name_function_global F.kind k (loadGlobal_builtin ng' h1 nb' h2 (q _ s.toks (by dsimp only [VR];exact e.symm))) hd
  ·cases hv'
end
theorem Uaa{α:Type}{r:α}(e:(Option.none:Option α)=some r):False:=by cases e
theorem Uac{α:Type}{a b:α}(e:some a=some b):a=b:=Option.some.inj e
theorem obE{α β:Type}{x:Option α}{f:α->Option β}{z:Option β}{r:β}{P:Prop}(e:ob x f z=some r)(h:∀ a,x=some a->f a=some r->P)(h2:x=none->z=some r->P):P:=by
 cases x with
 | none=>exact h2 rfl e
 | some a=>exact h a rfl e
theorem obS{α β:Type}{x:Option α}{f:α->Option β}{r:β}{P:Prop}(e:ob x f none=some r)(h:∀ a,x=some a->f a=some r->P):P:=obE e h fun w0 e=>(Uaa e).elim
theorem Ubo{v:V}{x:Str}(e:strO v=some x):v=.str x:=by cases v <;> first | exact (Uaa e).elim | exact congrArg V.str (Uac e)
theorem Ub1{v:V}{x:Int}(e:intO v=some x):v=.int x:=by cases v <;> first | exact (Uaa e).elim | exact congrArg V.int (Uac e)
theorem Ugk{v:V}{x:List V}(e:tupO v=some x):v=.tup x:=by cases v <;> first | exact (Uaa e).elim | exact congrArg V.tup (Uac e)
theorem Ue1{v:V}{x:List V}(e:lstO v=some x):v=.lst x:=by cases v <;> first | exact (Uaa e).elim | exact congrArg V.lst (Uac e)
theorem Ugn{α β:Type}{f:α->Option β}{g:β->α}(H:∀ a b,f a=some b->a=g b):∀ (l:List α) {r:List β},allO f l=some r->l=r.map g
 | [],r,e=>by cases e;rfl
 | a::l,r,e=>obS e fun b q e=>obS e fun r' q' e=>by
  cases e;rw [H a b q,Ugn H l q',List.map_cons]
theorem Ulh{α β γ:Type}{f:α->Option β}{g:γ->α}{k:γ->β}(H:∀ b,f (g b)=some (k b)):∀ l:List γ,allO f (l.map g)=some (l.map k)
 | []=>rfl
 | b::l=>by
  show ob (f (g b)) (fun d=>ob (allO f (l.map g)) (fun ds=>some (d::ds)) none) none=_;rw [H b,Ulh H l];rfl
section
variable {C:Cx}{A:Around}{g:Gh}{O O':Store}{s:Shared}{h:Heap}
noncomputable abbrev LV(g:Gh)(h:Heap)(u:Value)(vs:List V):Prop:=∃ x its n,u=.ref x/\h.get? x=some (lo its n)/\VRs g h vs its.toList/\vs.length<=lim
theorem Usz{r i:Nat}{u:Value}{vs:List V}(R:Rel C g O h)(q:O.get r i=some (.list vs))(v:VR g h (.ref r i) u):LV g h u vs:=by
 refine xEEAA v fun a d q1 p=>?_;refine xEEAA (R.obj r i _ q) fun a' d' p' o=>?_;have pd:(a,d)=(a',d'):=Uac (p.symm.trans p');refine xAEEAAA o fun q2 its n w1 w2 w3=>?_;cases pd;cases q2;exact ⟨_,its,n,q1,w1,w2,w3⟩
theorem Ucp{v:V}{z:Nat×Nat×Ob}(e:objO O v=some z):v=.ref z.1 z.2.1/\O.get z.1 z.2.1=some z.2.2:=by
 cases v with
 | ref r i=>exact obS e fun o q e=>by cases e;exact ⟨rfl,q⟩
 | _=>exact (Uaa e).elim
theorem Ubc{v:V}{z:Nat×Nat×List V}(e:lref O v=some z):v=.ref z.1 z.2.1/\O.get z.1 z.2.1=some (.list z.2.2):=obS e fun o q e=>obS e fun vs q2 e=>by
 cases e;exact ⟨(Ucp q).1,(Ucp q).2.trans (congrArg some (by cases h:o.2.2 <;> rw [h] at q2 <;> first | exact (Uaa q2).elim | exact congrArg Ob.list (Uac q2)))⟩
theorem Ub9{v:V}{z:Nat×Nat×List (Str×V)}(e:dref O v=some z):v=.ref z.1 z.2.1/\O.get z.1 z.2.1=some (.dict z.2.2):=obS e fun o q e=>obS e fun vs q2 e=>by
 cases e;exact ⟨(Ucp q).1,(Ucp q).2.trans (congrArg some (by cases h:o.2.2 <;> rw [h] at q2 <;> first | exact (Uaa q2).elim | exact congrArg Ob.dict (Uac q2)))⟩
theorem Uas{a:V}{u:Value}{vs:List V}(e:asList O a=some vs)(R:Rel C g O h)(v:VR g h a u):LV g h u vs:=obE e
 (fun ws q e=>by cases e;cases Ue1 q;exact xEEEAAAAA v fun a its n q b w0 c d=>⟨a,its,n,q,b,c,d⟩)
 fun w0 e=>obS e fun z q e=>by cases e;exact Usz R (Ubc q).2 ((Ubc q).1▸v)
noncomputable abbrev DOk(h:Heap)(n:Nat)(u:Value)(d:PyData):Prop:=∃ as,Reads h u d as/\d.canLay0=true/\d.depth<=n
theorem Up7{v:V}{u:Value}{d:PyData}{n:Nat}(e:scal v=some d)(r:VR g h v u):DOk h n u d:=by
 cases v with
 | none=>cases e;cases (show u=.none from r);exact ⟨[],.none,rfl,Nat.zero_le _⟩
 | bool b=>cases e;cases (show u=.bool b from r);exact ⟨[],.bool b,rfl,Nat.zero_le _⟩
 | int i=>cases e;exact xEA r fun t q=>q▸⟨[],.int i t,rfl,Nat.zero_le _⟩
 | str x=>cases e;exact xEAAA r fun t q o w0=>q▸⟨[],.str x t,o,Nat.zero_le _⟩
 | _=>exact (Uaa e).elim
theorem Ujt{f:V->Option PyData}{n:Nat}(H:∀ v {u d},f v=some d->VR g h v u->DOk h n u d):∀ (vs:List V) {us:List Value} {ds:List PyData},allO f vs=some ds->VRs g h vs us->∃ as,ReadsAll h us ds as/\PyData.canLayAll0 ds=true/\PyData.depthAll ds<=n
 | [],us,ds,e,r=>by cases e;cases (show us=[] from r);exact ⟨[],.nil,rfl,Nat.zero_le _⟩
 | v::vs,us,ds,e,r=>obS e fun d q e=>obS e fun ds' q' e=>by
  cases e;refine xEEAAA r fun u t qz a b=>?_;cases qz;refine xEAAA (H v q a) fun as r1 r2 r3=>?_;refine xEAAA (Ujt H vs q' b) fun bs s1 s2 s3=>?_;exact ⟨as++bs,.cons r1 s1,Bool.and_eq_true_iff.mpr ⟨r2,s2⟩,Nat.max_le.mpr ⟨r3,s3⟩⟩
theorem toD_ok(R:Rel C g O h):∀ (n:Nat) (v:V) {u:Value} {d:PyData},toD O n v=some d->VR g h v u->DOk h n u d
 | 0,v,u,d,e,r=>Up7 e r
 | n+1,v,u,d,e,r=>obE e
  (fun vs q (e:ob (allO (toD O n) vs) (fun ds=>some (PyData.tuple ds)) none=some d)=>obS e fun ds q' e=>by
   cases e;cases Ugk q;refine xEEEAAAAA r fun a its k qz ho w0 hv w0=>?_;refine xEAAA (Ujt (fun v u d=>toD_ok R n v) vs q' hv) fun as r1 r2 r3=>?_;exact ⟨as,qz▸.tuple ho rfl rfl r1,r2,Nat.succ_le_succ r3⟩)
  fun w0 e=>obE e
   (fun vs q (e:ob (allO (toD O n) vs) (fun ds=>some (PyData.list ds)) none=some d)=>obS e fun ds q' e=>by
    cases e;refine xEEEAAAA (Uas q R r) fun a its k qz ho hv w0=>?_;refine xEAAA (Ujt (fun v u d=>toD_ok R n v) vs q' hv) fun as r1 r2 r3=>?_;exact ⟨a::as,qz▸.list ho rfl rfl r1,r2,Nat.succ_le_succ r3⟩)
   fun w0 e=>Up7 e r
theorem Uuc(R:Rel C g O h)(n:Nat)(vs:List V){us:List Value}{ds:List PyData}(e:toDs O n vs=some ds)(r:VRs g h vs us):∃ as,ReadsAll h us ds as/\PyData.canLayAll0 ds=true/\PyData.depthAll ds<=n :=
 Ujt (fun v w0 w0=>toD_ok R n v) vs e r
end
section
variable {C:Cx}{A:Around}{g:Gh}{O O':Store}{s:Shared}{h:Heap}
theorem Ubs(h:Heap):h.get? h.objs.size=none:=by
 cases e:h.get? h.objs.size with
 | none=>rfl
 | some o=>exact absurd (Heap.lt_size e) (Nat.lt_irrefl _)
theorem Rel.fresh(R:Rel C g O h):¬ g.Z h.objs.size:=fun z=>R.zh _ z (Ubs h)
theorem Ev.up{α:Type}{t:Sem α}{T:Gh->Heap->α->Prop}(R:Rel C g O s.heap)
  (h:∀ (Q:α->Shared->Prop) (E:Value->Shared->Prop),(∀ a s',(∀ b o,s.heap.get? b=some o->s'.heap.get? b=some o)->s'.gens=s.gens->s'.os=s.os ->
   T g s'.heap a->Q a s')->wpAny (model C.prog C.w) A t Q E s):Ev C A t g O s T :=
 fun w0 Q E q=>h Q E fun a s' k hg ho t'=>q a s' g (Tr.grown k hg ho) (R.grown k hg ho) t'
theorem VRs.up{s':Shared}{vs:List V}{us:List Value}(R:Rel C g O s.heap)(k:∀ b o,s.heap.get? b=some o->s'.heap.get? b=some o)(hg:s'.gens=s.gens)(ho:s'.os=s.os)
  (v:VRs g s.heap vs us):VRs g s'.heap vs us:=VRs.tr' v R (Tr.grown k hg ho)
theorem VR.newList{vs:List V}{us:Array Value}(R:Rel C g O s.heap)(v:VRs g s.heap vs us.toList)(l:vs.length<=lim)(k:Nat) :
  VR g ({ s with heap:=s.heap.push (lo us k) }:Shared).heap (.lst vs) (.ref s.heap.objs.size):=by
 exact ⟨_,us,k,rfl,Heap.get?_push_size _ rfl,R.fresh,VRs.up (s:=s) (s':={ s with heap:=s.heap.push (lo us k) }) R (fun b o e=>Heap.get?_push_of_some _ e) rfl rfl v,l⟩
theorem VR.newTup{vs:List V}{us:Array Value}(R:Rel C g O s.heap)(v:VRs g s.heap vs us.toList)(l:vs.length<=lim)(k:Nat) :
  VR g ({ s with heap:=s.heap.push (tpo us k) }:Shared).heap (.tup vs) (.ref s.heap.objs.size):=by
 exact ⟨_,us,k,rfl,Heap.get?_push_size _ rfl,R.fresh,VRs.up (s:=s) (s':={ s with heap:=s.heap.push (tpo us k) }) R (fun b o e=>Heap.get?_push_of_some _ e) rfl rfl v,l⟩
theorem Umf{x y:Str}(hx:sOk x=true)(hy:sOk y=true):sOk (x++y)=true:=by
 delta sOk at *;rw [Str.cps_append,Array.all_append,hx,hy];rfl
theorem VR.mkStr{x:Str}{t:Tok}(ho:sOk x=true)(hl:x.length<=lim):VR g h (.str x) (.str x t):=⟨t,rfl,ho,hl⟩
theorem VR.mkInt{i:Int}{t:Tok}:VR g h (.int i) (.int i t):=⟨t,rfl⟩
theorem VR.mkBool{b:Bool}:VR g h (.bool b) (.bool b):=rfl
theorem VR.oInt{v:V}{i:Int}{t:Tok}(e:some (V.int i)=some v):VR g h v (.int i t):=Uac e▸VR.mkInt
theorem ob2E{α β γ:Type}{f:α->Option β}{a b:α}{k:β->β->Option γ}{z:Option γ}{r:γ}{P:Prop}(e:ob2 f a b k z=some r)(h:∀ x y,f a=some x->f b=some y->k x y=some r->P)(h2:z=some r->P):P:=by
 cases q:f a with
 | none=>simp only [ob2,q] at e;exact h2 e
 | some x =>
  cases q2:f b with
  | none=>simp only [ob2,q,q2] at e;exact h2 e
  | some y=>simp only [ob2,q,q2] at e;exact h x y q q2 e
theorem ob2S{α β γ:Type}{f:α->Option β}{a b:α}{k:β->β->Option γ}{r:γ}{P:Prop}(e:ob2 f a b k none=some r)(h:∀ x y,f a=some x->f b=some y->k x y=some r->P):P:=ob2E e h fun e=>(Uaa e).elim
theorem iteS{γ:Type}{c:Prop}[Decidable c]{x:Option γ}{r:γ}{P:Prop}(e:(if c then x else none)=some r)(h:c->x=some r->P):P:=by
 by_cases q:c
 ·rw [if_pos q] at e;exact h q e
 ·rw [if_neg q] at e;exact (Uaa e).elim
theorem int1{a:V}{x:Int}{u:Value}{T:Value->Prop}(q:intO a=some x)(v:VR g h a u)(k:∀ t,T (.int x t)):T u:=by
 cases Ub1 q;exact xEA v fun t e=>e▸k t
theorem str1{a:V}{x:Str}{u:Value}{T:Value->Prop}(q:strO a=some x)(v:VR g h a u)(k:∀ t,sOk x=true->x.length<=lim->T (.str x t)):T u:=by
 cases Ubo q;exact xEAAA v fun t e o l=>e▸k t o l
theorem int2{a b:V}{x y:Int}{u w:Value}{T:Value->Value->Prop}(q1:intO a=some x)(q2:intO b=some y)(v1:VR g h a u)(v2:VR g h b w)(k:∀ t t',T (.int x t) (.int y t')):T u w :=
 int1 (T:=fun u=>T u w) q1 v1 fun t=>int1 (T:=fun w=>T (.int x t) w) q2 v2 fun t'=>k t t'
theorem str2{a b:V}{x y:Str}{u w:Value}{T:Value->Value->Prop}(q1:strO a=some x)(q2:strO b=some y)(v1:VR g h a u)(v2:VR g h b w)(k:∀ t t',sOk x=true->x.length<=lim->sOk y=true->y.length<=lim->T (.str x t) (.str y t')):T u w :=
 str1 (T:=fun u=>T u w) q1 v1 fun t o l=>str1 (T:=fun w=>T (.str x t) w) q2 v2 fun t' o' l'=>k t t' o l o' l'
noncomputable abbrev EvV(C:Cx)(A:Around)(t:Sem Value)(g:Gh)(O:Store)(s:Shared)(v:V):Prop:=Ev C A t g O s fun g' h' u=>VR g' h' v u
section
variable {a b v:V}{ua ub:Value}
theorem add_ok(R:Rel C g O s.heap)(ha:VR g s.heap a ua)(hb:VR g s.heap b ub)(e:binV .Add a b O=some v):EvV C A (binaryOp .Add ua ub) g O s v :=
 ob2E e (fun x y q1 q2 e=>int2 (T:=fun u w=>EvV C A (binaryOp .Add u w) g O s v) q1 q2 ha hb fun t t'=>Ev.same R fun Q E q=>PyProof.Rows.add_int (q _ _ (VR.oInt e)))
  fun e=>ob2E e (fun x y q1 q2 e=>iteS e fun hl e=>str2 (T:=fun u w=>EvV C A (binaryOp .Add u w) g O s v) q1 q2 ha hb fun t t' o1 l1 o2 l2 =>
    Ev.same R fun Q E q=>PyProof.Rows.add_str (fun t' k=>q _ _ (Uac e▸VR.mkStr (Umf o1 o2) (by rw [Str.length_append];exact hl))) (Uap hl))
   fun e=>ob2S e fun x y q1 q2 e=>iteS e fun hl e =>
    xEEEAAAA (Uas q1 R ha) fun a1 its n w1 g1 v1 l1=>xEEEAAAA (Uas q2 R hb) fun a2 its2 n2 w2 g2 v2 l2=>by
     subst w1 w2;have h1:its.size=x.length:=VRs.len v1;have h2:its2.size=y.length:=VRs.len v2;refine Ev.up R fun Q E q=>P.add_list g1 g2 (q _ _ (fun b o e=>Heap.get?_push_of_some _ e) rfl rfl (Uac e▸VR.newList (k:=0) R (by rw [Array.toList_append];exact VRs.app v1 v2) (by rw [List.length_append];exact hl))) (Uap (by rw [h1,h2];exact hl))
theorem Ute{op:Operator}(R:Rel C g O s.heap)(ha:VR g s.heap a ua)(hb:VR g s.heap b ub)(e:binV op a b O=some v):EvV C A (binaryOp op ua ub) g O s v:=by
 have ii:∀ (x y:Int) (q1:intO a=some x) (q2:intO b=some y),(∀ t t',EvV C A (binaryOp op (.int x t) (.int y t')) g O s v)->EvV C A (binaryOp op ua ub) g O s v :=
  fun x y q1 q2 k=>int2 (T:=fun u w=>EvV C A (binaryOp op u w) g O s v) q1 q2 ha hb k
 cases op with
 | Add=>exact add_ok R ha hb e
 | Sub=>exact ob2S e fun x y q1 q2 e=>ii x y q1 q2 fun t t'=>Ev.same R fun Q E q=>PyProof.Rows.sub_int (q _ _ (VR.oInt e))
 | Mult=>exact ob2S e fun x y q1 q2 e=>iteS e fun hl e=>ii x y q1 q2 fun t t'=>Ev.same R fun Q E q=>PyProof.Rows.mul_int (q _ _ (VR.oInt e)) (IntMulOk.of_left (intBits_le_64 (by omega) (by omega)))
 | Mod=>exact ob2S e fun x y q1 q2 e=>iteS e fun hl e=>ii x y q1 q2 fun t t'=>Ev.same R fun Q E q=>mod_int' (Int.ne_of_gt hl) (q _ _ (VR.oInt e))
 | FloorDiv=>exact ob2S e fun x y q1 q2 e=>iteS e fun hl e=>ii x y q1 q2 fun t t'=>Ev.same R fun Q E q=>floordiv_int (Int.ne_of_gt hl.1) (q _ _ (VR.oInt e)) (.inl (PyProof.noPylong_small (by omega)))
 | _=>exact (Uaa e).elim
theorem Uc6{v:V}{u:Value}{d:PyData}(R:Rel C g O h)(e:toD O 8 v=some d)(r:VR g h v u):∃ as,Reads h u d as/\SeqAt.shaped d=true :=
 xEAAA (toD_ok R 8 v e r) fun as a b c=>⟨as,a,Bool.and_eq_true_iff.mpr ⟨b,decide_eq_true (Nat.le_trans c (by decide))⟩⟩
theorem Room.u65{d:Nat}(r:Room A d):A.units+65 < cLine:=by have:=r.units;delta cLine;exact om324 this
noncomputable abbrev EvB(C:Cx)(A:Around)(t:Sem Value)(g:Gh)(O:Store)(s:Shared)(c:Bool):Prop:=Ev C A t g O s fun w0 w0 u=>u=.bool c
noncomputable abbrev Two(C:Cx)(A:Around)(x y:CmpOp)(ua ub:Value)(g:Gh)(O:Store)(s:Shared)(c:Bool):Prop:=EvB C A (compareOp x ua ub) g O s c/\EvB C A (compareOp y ua ub) g O s (!c)
theorem eqV_ok{d:Nat}{c:Bool}(Ro:Room A d)(R:Rel C g O s.heap)(ha:VR g s.heap a ua)(hb:VR g s.heap b ub)(e:eqV O a b=some c):Two C A .Eq .NotEq ua ub g O s c:=by
 have gen:∀ {da db:PyData},toD O 8 a=some da->toD O 8 b=some db->PyData.eqv da db=c->Two C A .Eq .NotEq ua ub g O s c:=fun ea eb ec =>
  xEAA (Uc6 R ea ha) fun as ra sa=>xEAA (Uc6 R eb hb) fun bs rb sb =>
   have hu:=Nat.lt_of_le_of_lt (Nat.le_succ _) Ro.u65
   ⟨Ev.same R fun Q E q=>PyProof.Rows.eq_dataH ra rb sa sb hu (q _ s.toks (congrArg Value.bool ec)),Ev.same R fun Q E q=>PyProof.Rows.ne_dataH ra rb sa sb hu (q _ s.toks (congrArg (fun b=>Value.bool (!b)) ec))⟩
 have G:eqG O a b=some c->Two C A .Eq .NotEq ua ub g O s c:=fun e=>obS e fun da ea e=>obS e fun db eb e=>gen ea eb (Uac e);refine obE e (fun x q1 e=>obE e (fun y q2 e=>?_) fun w0 e=>G e) fun w0 e=>obE e (fun x q1 e=>obE e (fun y q2 e=>?_) fun w0 e=>G e) fun w0 e=>G e
 ·cases e;cases Ubo q1;cases Ubo q2;exact gen (da:=.str x) (db:=.str y) rfl rfl rfl
 ·cases e;cases Ub1 q1;cases Ub1 q2;exact gen (da:=.int x) (db:=.int y) rfl rfl rfl
end
theorem Uiz{vs:List V}{l:List Str}(e:strsOf vs=some l):vs=l.map .str:=Ugn (fun w0 w0=>Ubo) vs e
theorem Urg{vs:List V}{l:List Int}(e:intsOf vs=some l):vs=l.map .int:=Ugn (fun w0 w0=>Ub1) vs e
theorem Uqq(n:Nat)(l:List Str):toDs O (n+1) (l.map .str)=some (l.map .str):=Ulh (f:=toD O (n+1)) (g:=V.str) (k:=PyData.str) (fun w0=>rfl) l
end
theorem Uir(x k:Str)(u:Value)(r:List (Str×Value)):valueAt ((k,u)::r) x=if k=x then some u else valueAt r x:=by
 delta valueAt
 by_cases e:k=x
 ·simp [e]
 ·simp [e]
theorem PR.look{g:Gh}{h:Heap}(x:Str):∀ {es:List (Str×V)} {l:List (Str×Value)},PR g h es l ->
  (∀ v,lk x es=some v->∃ u,valueAt l x=some u/\VR g h v u)/\(lk x es=none->valueAt l x=none)
 | [],_,e=>by cases e;exact ⟨fun w0 q=>(Uaa q).elim,fun w0=>rfl⟩
 | (k,v)::es,_,e=>by
  refine xEEAAA e fun u r q a b=>?_;have ih:=PR.look x b;rw [q,Uir];show (∀ w,(if (k==x)=true then some v else lk x es)=some w->_)/\((if (k==x)=true then some v else lk x es)=none->_)
  by_cases q:k=x
  ·rw [if_pos q,if_pos (beq_iff_eq.mpr q)];exact ⟨fun w e=>⟨u,rfl,Uac e▸a⟩,fun e=>(Uaa e.symm).elim⟩
  ·rw [if_neg q,if_neg fun z=>q (beq_iff_eq.mp z)];exact ih
theorem PR.len{g:Gh}{h:Heap}:∀ {es:List (Str×V)} {l:List (Str×Value)},PR g h es l->l.length=es.length
 | [],_,e=>by cases e;rfl
 | (k,v)::es,_,e=>xEEAAA e fun u r q a b=>q▸congrArg (·+1) (PR.len b)
section
variable {C:Cx}{A:Around}{g:Gh}{O O':Store}{s:Shared}{h:Heap}
theorem Rel.at_(R:Rel C g O h){r i:Nat}{o:Ob}{u:Value}(e:O.get r i=some o)(v:VR g h (.ref r i) u):∃ a d,u=.ref a/\g.ρ r i=some (a,d)/\OR C g h o a d :=
 xEEAA v fun a d q p=>xEEAA (R.obj r i _ e) fun a' d' p' w=>by
  cases Uac (p.symm.trans p');exact ⟨a,d,q,p,w⟩
theorem Rel.dict(R:Rel C g O h){r i:Nat}{es:List (Str×V)}{u:Value}(e:O.get r i=some (.dict es))(v:VR g h (.ref r i) u) :
  ∃ d l,u=.ref d/\g.ρ r i=some (d,d)/\h.DictOf (strKind C.prog C.w) d l/\PR g h es l/\es.length<=lim :=
 xEEAAA (R.at_ e v) fun a d q p w=>xAEAAA w fun z l q1 q2 q3=>by cases z;exact ⟨a,l,q,p,q1,q2,q3⟩
theorem Rel.list(R:Rel C g O h){r i:Nat}{vs:List V}{u:Value}(e:O.get r i=some (.list vs))(v:VR g h (.ref r i) u) :
  ∃ d its n,u=.ref d/\g.ρ r i=some (d,d)/\h.get? d=some (lo its n)/\VRs g h vs its.toList/\vs.length<=lim :=
 xEEAAA (R.at_ e v) fun a d q p w=>xAEEAAA w fun z its n q1 q2 q3=>by cases z;exact ⟨a,its,n,q,p,q1,q2,q3⟩
theorem Umd(R:Rel C g O h){v:V}{es:List (Str×V)}{u:Value}(e:dictO O v=some es)(hv:VR g h v u) :
  ∃ r i d l,v=.ref r i/\O.get r i=some (.dict es)/\u=.ref d/\g.ρ r i=some (d,d)/\h.DictOf (strKind C.prog C.w) d l/\PR g h es l/\es.length<=lim:=obS e fun z q e=>by
 have w:=Ub9 q;cases e;exact xEEAAAAA (R.dict w.2 (w.1▸hv)) fun d l q1 q2 q3 q4 q5=>⟨_,_,d,l,w.1,w.2,q1,q2,q3,q4,q5⟩
theorem Uig{a:V}{u:Value}{vs:List V}(e:asSeq O a=some vs)(R:Rel C g O h)(v:VR g h a u):∃ x its n T,u=.ref x/\(T="list"\/T="tuple")/\h.get? x=some { cls:=.type T,data:=.seq its n }/\VRs g h vs its.toList/\vs.length<=lim :=
 obE e (fun ws q e=>by cases e;cases Ugk q;exact xEEEAAAAA v fun a its n q ho w0 hv l=>⟨a,its,n,"tuple",q,.inr rfl,ho,hv,l⟩)
  fun w0 e=>xEEEAAAA (Uas e R v) fun a its n q ho hv l=>⟨a,its,n,"list",q,.inl rfl,ho,hv,l⟩
theorem Rel.notSys(F:Facts C)(R:Rel C g O h){r i:Nat}{a d:Addr}(p:g.ρ r i=some (a,d)):(d==sysModules)=false:=by
 exact beq_eq_false_iff_ne.mpr (Nat.ne_of_gt (R.zb d (R.st d ⟨r,i,a,p⟩)).2)
theorem in_seq{d:Nat}{x:V}{ux uc:Value}{dx:PyData}{ds:List PyData}{c:Bool}(Ro:Room A d)(R:Rel C g O s.heap)(hx:VR g s.heap x ux)(ex:toD O 8 x=some dx)
  {vs:List V} {cc:V} (hc':VR g s.heap cc uc) (ev:asSeq O cc=some vs)
  (eds:toDs O 8 vs=some ds) (hmix:∀ y ∈ ds,SeqAt.noMix y dx=true) (hc:ds.any (fun y=>PyData.eqv y dx)=c):Two C A .In .NotIn ux uc g O s c:=by
 refine xEAA (Uc6 R ex hx) fun as rx sx=>?_;refine xEEEEAAAAA (Uig ev R hc') fun a its n T e hT ho hv w0=>?_;refine xEAAA (Uuc R 8 vs eds hv) fun bs rc c1 c2=>?_;have hcc:decide (Spec.countIn dx ds≠0)=c:=hc▸(any_eqv_countIn dx ds hmix).symm;have h1:=congrArg Value.bool hcc;have h2:=congrArg (fun b=>Value.bool (!b)) hcc;have sc:(PyData.canLayAll0 ds&&decide (PyData.depthAll ds+1<=64))=true:=Bool.and_eq_true_iff.mpr ⟨c1,decide_eq_true (Nat.le_trans (Nat.succ_le_succ c2) (by decide))⟩;cases e;rcases hT with q | q
 ·cases q;exact ⟨Ev.same R fun Q E q=>in_list_dataH (.list ho rfl rfl rc) rx sc sx Ro.u65 hmix (q _ s.toks h1),Ev.same R fun Q E q=>notIn_list_dataH (.list ho rfl rfl rc) rx sc sx Ro.u65 hmix (q _ s.toks h2)⟩
 ·cases q;exact ⟨Ev.same R fun Q E q=>in_tuple_dataH (.tuple ho rfl rfl rc) rx sc sx Ro.u65 hmix (q _ s.toks h1),Ev.same R fun Q E q=>notIn_tuple_dataH (.tuple ho rfl rfl rc) rx sc sx Ro.u65 hmix (q _ s.toks h2)⟩
theorem Ugd:∀ (x y:List Str),PyData.eqvAll (y.map PyData.str) (x.map PyData.str)=(y==x)
 | [],[]=>rfl
 | [],_::_=>rfl
 | _::_,[]=>rfl
 | a::x,b::y=>congrArg (fun z=>(b==a)&&z) (Ugd x y)
theorem Uee:∀ (x y:List Str),SeqAt.noMixAll (y.map PyData.str) (x.map PyData.str)=true
 | [],[]=>rfl
 | [],_::_=>rfl
 | _::_,[]=>rfl
 | _::x,_::y=>Uee x y
theorem Umg{β:Type}{f:V->Option β}(g:β->V)(k:β->PyData)(eqb:β->Bool){da:PyData}{vs:List V}{l:List β}(e:allO f vs=some l)(H0:∀ v b,f v=some b->v=g b)(H1:∀ b,toD O 8 (g b)=some (k b))
  (H2:∀ b,SeqAt.noMix (k b) da=true) (H3:∀ b,PyData.eqv (k b) da=eqb b):∃ ds,toDs O 8 vs=some ds/\(∀ y ∈ ds,SeqAt.noMix y da=true)/\ds.any (fun y=>PyData.eqv y da)=l.any eqb:=by
 rw [Ugn H0 vs e];refine ⟨l.map k,Ulh H1 l,fun y hy=>?_,?_⟩
 ·exact xEAA (List.mem_map.mp hy) fun b w0 q=>q▸H2 b
 ·rw [List.any_map];exact congrArg l.any (funext H3)
theorem Uor{a:V}{vs:List V}{r:Bool}(e:memV a vs=some r):∃ da,toD O 8 a=some da/\∃ ds,toDs O 8 vs=some ds/\(∀ y ∈ ds,SeqAt.noMix y da=true)/\ds.any (fun y=>PyData.eqv y da)=r :=
 obE e (fun x q e=>obS e fun l q2 e=>by cases e;cases Ubo q;exact ⟨.str x,rfl,Umg V.str PyData.str (·==x) q2 (fun w0 w0=>Ubo) (fun w0=>rfl) (fun w0=>rfl) fun w0=>rfl⟩)
  fun w0 e=>obE e (fun x q e=>obS e fun l q2 e=>by cases e;cases Ub1 q;exact ⟨.int x,rfl,Umg V.int PyData.int (·==x) q2 (fun w0 w0=>Ub1) (fun w0=>rfl) (fun w0=>rfl) fun w0=>rfl⟩)
  fun w0 e=>obS e fun us q e=>obS e fun x q1 e=>obS e fun l q2 e=>by
   cases e;cases Ue1 q;cases Uiz q1;have td:∀ b:List Str,toD O 8 (.lst (b.map .str))=some (.list (b.map .str)):=fun b=>congrArg (fun o=>ob o (fun ds=>some (PyData.list ds)) none) (Uqq 6 b);exact ⟨.list (x.map .str),td x,Umg (fun b=>.lst (b.map .str)) (fun b=>.list (b.map .str)) (·==x) q2 (fun v b z=>obS z fun us w1 w2=>by cases Ue1 w1;rw [Uiz w2]) td (fun y=>show SeqAt.noMix (.list (y.map .str)) (.list (x.map .str))=true from Uee x y) fun y=>show PyData.eqv (.list (y.map .str)) (.list (x.map .str))=_ from Ugd x y⟩
theorem inV_ok{d:Nat}{a c:V}{ua uc:Value}{r:Bool}(Fa:Facts C)(Ro:Room A d)(R:Rel C g O s.heap)(ha:VR g s.heap a ua)(hc:VR g s.heap c uc)(e:inV O a c=some r):Two C A .In .NotIn ua uc g O s r:=by
 have sq:∀ {vs},asSeq O c=some vs->memV a vs=some r->Two C A .In .NotIn ua uc g O s r:=fun q e=>xEAEAAA (Uor (O:=O) e) fun da q1 ds q2 q3 q4=>in_seq Ro R ha q1 hc q q2 q3 q4;refine obE e (fun x q1 e=>obE e (fun y q2 e=>?_) fun w0 e=>obE e (fun es q2 e=>?_) fun w0 e=>obS e fun vs q e=>sq q e) fun w0 e=>obS e fun vs q e=>sq q e
 ·exact str2 (T:=fun u w=>Two C A .In .NotIn u w g O s r) q1 q2 ha hc fun t t' w0 w0 w0 w0=>⟨Ev.same R fun Q E q=>PyProof.Rows.in_str (q _ s.toks (congrArg Value.bool (Uac e))),Ev.same R fun Q E q=>PyProof.Rows.notIn_str (q _ s.toks (congrArg (fun b=>Value.bool (!b)) (Uac e)))⟩
 ·refine str1 (T:=fun u=>Two C A .In .NotIn u uc g O s r) q1 ha fun t w0 w0=>?_;refine xEEEEAAAAAAA (Umd R q2 hc) fun r' i dd l w0 w0 e2 p dO pr w0=>?_;have hb:(valueAt l x).isSome=r:=by
   rw [<- Uac e];cases q':lk x es with
   | none=>rw [(PR.look x pr).2 q'];rfl
   | some v=>exact xEAA ((PR.look x pr).1 v q') fun u hu w0=>by rw [hu];rfl
  have hs:=R.notSys Fa p;cases e2;exact ⟨Ev.same R fun Q E q=>wpAny_in_of (strKind_is _ _ x t) hs dO.mapOf (q _ _ (congrArg Value.bool hb)),Ev.same R fun Q E q=>wpAny_notIn_of (strKind_is _ _ x t) hs dO.mapOf (q _ _ (congrArg (fun b=>Value.bool (!b)) hb))⟩
theorem isV_ok{a b:V}{ua ub:Value}{r:Bool}(R:Rel C g O s.heap)(ha:VR g s.heap a ua)(hb:VR g s.heap b ub)(e:isV a b=some r):Two C A .Is .IsNot ua ub g O s r:=obS e fun x q e=>by
 have hn:ub=.none:=by cases b <;> first | exact (Uaa q).elim | exact hb
 have key:(ua==.none)=r:=by
  cases a with
  | none=>cases e;cases (show ua=.none from ha);rfl
  | ref r' i=>cases e;exact xEEAA ha fun w0 w0 q w0=>q▸rfl
  | _=>exact (Uaa e).elim
 cases hn;exact ⟨Ev.same R fun Q E q=>PySem.is_none (q _ s.toks (congrArg Value.bool key)),Ev.same R fun Q E q=>PySem.isNot_none (q _ s.toks (congrArg (fun b=>Value.bool (!b)) key))⟩
theorem Ugh{d:Nat}{op:CmpOp}{a b:V}{ua ub:Value}{r:Bool}(Fa:Facts C)(Ro:Room A d)(R:Rel C g O s.heap)(ha:VR g s.heap a ua)(hb:VR g s.heap b ub)(e:cmpV op a b O=some r) :
  EvB C A (compareOp op ua ub) g O s r:=by
 have ii:∀ (x y:Int) (q1:intO a=some x) (q2:intO b=some y),(∀ t t',EvB C A (compareOp op (.int x t) (.int y t')) g O s r)->EvB C A (compareOp op ua ub) g O s r :=
  fun x y q1 q2 k=>int2 (T:=fun u w=>EvB C A (compareOp op u w) g O s r) q1 q2 ha hb k
 have no:∀ {x y:CmpOp} {o:Option Bool},(∀ c,o=some c->Two C A x y ua ub g O s c)->o.map (!·)=some r->EvB C A (compareOp y ua ub) g O s r:=fun k e =>
  xEAA (Option.map_eq_some_iff.mp e) fun c q w=>w▸(k c q).2
 have bv:∀ {c:Bool},some c=some r->Value.bool c=Value.bool r:=fun e=>congrArg Value.bool (Uac e);cases op with
 | Eq=>exact (eqV_ok Ro R ha hb e).1
 | NotEq=>exact no (fun c q=>eqV_ok Ro R ha hb q) e
 | Lt=>exact ob2S e fun x y q1 q2 e=>ii x y q1 q2 fun t t'=>Ev.same R fun Q E q=>PyProof.Rows.lt_int (q _ s.toks (bv e))
 | LtE=>exact ob2E e (fun x y q1 q2 e=>ii x y q1 q2 fun t t'=>Ev.same R fun Q E q=>PyProof.Rows.le_int (q _ s.toks (bv e))) fun e=>ob2S e fun x y q1 q2 e=>str2 (T:=fun u w=>EvB C A (compareOp .LtE u w) g O s r) q1 q2 ha hb fun t t' w0 w0 w0 w0=>Ev.same R fun Q E q=>P.le_str (q _ s.toks (bv e))
 | Gt=>exact ob2S e fun x y q1 q2 e=>ii x y q1 q2 fun t t'=>Ev.same R fun Q E q=>PyProof.Rows.gt_int (q _ s.toks (bv e))
 | GtE=>exact ob2S e fun x y q1 q2 e=>ii x y q1 q2 fun t t'=>Ev.same R fun Q E q=>PyProof.Rows.ge_int (q _ s.toks (bv e))
 | Is=>exact (isV_ok R ha hb e).1
 | IsNot=>exact no (fun c q=>isV_ok R ha hb q) e
 | In=>exact (inV_ok Fa Ro R ha hb e).1
 | NotIn=>exact no (fun c q=>inV_ok Fa Ro R ha hb q) e
theorem isT_ok{v:V}{u:Value}{b:Bool}(R:Rel C g O s.heap)(hv:VR g s.heap v u)(e:isT v=some b):Ev C A (truthy u) g O s fun w0 w0 c=>c=b:=by
 cases v with
 | bool c=>cases (show u=.bool c from hv);exact Ev.same R fun Q E q=>wpAny_truthy_bool (q _ s.toks (Uac e))
 | none=>cases (show u=.none from hv);exact Ev.same R fun Q E q=>PyProof.Rows.truthy_none (q _ s.toks (Uac e))
 | _=>exact (Uaa e).elim
end
theorem Ub0{i:Int}{n j:Nat}(e:idx i n=some j):j < n/\(0<=i/\j=i.toNat\/i < 0/\0<=i+n/\j=(i+n).toNat):=by
 delta idx at e
 by_cases h:0<=i
 ·rw [if_pos h] at e;exact iteS e fun q e=>⟨Uac e▸q,.inl ⟨h,(Uac e).symm⟩⟩
 ·rw [if_neg h] at e;exact iteS e fun q e=>⟨by cases e;exact om329 h q,.inr ⟨Int.not_le.mp h,q,(Uac e).symm⟩⟩
theorem seq_at{i k:Int}{n:Nat}(e:(if i < 0 then i+n else i)=k)(h0:0<=k)(h1:k.toNat < n):seqIndex? i n=some k.toNat:=by
 delta seqIndex?;rw [e];exact if_pos (Bool.and_eq_true_iff.mpr ⟨decide_eq_true h0,decide_eq_true ((Int.toNat_lt h0).mp h1)⟩)
theorem Upp{i:Int}{n j:Nat}(e:idx i n=some j):seqIndex? i n=some j:=by
 rcases (Ub0 e).2 with q | q
 ·rw [q.2];exact seq_at (if_neg (Int.not_lt.mpr q.1)) q.1 (q.2▸(Ub0 e).1)
 ·rw [q.2.2];exact seq_at (if_pos q.1) q.2.1 (q.2.2▸(Ub0 e).1)
theorem Ui3{i:Int}{n j:Nat}(e:idx i n=some j)(h:n<=lim):-(2 ^ 63)<=i/\i < 2 ^ 63:=by
 have hn:(n:Int)<=1000000:=Int.ofNat_le.mpr h;rcases Ub0 e with ⟨hj,q | q⟩
 ·exact ⟨Int.le_trans (by decide) q.1,Int.lt_of_lt_of_le ((Int.toNat_lt q.1).mp (q.2▸hj)) (Int.le_trans hn (by decide))⟩
 ·exact ⟨Int.le_trans (Int.le_trans (by decide) (Int.neg_le_neg hn)) (om54 q),Int.lt_trans q.1 (by decide)⟩
theorem Ud4(slice:Expr)(o i:Value):∃ ops,subscripted slice false o i=operate ops (getItem o i):=by
 cases slice with
 | Slice lo hi st p=>cases st <;> exact ⟨_,rfl⟩
 | _=>exact ⟨_,rfl⟩
theorem Ulj{x:Str}(h:sOk x=true){i c:Nat}(e:x.cps[i]?=some c):sOk ⟨#[c]⟩=true:=by
 delta sOk at *;rw [Array.all_eq_true_iff_forall_mem] at h;have:=h c (Array.mem_of_getElem? e)
 simpa using this
theorem Ukg:1<=lim:=by delta lim;decide
section
variable {C:Cx}{A:Around}{g:Gh}{O O':Store}{s:Shared}{h:Heap}
theorem VR.isList{h:Heap}{x:Addr}{its:Array Value}{n:Nat}(e:h.get? x=some (lo its n)):h.IsList x its:=⟨_,e,rfl,n,rfl⟩
theorem VR.isTup{h:Heap}{x:Addr}{its:Array Value}{n:Nat}(e:h.get? x=some (tpo its n)):IsTup h x its:=⟨_,e,rfl,n,rfl⟩
theorem Uro{k:Int}{t:Tok}{x:Addr}{its:Array Value}{n:Nat}{T:String}{vs:List V}{value slice:Expr}{j:Nat}{v:V}(R:Rel C g O s.heap)(hT:T="list"\/T="tuple")(ho:s.heap.get? x=some { cls:=.type T,data:=.seq its n })
  (hv':VRs g s.heap vs its.toList) (hl:vs.length<=lim) (hj:idx k vs.length=some j) (hv:vs[j]?=some v):EvV C A (subscriptTail value slice (.ref x) (.int k t)) g O s v:=by
 refine xEA (Ud4 slice (.ref x) (.int k t)) fun ops hs=>?_;refine xEAA (hv'.get hv) fun u hu hr=>?_;have hlen:its.size=vs.length:=hv'.len;have hf:=Ui3 hj hl;rw [Array.getElem?_toList] at hu;rcases hT with q | q
 ·cases q;refine Ev.same R fun Q E q=>tail_any (VR.isList ho).typeIs slot_list_getitem.lookup ?_ hs;rcases (Ub0 hj).2 with w | w
  ·exact wpAny_getItem_list (VR.isList ho) w.1 hf.2 (w.2▸hu) (q _ s.toks hr)
  ·rw [<- hlen] at w;exact wpAny_getItem_list_neg (VR.isList ho) w.1 (om54 w) hf.1 (w.2.2▸hu) (q _ s.toks hr)
 ·cases q;exact Ev.same R fun Q E q=>tail_any (VR.isTup ho).typeIs slot_tuple_getitem.lookup (getItem_tuple (VR.isTup ho) hf.1 hf.2 (hlen▸Upp hj) hu (q _ s.toks hr)) hs
theorem Uq6{value slice:Expr}{o i v:V}{uo ui:Value}(R:Rel C g O s.heap)(ho:VR g s.heap o uo)(hi:VR g s.heap i ui)(e:itemV o i O=some v):EvV C A (subscriptTail value slice uo ui) g O s v:=by
 refine obE e (fun x q1 e=>obS e fun k q2 e=>obS e fun j hj e=>?_) fun w0 e=>obE e (fun es q1 e=>obS e fun x q2 e=>?_) fun w0 e=>obS e fun k q2 e=>obS e fun vs ha e=>obS e fun j hj e=>?_
 ·refine str1 (T:=fun u=>EvV C A (subscriptTail value slice u ui) g O s v) q1 ho fun t o1 l1=>int1 (T:=fun u=>EvV C A (subscriptTail value slice (.str x t) u) g O s v) q2 hi fun t'=>?_;refine xEA (Ud4 slice (.str x t) (.int k t')) fun ops hs=>?_;have hc:x.cps[j]?=some (x.cps.getD j 0):=by
   have:j < x.cps.size:=(Ub0 hj).1;simp [Array.getD,this]
  have hf:=Ui3 hj l1;exact Ev.same R fun Q E q=>tail_any (typeIs_str s x t) F.slot_str_getitem.lookup (getItem_str (c:=x.cps.getD j 0) (Bool.or_eq_false_iff.mpr ⟨decide_eq_false (Int.not_lt.mpr hf.1),decide_eq_false (Int.not_le.mpr hf.2)⟩)
   ((congrArg (Option.bind · (x.cps[·]?)) (Upp hj)).trans hc) (q _ _ (Uac e▸VR.mkStr (Ulj o1 hc) Ukg))) hs
 ·refine xEEEEAAAAAAA (Umd R q1 ho) fun r j dd l w0 w0 e2 p dO pr w0=>?_;refine str1 (T:=fun u=>EvV C A (subscriptTail value slice uo u) g O s v) q2 hi fun t w0 w0=>?_;cases e2;refine xEA (Ud4 slice (.ref dd) (.str x t)) fun ops hs=>?_;exact xEAA ((PR.look x pr).1 v e) fun u hu hr=>Ev.same R fun Q E q=>tail_any dO.typeIs slot_dict_getitem.lookup (wpAny_getItem_of (strKind_is _ _ x t) dO.mapOf hu (q _ _ hr)) hs
 ·refine xEEEEAAAAA (Uig ha R ho) fun x its n T e2 hT hg hv hl=>?_;cases e2;exact int1 (T:=fun u=>EvV C A (subscriptTail value slice (.ref x) u) g O s v) q2 hi fun t=>Uro R hT hg hv hl hj e
theorem VRs.pick{vs:List V}{us:List Value}(h':VRs g h vs us):∀ (js:List Nat),VRs g h (js.filterMap (vs[·]?)) (js.filterMap (us[·]?))
 | []=>by rfl
 | j::js=>by
  have ih:=VRs.pick h' js;cases hn:vs[j]? with
  | some n =>
   refine xEAA (h'.get hn) fun u hv hr=>?_;simp only [List.filterMap_cons,hn,hv,VRs];exact ⟨u,_,rfl,hr,ih⟩
  | none =>
   have hv:us[j]?=none:=by
    rw [List.getElem?_eq_none_iff] at hn ⊢;rw [h'.len];exact hn
   simp only [List.filterMap_cons,hn,hv];exact ih
noncomputable def OVR(g:Gh)(h:Heap):Option V->Value->Prop
 | none,u=>u=.none
 | some v,u=>VR g h v u
theorem Ubd{o:Option V}{x:Option Int}(e:optInt o=some x){u:Value}(hu:OVR g h o u):IsPart u x/\∃ q:Option (Int×Tok),u=partValue q/\q.map (·.1)=x:=by
 cases o with
 | none=>cases e;cases (show u=.none from hu);exact ⟨.none,none,rfl,rfl⟩
 | some v =>
  refine obS e fun i q e=>?_;cases e;exact int1 (T:=fun u=>IsPart u (some i)/\∃ q:Option (Int×Tok),u=partValue q/\q.map (·.1)=some i) q hu fun t=>⟨.int i t,some (i,t),rfl,rfl⟩
theorem Ulx{items:Array Value}{vs:List V}(lo hi:Option Int)(h':VRs g h vs items.toList):VRs g h (sliceL lo hi vs) (slicePick items lo hi none).toList:=by
 rw [slicePick_plain];have:=h'.len;rw [Array.length_toList] at this;delta sliceL;rw [this];skip;exact (h'.drop _).take _
theorem Uhu{α:Type}(lo hi:Option Int)(l:List α):(sliceL lo hi l).length<=l.length :=
 Nat.le_trans (List.length_take_le' _ _) (Nat.le_trans (Nat.le_of_eq List.length_drop) (Nat.sub_le _ _))
noncomputable def sliceC(s:Str)(a b:Option Int):Option V :=
 if ((Builtin.Str.strSliceIndices a b 1 s.length).filterMap (s.cps[·]?)).length<=lim/\sOk ⟨((Builtin.Str.strSliceIndices a b 1 s.length).filterMap (s.cps[·]?)).toArray⟩=true /\
  ((Builtin.Str.strSliceIndices a b 1 s.length).length=s.length->(Builtin.Str.strSliceIndices a b 1 s.length).filterMap (s.cps[·]?)=s.cps.toList) then
  some (.str ⟨((Builtin.Str.strSliceIndices a b 1 s.length).filterMap (s.cps[·]?)).toArray⟩) else none
theorem ix_of(n:Nat)(l u:Option Int):Builtin.Str.strSliceIndices l u 1 n=(List.range (u.elim n (clipAt n) - l.elim 0 (clipAt n))).map (l.elim 0 (clipAt n)+·):=by
 have e:Builtin.Str.strSliceIndices l u 1 n=sliceRange (sliceBounds l u none n).1 (sliceBounds l u none n).2.1 (sliceBounds l u none n).2.2:=by
  cases l <;> cases u <;> rfl
 rw [e,sliceBounds_plain];exact sliceRange_one _ _
theorem Ut7(n:Nat)(i:Int):clipAt n i<=n:=by have:=clipAt_cast n i;exact om307 this
theorem Uoo{z:Str}(x y:Option Int)(o1:sOk z=true)(l1:z.length<=lim):sliceC z x y=some (.str ⟨(sliceL x y z.cps.toList).toArray⟩):=by
 have el:z.cps.toList.length=z.length:=Array.length_toList;have pk:(Builtin.Str.strSliceIndices x y 1 z.length).filterMap (z.cps[·]?)=sliceL x y z.cps.toList:=by
  rw [ix_of,pick_run,<- el];rfl
 have h3:(Builtin.Str.strSliceIndices x y 1 z.length).length=z.length->sliceL x y z.cps.toList=z.cps.toList:=fun w=>by
  rw [ix_of,List.length_map,List.length_range] at w;have hu:y.elim z.length (clipAt z.length)<=z.length:=by cases y;exact Nat.le_refl _;exact Ut7 _ _
  delta sliceL;rw [el,w];rcases Nat.eq_zero_or_pos (x.elim 0 (clipAt z.length)) with q | q
  ·rw [q];exact List.take_of_length_le (Nat.le_of_eq el)
  ·have:z.cps.toList=[]:=List.eq_nil_of_length_eq_zero (by omega);rw [this,List.drop_nil,List.take_nil]
 have h2:sOk ⟨(sliceL x y z.cps.toList).toArray⟩=true:=by
  delta sOk at o1 ⊢;rw [Array.all_eq_true_iff_forall_mem] at o1 ⊢;exact fun c hc=>o1 c (Array.mem_toList_iff.mp (List.mem_of_mem_drop (List.mem_of_mem_take (List.mem_toArray.mp hc))))
 delta sliceC;rw [pk];exact if_pos ⟨Nat.le_trans (Uhu _ _ _) (el▸l1),h2,h3⟩
theorem Uov{value slice:Expr}{z:Str}{x y:Option Int}{v:V}{ul uh:Value}{t:Tok}{a:Addr}(R:Rel C g O s.heap)(o1:sOk z=true)(l1:z.length<=lim)
  (p1:∃ q:Option (Int×Tok),ul=partValue q/\q.map (·.1)=x) (p2:∃ q:Option (Int×Tok),uh=partValue q/\q.map (·.1)=y)
  (ha:s.heap.get? a=some { cls:=.type "slice",data:=.fields #[ul,uh,.none] }) (e:sliceC z x y=some v):EvV C A (subscriptTail value slice (.str z t) (.ref a)) g O s v:=iteS e fun hc e=>by
 refine xEA (Ud4 slice (.str z t) (.ref a)) fun ops hs=>xEAA p1 fun q1 e1 f1=>xEAA p2 fun q2 e2 f2=>?_;cases e;cases f1;cases f2;cases e1;cases e2;have ok:VR g s.heap (.str ⟨((slicePicked z q1 q2 none).filterMap (z.cps[·]?)).toArray⟩) (.str ⟨((slicePicked z q1 q2 none).filterMap (z.cps[·]?)).toArray⟩ s.toks):=VR.mkStr hc.2.1 hc.1;refine Ev.same R fun Q E q=>tail_any (typeIs_str s z t) F.slot_str_getitem.lookup (wpAny_getItem_str_slice (l:=q1) (u:=q2) (st:=none) ⟨_,ha,rfl,rfl⟩ rfl ?_) hs
 by_cases w:(slicePicked z q1 q2 none).length=z.length
 ·have e3:sliceMade z t q1 q2 none=.val (.str z t):=if_pos (beq_iff_eq.mpr w);have e4:(⟨((slicePicked z q1 q2 none).filterMap (z.cps[·]?)).toArray⟩:Str)=z:=congrArg (fun l:List Nat=>(⟨l.toArray⟩:Str)) (hc.2.2 w);rw [e3];exact q _ s.toks ⟨t,congrArg (Value.str · t) e4.symm,hc.2.1,hc.1⟩
 ·have e3:sliceMade z t q1 q2 none=.str ⟨((slicePicked z q1 q2 none).filterMap (z.cps[·]?)).toArray⟩:=if_neg fun h=>w (beq_iff_eq.mp h);rw [e3];exact ⟨Uap hc.1,q _ _ ok⟩
theorem Unx{value slice:Expr}{o v:V}{lo hi:Option V}{uo ul uh:Value}{a:Addr}(R:Rel C g O s.heap)(ho:VR g s.heap o uo)
  (hl:OVR g s.heap lo ul) (hh:OVR g s.heap hi uh)
  (ha:s.heap.get? a=some { cls:=.type "slice",data:=.fields #[ul,uh,.none] }) (e:sliceV o lo hi O=some v):EvV C A (subscriptTail value slice uo (.ref a)) g O s v :=
 obS e fun x hx e=>obS e fun y hy e=>obE e
  (fun z q1 e=>str1 (T:=fun u=>EvV C A (subscriptTail value slice u (.ref a)) g O s v) q1 ho fun t o1 l1=>Uov R o1 l1 (Ubd hx hl).2 (Ubd hy hh).2 ha ((Uoo x y o1 l1).trans e))
  fun w0 e=>obS e fun vs hv e=>xEEEAAAA (Uas hv R ho) fun b its n e2 hg hr hl'=>xEA (Ud4 slice (.ref b) (.ref a)) fun ops hs=>by
   cases e;cases e2;have hlen:its.size=vs.length:=hr.len;exact Ev.up R fun Q E q=>tail_any (VR.isList hg).typeIs slot_list_getitem.lookup (wpAny_getItem_list_slice (VR.isList hg) ⟨_,ha,rfl,rfl⟩ (Ubd hx hl).1 (Ubd hy hh).1 .none (by simp)
    (q _ _ (fun b o e=>Heap.get?_push_of_some _ e) rfl rfl (VR.newList (k:=0) R (Ulx x y hr) (Nat.le_trans (Uhu _ _ _) hl'))) (Uap (hlen▸hl'))) hs
theorem Uox{vs:List V}{us:Array Value}(h':VRs g h vs us.toList)(lo hi:Option Int)(k:Int):(stepL lo hi k vs).length<=vs.length:=by
 have hlen:=h'.len;rw [Array.length_toList] at hlen;have e:=(h'.pick (sliceRange (sliceBounds lo hi (some k) vs.length).1 (sliceBounds lo hi (some k) vs.length).2.1 (sliceBounds lo hi (some k) vs.length).2.2)).len;have:=slicePick_size_le us lo hi (some k);unfold slicePick at this;rw [List.size_toArray,hlen] at this;simp only [Array.getElem?_toList] at e;rw [e] at this;exact this
theorem Uqx{value slice:Expr}{o v w:V}{lo hi:Option V}{uo ul uh uw:Value}{a:Addr}(R:Rel C g O s.heap)(ho:VR g s.heap o uo)
  (hl:OVR g s.heap lo ul) (hh:OVR g s.heap hi uh) (hw:VR g s.heap w uw)
  (ha:s.heap.get? a=some { cls:=.type "slice",data:=.fields #[ul,uh,uw] }) (e:stepV o lo hi w O=some v):EvV C A (subscriptTail value slice uo (.ref a)) g O s v :=
 obS e fun x hx e=>obS e fun y hy e=>obS e fun k hk e=>obS e fun vs hv e=>iteS e fun k0 e=>by
  refine xEEEAAAA (Uas hv R ho) fun b its n e2 hg hr hl'=>xEA (Ud4 slice (.ref b) (.ref a)) fun ops hs=>xEA (Ub1 hk▸hw:VR g s.heap (.int k) uw) fun t e3=>?_;cases e;cases e2;cases e3;have hlen:its.size=vs.length:=hr.len;refine Ev.up R fun Q E q=>tail_any (VR.isList hg).typeIs slot_list_getitem.lookup (wpAny_getItem_list_slice (VR.isList hg) ⟨_,ha,rfl,rfl⟩ (Ubd hx hl).1 (Ubd hy hh).1 (.int k t) (by simpa using k0)
   (q _ _ (fun b o e=>Heap.get?_push_of_some _ e) rfl rfl (VR.newList (k:=0) R ?_ (Nat.le_trans (Uox hr _ _ _) hl'))) (Uap (hlen▸hl'))) hs
  have:=hr.pick (sliceRange (sliceBounds x y (some k) vs.length).1 (sliceBounds x y (some k) vs.length).2.1 (sliceBounds x y (some k) vs.length).2.2);delta slicePick stepL;rw [hlen]
  simpa only [Array.getElem?_toList] using this
end
noncomputable def clsOk(K:Frag)(c:Addr)(k:Cls):Bool :=
 plainGet K c ""&&hasDictIn K c&&plainOver K c&&makesIn K c&&findIn K (.ref c) "__setattr__"==some (some (.builtin "object.__setattr__")) &&
 findIn K (.ref c) "__init__"==some (some (.ref k.init))&&typeIn K (.ref k.init)==some (.type "function")&&keepIn K (.ref c) &&
 k.attrs.all (fun x=>findIn K (.ref c) x==some none) &&
 k.meths.all (fun p=>findIn K (.ref c) p.1==some (some (.ref p.2))&&isFn K (.ref p.2))
structure ClsFacts(K:Frag)(c:Addr)(k:Cls):Prop where
 get:plainGet K c ""=true
 dict:hasDictIn K c=true
 over:plainOver K c=true
 makes:makesIn K c=true
 set:findIn K (.ref c) "__setattr__"=some (some (.builtin "object.__setattr__"))
 init:findIn K (.ref c) "__init__"=some (some (.ref k.init))
 ifn:typeIn K (.ref k.init)=some (.type "function")
 keep:keepIn K (.ref c)=true
 attrs:∀ x,k.attrs.contains x=true->findIn K (.ref c) x=some none
 meths:∀ x f,lk x k.meths=some f->findIn K (.ref c) x=some (some (.ref f))/\isFn K (.ref f)=true
theorem Uck{α:Type}{x:Str}{v w:α}{r:List (Str×α)}:setK x v ((x,w)::r)=(x,v)::r:=if_pos (beq_self_eq_true x)
theorem Ubp{α:Type}{x y:Str}{v w:α}{r:List (Str×α)}(h:y≠x):setK x v ((y,w)::r)=(y,w)::setK x v r:=if_neg fun z=>h (beq_iff_eq.mp z)
theorem Ukt{K:Frag}{c:Addr}{k:Cls}(h:clsOk K c k=true):ClsFacts K c k:=by
 have l:∀ {a b:Bool},(a&&b)=true->a=true:=fun h=>(Bool.and_eq_true_iff.mp h).1;have r:∀ {a b:Bool},(a&&b)=true->b=true:=fun h=>(Bool.and_eq_true_iff.mp h).2;have h9:=l h;have h8:=l h9;have h7:=l h8;have h6:=l h7;have h5:=l h6;have h4:=l h5;have h3:=l h4;have h2:=l h3;exact ⟨l h2,r h2,r h3,r h4,beq_iff_eq.mp (r h5),beq_iff_eq.mp (r h6),beq_iff_eq.mp (r h7),r h8,fun x hx=>beq_iff_eq.mp (List.all_eq_true.mp (r h9) x (List.contains_iff_mem.mp hx)),
  fun x f e=>(fun q=>⟨beq_iff_eq.mp (l q),r q⟩) (List.all_eq_true.mp (r h) (x,f) (lk_mem e))⟩
section
variable {C:Cx}{A:Around}{g:Gh}{O O':Store}{s:Shared}{h:Heap}
theorem ER.noRef:∀ {es:List (Str×V)} {l:List DictEntry},ER g h es l->l.any (·.refKey)=false
 | [],_,e=>by cases e;rfl
 | (x,v)::es,_,e=>xEEAAAA e fun d r q k w0 q'=>xEA k fun t hk=>by
  rw [q,List.any_cons,ER.noRef q',Bool.or_false];delta DictEntry.refKey;rw [hk]
theorem ER.find(x:Str):∀ {es:List (Str×V)} {l:List DictEntry},ER g h es l ->
  (∀ v,lk x es=some v->∃ d,l.find? (·.key.isStr x)=some d/\VR g h v d.val)/\(lk x es=none->l.find? (·.key.isStr x)=none)
 | [],_,e=>by cases e;exact ⟨fun v q=>(Uaa q).elim,fun w0=>rfl⟩
 | (y,w)::es,_,e=>xEEAAAA e fun d r q k hv q'=>xEA k fun t hk=>by
  have hs:d.key.isStr x=(y==x):=by rw [hk];rfl
  rw [q,List.find?_cons,hs]
  by_cases z:y=x
  ·subst z;rw [lk_hit,beq_self_eq_true];exact ⟨fun v e=>⟨d,rfl,Uac e▸hv⟩,fun e=>(Uaa e.symm).elim⟩
  ·rw [Udo z,beq_eq_false_iff_ne.mpr z];exact ER.find x q'
theorem ER.get(x:Str){es:List (Str×V)}{l:List DictEntry}(e:ER g h es l) :
  (∀ v,lk x es=some v->∃ u,getL x l=some (some u)/\VR g h v u)/\(lk x es=none->getL x l=some none):=by
 delta getL;refine ⟨fun v hv=>xEAA ((ER.find x e).1 v hv) fun d hd r=>?_,fun hn=>?_⟩
 ·rw [hd];exact ⟨_,rfl,r⟩
 ·rw [(ER.find x e).2 hn];exact if_neg (by rw [ER.noRef e];exact Bool.false_ne_true)
theorem ER.put(x:Str){hsh:Int}{t:Tok}{v:V}{u:Value}(r:VR g h v u):∀ {es:List (Str×V)} {l:List DictEntry},ER g h es l->ER g h (setK x v es) (putL x hsh (.str x t) u l)
 | [],_,e=>by cases e;exact ⟨_,[],rfl,⟨t,rfl⟩,r,rfl⟩
 | (y,w)::es,_,e=>xEEAAAA e fun d rest q k hv q'=>xEA k fun t' hk=>by
  have hs:d.key.isStr x=(y==x):=by rw [hk];rfl
  cases q
  by_cases z:y=x
  ·cases z;rw [Uck];show ER g h _ (if d.key.isStr x=true then _ else _);rw [if_pos (hs.trans (beq_self_eq_true _))];exact ⟨_,rest,rfl,⟨t',hk⟩,r,q'⟩
  ·rw [Ubp z];show ER g h _ (if d.key.isStr x=true then _ else _);rw [if_neg (by rw [hs];exact fun w=>z (beq_iff_eq.mp w))];exact ⟨d,_,rfl,⟨t',hk⟩,hv,ER.put x r q'⟩
theorem ER.len:∀ {es:List (Str×V)} {l:List DictEntry},ER g h es l->l.length=es.length
 | [],_,e=>by cases e;rfl
 | (x,v)::es,_,e=>xEEAAAA e fun d r q w0 w0 q'=>q▸congrArg (·+1) (ER.len q')
theorem Ug0{α:Type}(x:Str)(v:α):∀ es:List (Str×α),(setK x v es).length<=es.length+1
 | []=>Nat.le_refl _
 | (y,w)::es=>by
  by_cases z:y=x
  ·subst z;rw [Uck];exact Nat.le_succ _
  ·rw [Ubp z];exact Nat.succ_le_succ (Ug0 x v es)
theorem Uoj{v:V}{u:Value}(r:VR g h v u):handedIn u=true:=by
 cases v with
 | int=>exact xEA r fun t q=>q▸rfl
 | str=>exact xEAA r fun t q w0=>q▸rfl
 | tup=>exact xEEEAA r fun a w0 w0 q w0=>q▸rfl
 | lst=>exact xEEEAA r fun a w0 w0 q w0=>q▸rfl
 | rng=>exact xEEEEAA r fun a w0 w0 w0 q w0=>q▸rfl
 | ref=>exact xEEAA r fun a w0 q w0=>q▸rfl
 | bi n=>cases (show u=biVal n from r);cases n <;> first | rfl | decide +kernel
 | _=>cases (show u=_ from r);rfl
theorem Rel.inst(R:Rel C g O h){r i:Nat}{c:Addr}{es:List (Str×V)}{u:Value}(e:O.get r i=some (.inst c es))(v:VR g h (.ref r i) u) :
  ∃ a d l n,u=.ref a/\g.ρ r i=some (a,d)/\h.get? a=some (instObj c d)/\¬ g.Z a/\h.get? d=some (dictOf l n)/\ER g h es l/\es.length<=100 :=
 xEEAAA (R.at_ e v) fun a d q p o=>xAAEEAAA o fun q1 q2 l n q3 q4 q5=>⟨a,d,l,n,q,p,q1,q2,q3,q4,q5⟩
theorem Ufv{P:Prog}{v:V}{z:Nat×Nat×Addr×List (Str×V)×Cls}(e:instO P O v=some z):v=.ref z.1 z.2.1/\O.get z.1 z.2.1=some (.inst z.2.2.1 z.2.2.2.1)/\lkN z.2.2.1 P.clss=some z.2.2.2.2:=obS e fun o q e=>obS e fun c q2 e=>obS e fun k q3 e=>by
 cases e;exact ⟨(Ucp q).1,(Ucp q).2.trans (congrArg some (by cases h:o.2.2 <;> rw [h] at q2 <;> first | exact (Uaa q2).elim | (cases q2;rfl))),q3⟩
noncomputable abbrev CF(C:Cx):Prop:=∀ c k,lkN c C.P.clss=some k->ClsFacts C.K c k
theorem Facts.here(F:Facts C)(R:Rel C g O h):C.K.In h:=F.X.keeps R.base
theorem lookS{α:Type}{f:Store->Option α}{a:α}{P:Prop}(e:look f O=some (a,O'))(k:f O=some a->O=O'->P):P:=by
 delta look at e;cases q:f O with
 | none=>rw [q] at e;exact (Uaa e).elim
 | some b=>rw [q] at e;cases e;exact k q rfl
theorem Ulr{o v:V}{x:Str}{uo:Value}{ex:Bool}(F:Facts C)(cf:CF C)(R:Rel C g O s.heap)(ho:VR g s.heap o uo)(e:attrV C.P o x O=some (v,O')):EvV C A (getAttr uo x ex) g O' s v :=
 lookS e fun e z=>z▸obS e fun z q e=>iteS e fun ha e=>by
  have w:=Ufv q;refine xEEEEAAAAAAA (R.inst w.2.1 (w.1▸ho)) fun a d l n e2 p q1 w0 q3 q4 w0=>xEAA ((ER.get x q4).1 v e) fun u hu hr=>?_;cases e2;have f:=cf _ _ w.2.2;exact Ev.same R fun Q E qq=>get_value (F.here R) ⟨q1,rfl,rfl,q3⟩ (plainGet_of (show plainGet C.K _ x=true from f.get)).1 (findObj_own f.dict (f.attrs x ha) rfl (show lookIn x (dictOf l n)=some (some u) from hu)) (Uoj hr) (qq _ _ hr)
set_option tactic.hygienic true in
theorem Ujd{c x d:Addr}{k:Cls}{l:List DictEntry}{n:Nat}{name:Str}{v:Value}{Q:Unit->Shared->Prop}{E:Value->Shared->Prop}(X:C.K.In s.heap)(f:ClsFacts C.K c k)(hn:k.attrs.contains name=true)
  (hx:s.heap.get? x=some (instObj c d)) (hd:s.heap.get? d=some (dictOf l n)) (hl:(getL name l).isSome=true) (hz:(putL name (PyData.keyHash C.w.params name) (.str name (s.toks+1)) v l).length<=1000)
  (h:∀ h' n',Heap.SameBut d s.heap h'->h'.get? d=some (dictOf (putL name (PyData.keyHash C.w.params name) (.str name (s.toks+1)) v l) n')->Q () { s with heap:=h',toks:=s.toks+2 }) :
  wpAny (model C.prog C.w) A (setAttr (.ref x) name v) Q E s:=by
 have I:InstAt s.heap x (instObj c d) c (some (dictOf l n)):=⟨hx,rfl,rfl,hd⟩
 refine set_plain X I f.set ?_;have I':InstAt ({ s with toks:=s.toks+1 }:Shared).heap x (instObj c d) c (some (dictOf l n)):=I;refine osa_open (s:={ s with toks:=s.toks+1 }) (r:=none) X I' f.over (by delta takerIn;rw [f.attrs name hn];rfl) fun b=>?_;refine xEAA (any_some f.dict) fun cd hc hd'=>?_;have D:({ s with toks:=s.toks+1 }:Shared).heap.get? d=some ⟨.type "dict",none,.dict l.toArray n,#[]⟩:=hd;have D':(s.heap.update d (Obj.putName name (PyData.keyHash C.w.params name) (.str name (s.toks+1)) v)).get? d=some (dictOf (putL name (PyData.keyHash C.w.params name) (.str name (s.toks+1)) v l) (putN name l n)):=by
  rw [<- putName_dict];exact Heap.get?_update_self _ hd (by rw [putName_dict];rfl)
 have hx':({ s with toks:=s.toks+1 }:Shared).heap.get? x=some ⟨.ref c,some d,.plain,#[]⟩:=hx;clear I I' hx;have X':C.K.In ({ s with toks:=s.toks+1 }:Shared).heap:=X;refine wpAny_bind (wpAny_pure (wpAny_bind (wpAny_bind (wpAny_loadPart hx' (wpAny_bind ((looks_clsIn X' hc).here ?_))))));rw [hd'];refine wpAny_pure (a:=some d) (wpAny_bind (wpAny_pure (wpAny_bind ?_)));delta nsSet;refine wpAny_bind (wpAny_bind (wpAny_askSetting (wpAny_pure (wpAny_bind (wpAny_mkText (wpAny_bind (wpAny_loadPart D ?_)))))))
 try dsimp only
 have c:(!l.toArray.any (·.key.isStr name)&&l.toArray.any (·.refKey))=false:=by
  rw [<- Array.any_toList,<- Array.any_toList];delta getL at hl;split at hl
  ·rename_i en he;rw [List.any_eq_true.mpr ⟨en,List.mem_of_find?_eq_some he,List.find?_some he⟩];rfl
  ·split at hl
   ·cases hl
   ·rename_i z;rw [Bool.not_eq_true] at z;rw [z,Bool.and_false]
 rw [aRefKeyMayBeTheName_at,c];refine wpAny_updatePart D ?_;refine wpAny_bind (wpAny_lookBehind D' (pastItsLine_dict (by rw [List.size_toArray,sizeLine_eq];omega)) ?_);exact wpAny_pure (h _ _ (Heap.SameBut.update _ _ _) D')
theorem Ugf{o v:V}{x:Str}{uo uv:Value}(F:Facts C)(cf:CF C)(R:Rel C g O s.heap)(ho:VR g s.heap o uo)(hv:VR g s.heap v uv)(e:setAttrV C.P o x v O=some ((),O')) :
  Ev C A (setAttr uo x uv) g O' s fun w0 w0 w0=>True:=obS e fun z q e=>iteS e fun ha e=>by
 have w:=Ufv q;cases e;have ha:=Bool.and_eq_true_iff.mp ha;refine xEEEEAAAAAAA (R.inst w.2.1 (w.1▸ho)) fun a d l n e2 p q1 q2 q3 q4 w0=>?_;cases e2;have hl:(getL x l).isSome=true:=by
  cases z:lk x _ with
  | none=>rw [(ER.get x q4).2 z];rfl
  | some v=>exact xEAA ((ER.get x q4).1 v z) fun u hu w0=>by rw [hu];rfl
 have hlen:(setK x v z.2.2.2.1).length<=100:=Nat.le_trans (Ug0 x v _) (of_decide_eq_true ha.2);intro _ Q E qq;refine Ujd (F.here R) (cf _ _ w.2.2) ha.1 q1 q3 hl (Nat.le_trans (Nat.le_of_eq (ER.put (hsh:=PyData.keyHash C.w.params x) (t:=s.toks+1) x hv q4).len) (Nat.le_trans hlen (by decide))) fun h' n' sb hd=>?_;have had:a≠d:=fun z=>q2 (by subst z;exact R.st _ ⟨_,_,_,p⟩);refine xAA (R.put (s':={ s with heap:=h',toks:=s.toks+2 }) (o':=.inst _ (setK x v _)) w.2.1 p sb (Uak hd) rfl rfl fun t=>⟨(sb.2 a had).trans q1,q2,_,n',hd,
   ER.tr t R.st (fun w0 f=>f.elim) _ (ER.put x hv q4),hlen⟩) fun t R'=>qq () _ g t R' trivial
theorem Rel.putL(R:Rel C g O s.heap){r i:Nat}{vs ws:List V}{d:Addr}{its:Array Value}{n:Nat}{s':Shared}(q:O.get r i=some (.list vs))(p:g.ρ r i=some (d,d))(sb:Heap.SameBut d s.heap s'.heap)(hg:s'.heap.get? d=some (lo its n))
  (h1:s'.gens=s.gens) (h2:s'.os=s.os) (hr:VRs g s.heap ws its.toList) (hl:ws.length<=lim):Tr (fun w0=>False) g s g s'/\Rel C g (O.put r i (.list ws)) s'.heap :=
 R.put q p sb (Uak hg) h1 h2 fun t'=>⟨rfl,_,n,hg,VRs.tr' hr R t',hl⟩
theorem DictOf.live{P:Program}{w:World}{d:Addr}{l:List (Str×Value)}(e:h.DictOf (strKind P w) d l):h.get? d≠none :=
 xEEEA e fun o w0 w0 q=>Uak q.1
theorem Rel.putD(R:Rel C g O s.heap){r i:Nat}{es fs:List (Str×V)}{d:Addr}{l:List (Str×Value)}{s':Shared}(q:O.get r i=some (.dict es))(p:g.ρ r i=some (d,d))(sb:Heap.SameBut d s.heap s'.heap)(hg:s'.heap.DictOf (strKind C.prog C.w) d l)
  (h1:s'.gens=s.gens) (h2:s'.os=s.os) (hr:PR g s.heap fs l) (hl:fs.length<=lim):Tr (fun w0=>False) g s g s'/\Rel C g (O.put r i (.dict fs)) s'.heap :=
 R.put q p sb (DictOf.live hg) h1 h2 fun t'=>⟨rfl,_,hg,PR.tr t' R.st (fun w0 f=>f.elim) _ hr,hl⟩
end
theorem Ud9{x:Str}{u:Value}:∀ {l:List (Str×Value)},(l.map (·.1)).Nodup->stored l x u=setK x u l
 | [],_=>rfl
 | (y,w)::r,h=>by
  have h:=List.nodup_cons.mp h;have ih:=Ud9 (x:=x) (u:=u) h.2;unfold stored at ih ⊢;rw [List.any_cons,List.map_cons]
  by_cases q:y=x
  ·subst q;have nr:∀ kv ∈ r,kv.1≠y:=fun kv hk e=>h.1 (List.mem_map.mpr ⟨kv,hk,e⟩);have e:r.map (fun kv=>if kv.1=y then (kv.1,u) else kv)=r:=(List.map_congr_left fun kv hk=>if_neg (nr kv hk)).trans (List.map_id r);rw [Uck,decide_eq_true rfl,Bool.true_or,if_pos rfl,if_pos rfl,e]
  ·rw [Ubp q,<- ih,decide_eq_false q,Bool.false_or,if_neg q];cases List.any r fun kv=>decide (kv.1=x) <;> rfl
section
variable {C:Cx}{A:Around}{g:Gh}{O O':Store}{s:Shared}{h:Heap}
theorem PR.put(x:Str){v:V}{u:Value}(r:VR g h v u):∀ {es:List (Str×V)} {l:List (Str×Value)},PR g h es l->PR g h (setK x v es) (setK x u l)
 | [],_,e=>by cases e;exact ⟨u,[],rfl,r,rfl⟩
 | (y,w)::es,_,e=>xEEAAA e fun d rest q hv q'=>by
  cases q
  by_cases z:y=x
  ·cases z;rw [Uck,Uck];exact ⟨u,rest,rfl,r,q'⟩
  ·rw [Ubp z,Ubp z];exact ⟨d,_,rfl,hv,PR.put x r q'⟩
theorem DictOf.nodup{P:Program}{w:World}{d:Addr}{l:List (Str×Value)}(e:h.DictOf (strKind P w) d l):(l.map (·.1)).Nodup:=by
 refine xEEEAAAAAA e fun w0 w0 w0 w0 w0 w0 w0 w0 n=>?_;exact n
theorem Ulc{o k v:V}{uo uk uv:Value}(R:Rel C g O s.heap)(ho:VR g s.heap o uo)(hk:VR g s.heap k uk)(hv:VR g s.heap v uv)(e:setItemV o k v O=some ((),O')) :
  Ev C A (setItem uo uk uv) g O' s fun w0 w0 w0=>True:=by
 refine obE e (fun x q1 e=>obS e fun z q2 e=>iteS e fun hl e=>?_) fun w0 e=>obS e fun j q1 e=>obS e fun z q2 e=>obS e fun m hm e=>?_
 ·have w:=Ub9 q2;cases e;refine str1 (T:=fun u=>Ev C A (setItem uo u uv) g _ s fun w0 w0 w0=>True) q1 hk fun t w0 w0=>?_;refine xEEAAAAA (R.dict w.2 (w.1▸ho)) fun d l e2 p dO pr w0=>?_;cases e2;intro _ Q E qq;refine wpAny_setItem_pairs (strKind_is _ _ x t) dO (fun h' dO' sb=>?_) (Uap (Nat.le_trans (Nat.le_of_eq pr.len) (Nat.le_of_lt hl)));rw [Ud9 (DictOf.nodup dO)] at dO';exact xAA (R.putD (s':={ s with heap:=h',toks:=s.toks+1 }) w.2 p sb dO' rfl rfl (PR.put x hv pr) (Nat.le_trans (Ug0 x v _) hl)) fun t' R'=>qq () _ g t' R' trivial
 ·have w:=Ubc q2;cases e;refine int1 (T:=fun u=>Ev C A (setItem uo u uv) g _ s fun w0 w0 w0=>True) q1 hk fun t=>?_;refine xEEEAAAAA (R.list w.2 (w.1▸ho)) fun d its n e2 p hg hr hl=>?_;cases e2;have hlen:its.size=z.2.2.length:=hr.len;have hf:=Ui3 hm hl;intro _ Q E qq;have fin:Q () { s with heap:=s.heap.update d (Obj.mapSeq (·.setIfInBounds m uv)) } :=
   xAA (R.putL (its:=its.setIfInBounds m uv) (s':={ s with heap:=s.heap.update d (Obj.mapSeq (·.setIfInBounds m uv)) }) w.2 p (Heap.SameBut.update _ _ _) (Heap.get?_update_self _ hg rfl) rfl rfl
    (by rw [Array.toList_setIfInBounds];exact VRs.set hv m hr) (by rw [List.length_set];exact hl)) fun t' R'=>qq () _ g t' R' trivial
  rcases Ub0 hm with ⟨hj,c | c⟩
  ·exact ki_setAt (n:=n) hg c.1 hf.2 (hlen▸(Int.toNat_lt c.1).mp (c.2▸hj)) (c.2▸fin)
  ·exact ki_setBack (n:=n) hg c.1 (om336 hlen c) hf.1 (by rw [hlen];exact c.2.2▸fin)
theorem VRs.cons1{v:V}{us:List Value}(e:VRs g h [v] us):∃ u,us=[u]/\VR g h v u :=
 xEEAAA e fun u r q a q2=>by cases q;cases (show r=[] from q2);exact ⟨u,rfl,a⟩
theorem VRs.cons2{v w:V}{us:List Value}(e:VRs g h [v,w] us):∃ u x,us=[u,x]/\VR g h v u/\VR g h w x :=
 xEEAAA e fun u r q a q2=>xEAA (VRs.cons1 q2) fun x q3 b=>⟨u,x,by rw [q,q3],a,b⟩
theorem VRs.of_pt:∀ {vs:List V} {us:List Value},vs.length=us.length->(∀ (j:Nat) (v:V) (u:Value),vs[j]?=some v->us[j]?=some u->VR g h v u)->VRs g h vs us
 | [],[],_,_=>rfl
 | v::vs,u::us,hl,q=>⟨u,us,rfl,q 0 v u rfl rfl,VRs.of_pt (Nat.succ.inj hl) fun j a b e f=>q (j+1) a b e f⟩
 | [],_::_,hl,_=>by cases hl
 | _::_,[],hl,_=>by cases hl
theorem newRange{a b c:Int}{t u v:Tok}(R:Rel C g O s.heap)(k:Nat)(bd:a.natAbs<=lim/\b.natAbs<=lim/\0 < c/\c<=lim) :
  VR g ({ s with heap:=s.heap.push { cls:=.type "range",data:=.fields #[.int a t,.int b u,.int c v] },toks:=k }:Shared).heap (.rng a b c) (.ref s.heap.objs.size):=by
 exact ⟨_,t,u,v,rfl,IsRange.new ..,R.fresh,bd⟩
theorem Rel.room(F:Facts C)(R:Rel C g O h):h.NoLimit:=F.lim.keeps R.base
theorem oneE{args:List V}{a:V}(e:one args=some a):args=[a]:=by
 rcases args with _ | ⟨b,_ | ⟨c,r⟩⟩ <;> first | exact (Uaa e).elim | exact congrArg (fun x=>[x]) (Uac e)
theorem VRs.size{vs:List V}{a:Array Value}(r:VRs g h vs a.toList):a.size=vs.length:=r.len
theorem one1{args:List V}{a:V}{us:List Value}{T:List Value->Prop}(e:one args=some a)(r:VRs g h args us)(k:∀ u,VR g h a u->T [u]):T us :=
 xEAA (VRs.cons1 (oneE e▸r)) fun u q v=>by cases q;exact k u v
theorem ints1{x:Int}{vs:List V}{us:List Value}{T:List Value->Prop}(r:VRs g h (.int x::vs) us)(k:∀ t us,VRs g h vs us->T (.int x t::us)):T us :=
 xEEAAA r fun u us q a r'=>xEA a fun t e=>by cases q;cases e;exact k t us r'
theorem Up1{n:Nat}(h:n<=lim):(n:Int) < 2 ^ 63:=Int.lt_of_le_of_lt (Int.ofNat_le.mpr h) (by decide)
theorem len_ok(R:Rel C g O s.heap){a:V}{u:Value}{v:V}(r:VR g s.heap a u)(e:ob (strO a) (fun s=>some (V.int s.length)) (ob (asSeq O a) (fun vs=>some (V.int vs.length)) none)=some v):EvV C A (call (.builtin "len") [u]) g O s v:=obE e
 (fun x q e=>str1 (T:=fun u=>EvV C A (call (.builtin "len") [u]) g O s v) q r fun t w0 hl=>Ev.same R fun Q E q=>P.len_str (fun h=>Int.not_le.mpr (Up1 hl) h) (q _ _ (VR.oInt e)))
 fun w0 e=>obS e fun vs hv e=>xEEEEAAAAA (Uig hv R r) fun a its n T q hT hg hr hl=>by
  cases q;have lt:(its.size:Int) < 2 ^ 63:=Up1 (hr.size▸hl);rcases hT with q | q
  ·cases q;exact Ev.same R fun Q E q=>PyProof.Rows.len_list (VR.isList hg) lt (q _ _ (hr.size▸VR.oInt e))
  ·cases q;exact Ev.same R fun Q E q=>PyProof.Rows.len_tuple (VR.isTup hg) lt (q _ _ (hr.size▸VR.oInt e))
theorem Urb(R:Rel C g O s.heap){l:List Int}{us:List Value}{v:V}(r:VRs g s.heap (l.map .int) us)(e:rangeV l=some v):EvV C A (call (.type "range") us) g O s v:=by
 have up:∀ (b:Addr) (o:Obj) {x:Obj},s.heap.get? b=some o->(s.heap.push x).get? b=some o:=fun b o x e=>Heap.get?_push_of_some _ e;rcases l with _ | ⟨a,_ | ⟨b,_ | ⟨c,_ | ⟨d,l⟩⟩⟩⟩
 ·exact (Uaa e).elim
 ·refine iteS e fun hc e=>ints1 (T:=fun us=>EvV C A (call (.type "range") us) g O s v) r fun t us r=>?_;cases e;cases (show us=[] from r);exact Ev.up R fun Q E q=>call_range_1 (q _ _ (fun b o e=>up b o e) rfl rfl (newRange R _ ⟨Nat.zero_le _,hc,by decide,by decide⟩))
 ·refine iteS e fun hc e=>ints1 (T:=fun us=>EvV C A (call (.type "range") us) g O s v) r fun t us r=>ints1 (T:=fun us=>EvV C A (call (.type "range") (.int a t::us)) g O s v) r fun t' us r=>?_;cases e;cases (show us=[] from r);exact Ev.up R fun Q E q=>call_range_2 (q _ _ (fun b o e=>up b o e) rfl rfl (newRange R _ ⟨hc.1,hc.2,by decide,by decide⟩))
 ·refine iteS e fun hc e=>ints1 (T:=fun us=>EvV C A (call (.type "range") us) g O s v) r fun t us r=>ints1 (T:=fun us=>EvV C A (call (.type "range") (.int a t::us)) g O s v) r fun t' us r =>
   ints1 (T:=fun us=>EvV C A (call (.type "range") (.int a t::.int b t'::us)) g O s v) r fun t2 us r=>?_
  cases e;cases (show us=[] from r);have hl:lim=1000000:=rfl;exact Ev.up R fun Q E q=>call_range_3 (Int.ne_of_gt hc.2.2.1) (q _ _ (fun b o e=>up b o e) rfl rfl (newRange R _ hc)) (.inl (PyProof.noPylong_small (om317 hc hl)))
 ·exact (Uaa e).elim
theorem chr_ok(R:Rel C g O s.heap){i:Int}{t:Tok}{v:V}(e:(if 0<=i/\i < 0x110000 then some (V.str ⟨#[i.toNat]⟩) else none)=some v):EvV C A (call (.builtin "chr") [.int i t]) g O s v:=iteS e fun h1 e=>by
 cases e;refine Ev.same R fun Q E q=>P.chr_of_int (Bool.or_eq_false_iff.mpr ⟨decide_eq_false (Int.not_lt.mpr h1.1),decide_eq_false (Int.not_lt.mpr (Int.le_of_lt_add_one h1.2))⟩) (q _ _ (VR.mkStr ?_ Ukg));show (#[i.toNat]:Array Nat).all _=true;simp only [List.all_toArray,List.all_cons,List.all_nil,Bool.and_true,decide_eq_true_eq];exact (Int.toNat_lt h1.1).mpr h1.2
theorem Unp(hh:A.handled=none)(R:Rel C g O s.heap){x:Str}{t:Tok}(ho:sOk x=true)(hl:x.length<=lim):EvV C A (call (.type "list") [.str x t]) g O s (.lst (x.cps.toList.map fun c=>.str ⟨#[c]⟩)):=by
 refine Ev.up R fun Q E q=>call_list_str hh x t (fun h' tk acc' c' k hg it=>q _ _ k rfl rfl ?_) (Uap hl);refine ⟨_,acc',c',rfl,hg,R.fresh,?_,by rw [List.length_map,Array.length_toList];exact hl⟩;refine VRs.of_pt (by rw [List.length_map,Array.length_toList,Array.length_toList,it.1]) fun j w u h1 h2=>?_;rw [Array.getElem?_toList] at h2;refine xEEAA (it.2 j u h2) fun c t' hc e=>?_;rw [List.getElem?_map,Array.getElem?_toList,hc] at h1;cases h1;cases e;exact VR.mkStr (Ulj ho hc) Ukg
theorem Upf(R:Rel C g O s.heap){vs:List V}{v:V}{u:Value}(r:LV g s.heap u vs):(some (.lst vs)=some v->EvV C A (call (.type "list") [u]) g O s v)/\(some (.tup vs)=some v->EvV C A (call (.type "tuple") [u]) g O s v) :=
 xEEEAAAA r fun a its k q hg hr hl=>by
  cases q;refine ⟨fun e=>?_,fun e=>?_⟩
  ·cases e;exact Ev.up R fun Q E q=>call_list_seq a (.inl rfl) hg rfl rfl (fun h' c' k hg'=>q _ _ k rfl rfl ⟨_,its,c',rfl,hg',R.fresh,VRs.up (s:=s) (s':={ s with heap:=h' }) R k rfl rfl hr,hl⟩) (Uap (hr.size▸hl))
  ·cases e;refine Ev.up R fun Q E q=>call_tuple_list (VR.isList hg) (fun h' k=>q _ _ (fun b o e=>Heap.get?_push_of_some _ (k b o e)) rfl rfl ?_) (Uap (hr.size▸hl));exact VR.newTup (s:={ s with heap:=h' }) (R.grown (s:=s) (s':={ s with heap:=h' }) k rfl rfl) (VRs.up (s:=s) (s':={ s with heap:=h' }) R k rfl rfl hr) hl 0
theorem Uk8{d:Nat}{n:Bi}{args:List V}{us:List Value}{v:V}(Fa:Facts C)(Ro:Room A d)(R:Rel C g O s.heap)(ha:VRs g s.heap args us)(e:builtinV n args O=some (v,O')):EvV C A (call (biVal n) us) g O' s v:=lookS e fun e' z=>by
 subst z;have e:bV n O args=some v:=e';have o1:∀ a,one args=some a->(∀ u,VR g s.heap a u->EvV C A (call (biVal n) [u]) g O s v)->EvV C A (call (biVal n) us) g O s v:=fun a q k=>one1 (T:=fun us=>EvV C A (call (biVal n) us) g O s v) q ha k;cases n with
 | len=>exact obS e fun a q e=>o1 a q fun u hu=>len_ok R hu e
 | range=>exact obS e fun l q e=>Urb R (Urg q▸ha) e
 | ord=>exact obS e fun a q e=>o1 a q fun u hu=>obS e fun x q e=>iteS e fun h1 e=>str1 (T:=fun u=>EvV C A (call (.builtin "ord") [u]) g O s v) q hu fun t w0 w0=>Ev.same R fun Q E q=>ord_of_one h1 (q _ _ (VR.oInt e))
 | chr=>exact obS e fun a q e=>o1 a q fun u hu=>obS e fun x q e=>int1 (T:=fun u=>EvV C A (call (.builtin "chr") [u]) g O s v) q hu fun t=>chr_ok R e
 | list=>exact obS e fun a q e=>o1 a q fun u hu=>obE e (fun x q e=>str1 (T:=fun u=>EvV C A (call (.type "list") [u]) g O s v) q hu fun t o l=>Uac e▸Unp Ro.handled R o l) fun w0 e=>obS e fun vs q e=>(Upf R (Uas q R hu)).1 e
 | tuple=>exact obS e fun a q e=>o1 a q fun u hu=>obS e fun vs q e=>(Upf R (Uas q R hu)).2 e
end
theorem Uq7(l:List Str):Txt.join Str.empty l=joinS l:=by
 delta Txt.join;rw [StrLaws.glued_eq_join];have key:∀ l:List Str,(Str.join Str.empty l).cps.toList=(l.map (·.cps.toList)).flatten:=by
  intro l;induction l with
  | nil=>rfl
  | cons p r ih =>
   cases r with
   | nil=>exact (List.append_nil _).symm
   | cons q r =>
    show (p++Str.empty++Str.join Str.empty (q::r)).cps.toList=_;rw [Str.cps_append,Str.cps_append,Array.toList_append,Array.toList_append,ih];exact congrArg (·++((q::r).map (·.cps.toList)).flatten) (List.append_nil _)
 exact congrArg Str.mk (Array.toList_inj.mp (key l))
theorem Uop(l:List Str):(joinS l).length=(l.map (·.length)).sum:=by
 show ((l.map (·.cps.toList)).flatten.toArray).size=_;rw [List.size_toArray,List.length_flatten,List.map_map]
 rfl
theorem Usb{l:List Str}(h:∀ y ∈ l,sOk y=true):sOk (joinS l)=true:=by
 delta sOk joinS;rw [List.all_toArray,List.all_eq_true];intro c hc;refine xEAA (List.mem_flatten.mp hc) fun z hz hcz=>xEAA (List.mem_map.mp hz) fun y hy q=>?_;subst q;exact Array.all_eq_true_iff_forall_mem.mp (h y hy) c (Array.mem_toList_iff.mp hcz)
theorem Unr{α:Type}(x y:Str)(u:α):∀ {l:List (Str×α)},y ∈ (setK x u l).map (·.1)->y=x\/y ∈ l.map (·.1)
 | [],h=>.inl (List.mem_singleton.mp h)
 | (z,w)::r,h=>by
  by_cases q:z=x
  ·subst q;rw [Uck] at h;exact .inr h
  ·rw [Ubp q] at h;rcases List.mem_cons.mp h with e | e
   ·exact .inr (e▸List.mem_cons_self)
   ·exact (Unr x y u e).imp id (List.mem_cons_of_mem _)
theorem Uhd{α:Type}(x:Str)(u:α):∀ {l:List (Str×α)},(l.map (·.1)).Nodup->((setK x u l).map (·.1)).Nodup
 | [],_=>List.nodup_cons.mpr ⟨List.not_mem_nil,List.nodup_nil⟩
 | (z,w)::r,h=>by
  have h':=List.nodup_cons.mp h
  by_cases q:z=x
  ·subst q;rw [Uck];exact h
  ·rw [Ubp q];exact List.nodup_cons.mpr ⟨fun m=>(Unr x z u m).elim q h'.1,Uhd x u h'.2⟩
theorem Ud6:∀ {m l:List (Str×Value)},(l.map (·.1)).Nodup->merged l m=m.foldl (fun l kv=>setK kv.1 kv.2 l) l
 | [],_,_=>rfl
 | kv::m,l,h=>by
  have ih:=Ud6 (m:=m) (l:=setK kv.1 kv.2 l) (Uhd _ _ h);unfold merged at ih ⊢;rw [List.foldl_cons,List.foldl_cons,Ud9 h];exact ih
theorem Uc9{α:Type}:∀ (fs es:List (Str×α)),(fs.foldl (fun es p=>setK p.1 p.2 es) es).length<=es.length+fs.length
 | [],_=>Nat.le_refl _
 | p::fs,es=>by
  have h1:=Uc9 fs (setK p.1 p.2 es);have h2:=Ug0 p.1 p.2 es;rw [List.foldl_cons,List.length_cons];exact Nat.le_trans h1 (Nat.le_trans (Nat.add_le_add_right h2 _) (Nat.le_of_eq (Nat.succ_add _ _)))
section
variable {C:Cx}{A:Around}{g:Gh}{O O':Store}{s:Shared}{h:Heap}
theorem PR.upd:∀ {fs es:List (Str×V)} {m l:List (Str×Value)},PR g h es l->PR g h fs m->PR g h (updD es fs) (m.foldl (fun l kv=>setK kv.1 kv.2 l) l)
 | [],es,m,l,a,b=>by cases b;exact a
 | (x,v)::fs,es,m,l,a,b=>xEEAAA b fun u r e hv q=>by
  cases e;exact PR.upd (fs:=fs) (es:=setK x v es) (l:=setK x u l) (PR.put x hv a) q
theorem VRs.strs:∀ {l:List Str} {us:List Value},VRs g h (l.map .str) us->StrsAre us l/\∀ y ∈ l,sOk y=true
 | [],us,r=>by cases r;exact ⟨.nil,fun w0 h=>nomatch h⟩
 | y::l,us,r=>xEEAAA r fun u rest e v q=>xEAAA v fun t e2 ho w0=>xAA (VRs.strs q) fun a b=>by
  cases e;cases e2;exact ⟨.cons y t a,fun z hz=>(List.mem_cons.mp hz).elim (fun e=>e▸ho) (b z)⟩
theorem VRs.pop{vs:List V}{us:List Value}(e:VRs g h vs us):VRs g h vs.dropLast us.dropLast:=by
 rw [List.dropLast_eq_take,List.dropLast_eq_take,e.len];exact e.take _
noncomputable def Mi.id:Mi->String
 | .join=>"str.join" | .find=>"str.find" | .replace=>"str.replace" | .append=>"list.append" | .extend=>"list.extend" | .pop=>"list.pop" | .get=>"dict.get" | .update=>"dict.update"
theorem twoE{α:Type}{args:List α}{a:α×α}(e:two args=some a):args=[a.1,a.2]:=by
 rcases args with _ | ⟨b,_ | ⟨c,_ | ⟨d,r⟩⟩⟩ <;> first | exact (Uaa e).elim | exact congrArg (fun x:α×α=>[x.1,x.2]) (Uac e)
noncomputable abbrev MvOk(C:Cx)(A:Around)(id:Mi):Prop:=∀ {g:Gh} {O:Store} {s:Shared} {o:V} {args:List V} {uo:Value} {us:List Value} {r:V×Store},Rel C g O s.heap->VR g s.heap o uo->VRs g s.heap args us->mV id o args O=some r ->
 Ev C A (call (.builtin id.id) (uo::us)) g r.2 s fun g' h' u=>VR g' h' r.1 u
theorem m_join:MvOk C A .join:=fun {g O s o args uo us r} R ho ha e=>obS e fun x hx e=>obS e fun v hv e=>obS e fun vs hvs e=>obS e fun l hl e=>iteS e fun hc e=>by
 cases e;have hx0:x=Str.empty:=congrArg Str.mk (Array.eq_empty_of_size_eq_zero hc.2.2);subst hx0;refine one1 (T:=fun us=>Ev C A (call (.builtin "str.join") (uo::us)) g O s fun g' h' u=>VR g' h' (.str (joinS l)) u) hv ha fun u hu=>str1 (T:=fun uo=>Ev C A (call (.builtin "str.join") [uo,u]) g O s fun g' h' u=>VR g' h' (.str (joinS l)) u) hx ho fun t w0 w0=>?_;refine xEEEAAAA (Uas hvs R hu) fun a its n e2 hg hr w0=>xAA (VRs.strs (Uiz hl▸hr)) fun sa so=>?_;cases e2;have hb:lim < 2 ^ 23:=by decide
 refine Ev.same R fun Q E q=>join_list (VR.isList hg) sa (by have:=hc.1;show _+_*0<=_;omega) fun t' k=>q _ k ?_;rw [Uq7];exact VR.mkStr (Usb so) (by rw [Uop];exact hc.1)
theorem m_find:MvOk C A .find:=fun {g O s o args uo us r} R ho ha e=>obS e fun x hx e=>obS e fun v hv e=>obS e fun y hy e=>by
 cases e;exact one1 (T:=fun us=>Ev C A (call (.builtin "str.find") (uo::us)) g O s fun g' h' u=>VR g' h' (.int (Txt.find x y)) u) hv ha fun u hu=>str2 (T:=fun uo u=>Ev C A (call (.builtin "str.find") [uo,u]) g O s fun g' h' u=>VR g' h' (.int (Txt.find x y)) u) hx hy ho hu fun t t' w0 w0 w0 w0 =>
  Ev.same R fun Q E q=>SC.find (q _ _ VR.mkInt)
theorem Usd:MvOk C A .append:=fun {g O s o args uo us r} R ho ha e=>obS e fun z hz e=>obS e fun v hv e=>iteS e fun hl e=>by
 cases e;have w:=Ubc hz;refine one1 (T:=fun us=>Ev C A (call (.builtin "list.append") (uo::us)) g (O.put z.1 z.2.1 (.list (z.2.2++[v]))) s fun g' h' u=>VR g' h' .none u) hv ha fun u hu=>xEEEAAAAA (R.list w.2 (w.1▸ho)) fun a its n e2 p hg hr w0=>?_;cases e2;exact fun w0 Q E qq=>append_at hg (fun h' sb hg'=>xAA (R.putL (s':={ s with heap:=h' }) w.2 p sb hg' rfl rfl (by rw [Array.toList_push];exact VRs.app hr (VRs.one hu)) (by rw [List.length_append];exact hl)) fun t' R'=>qq _ _ g t' R' rfl) (Uap (hr.size▸Nat.le_of_lt hl))
theorem Urn:MvOk C A .extend:=fun {g O s o args uo us r} R ho ha e=>obS e fun z hz e=>obS e fun v hv e=>obS e fun ws hw e=>iteS e fun hl e=>by
 cases e;have w:=Ubc hz;refine one1 (T:=fun us=>Ev C A (call (.builtin "list.extend") (uo::us)) g (O.put z.1 z.2.1 (.list (z.2.2++ws))) s fun g' h' u=>VR g' h' .none u) hv ha fun u hu=>xEEEAAAAA (R.list w.2 (w.1▸ho)) fun a its n e2 p hg hr w0=>xEEEAAAA (Uas hw R hu) fun b its2 n2 e3 hg2 hr2 w0=>?_;cases e2;cases e3;have hsz:its.size+its2.size<=sizeLine:=Uap (by rw [hr.size,hr2.size];exact Nat.le_of_lt hl);exact fun w0 Q E qq=>call_meets PySem.F.slot_list_extend ⟨_,hg,rfl⟩ PySem.F.entry_list_extend (PySem.F.args_list_extend_2 _ _) (AutoSeq1.list_extend_list_list_0 a its n b its2 n2 (extend_door hsz) (Nat.le_trans (Nat.le_add_right _ _) hsz) (Nat.le_succ_of_le hsz)) ⟨hg,hg2,
  xAA (R.putL (its:=its++its2) (s':={ s with heap:=s.heap.update a (Obj.mapSeq fun x=>x++its2) }) w.2 p (Heap.SameBut.update _ _ _) (Heap.get?_update_self _ hg rfl) rfl rfl (by rw [Array.toList_append];exact VRs.app hr hr2) (by rw [List.length_append];exact Nat.le_of_lt hl)) fun t' R'=>qq _ _ g t' R' rfl⟩
theorem m_pop:MvOk C A .pop:=fun {g O s o args uo us r} R ho ha e=>obS e fun z hz e=>iteS e fun hn e=>obS e fun x hx e=>by
 cases e;have w:=Ubc hz;have ha:VRs g s.heap [] us:=List.isEmpty_iff.mp hn▸ha;cases (show us=[] from ha);rw [List.getLast?_eq_getElem?] at hx;refine xEEEAAAAA (R.list w.2 (w.1▸ho)) fun a its n e2 p hg hr hl=>xEAA (hr.get hx) fun u hu hux=>?_;cases e2;rw [Array.getElem?_toList] at hu;exact fun w0 Q E qq=>Copied.pop_at hg (y:=u) (by rw [hr.size];exact hu) (fun h' sb hg'=>xAA (R.putL (s':={ s with heap:=h' }) w.2 p sb hg' rfl rfl (by rw [Array.toList_pop];exact VRs.pop hr) (by rw [List.length_dropLast];exact Nat.le_trans (Nat.sub_le _ _) hl))
  fun t' R'=>qq _ _ g t' R' (VR.tr t' R.st (fun w0 f=>f.elim) _ hux)) (Uap (hr.size▸hl))
theorem m_get(Fa:Facts C):MvOk C A .get:=fun {g O s o args uo us r} R ho ha e=>obS e fun z hz e=>obS e fun w hw e=>obS e fun x hx e=>by
 cases e;have wd:=Ub9 hz;refine xEEAAA (VRs.cons2 (twoE hw▸ha)) fun u1 u2 e1 hu1 hu2=>xEEAAAAA (R.dict wd.2 (wd.1▸ho)) fun dd l e2 p dO pr w0=>?_;cases e1;cases e2;refine str1 (T:=fun u1=>Ev C A (call (.builtin "dict.get") [.ref dd,u1,u2]) g O s fun g' h' u=>VR g' h' ((lk x z.2.2).getD w.2) u) hx hu1 fun t w0 w0=>?_;refine Ev.same R fun Q E qq=>call_meetsIn F.slot_dict_get dO.typeIs F.entry_dict_get (F.args_dict_get_3 _ _ _) (meets_dict_get_default _ dd (strKind_is _ _ x t) (R.notSys Fa p) u2) ⟨_,dO.mapOf,qq _ _ ?_⟩;cases z:lk x z.2.2 with
 | none=>rw [(PR.look x pr).2 z];exact hu2
 | some w=>exact xEAA ((PR.look x pr).1 w z) fun u hu hr=>by rw [hu];exact hr
theorem Urp(Fa:Facts C):MvOk C A .update:=fun {g O s o args uo us r} R ho ha e=>obS e fun z hz e=>obS e fun v hv e=>obS e fun y hy e=>iteS e fun hc e=>by
 cases e;have w:=Ub9 hz;have w':=Ub9 hy;refine one1 (T:=fun us=>Ev C A (call (.builtin "dict.update") (uo::us)) g (O.put z.1 z.2.1 (.dict (updD z.2.2 y.2.2))) s fun g' h' u=>VR g' h' .none u) hv ha fun u hu=>?_;refine xEEAAAAA (R.dict w.2 (w.1▸ho)) fun dd l e2 p dO pr w0=>xEEAAAAA (R.dict w'.2 (w'.1▸hu)) fun d2 l2 e3 p2 dO2 pr2 w0=>?_;cases e2;cases e3;have hne:dd≠d2:=fun z=>by
  subst z;exact xAA (R.inj _ _ _ _ _ _ _ p p2) fun z1 z2=>hc.2.elim (fun z=>z z1) fun z=>z z2
 refine fun w0 Q E qq=>call_meetsIn F.slot_dict_update dO.typeIs F.entry_dict_update (F.args_dict_update_2 _ _) (meets_dict_update _ dd d2 hne (R.notSys Fa p2)) ⟨l,l2,dO,dO2,Uap (by rw [pr.len,pr2.len];exact Nat.le_of_lt hc.1),fun h' dO' w0 sb=>?_⟩;rw [Ud6 (DictOf.nodup dO)] at dO';exact xAA (R.putD (s':={ s with heap:=h' }) w.2 p sb dO' rfl rfl (PR.upd pr pr2) (Nat.le_trans (Uc9 y.2.2 z.2.2) (Nat.le_of_lt hc.1))) fun t' R'=>qq _ _ g t' R' rfl
theorem Uqf{d:Nat}{id:Mi}{o:V}{args:List V}{uo:Value}{us:List Value}{v:V}(Fa:Facts C)(Ro:Room A d)(R:Rel C g O s.heap)(ho:VR g s.heap o uo)(ha:VRs g s.heap args us)
  (e:methV id o args O=some (v,O')):Ev C A (call (.builtin id.id) (uo::us)) g O' s fun g' h' u=>VR g' h' v u:=by
 cases id with
 | join=>exact m_join R ho ha e
 | find=>exact m_find R ho ha e
 | replace=>cases e
 | append=>exact Usd R ho ha e
 | extend=>exact Urn R ho ha e
 | pop=>exact m_pop R ho ha e
 | get=>exact m_get Fa R ho ha e
 | update=>exact Urp Fa R ho ha e
end
section
variable {C:Cx}{A:Around}{g:Gh}{O O₁ O₂ O':Store}{s:Shared}{h:Heap}{α β γ:Type}
theorem Ev.of_eq{t t':Sem α}{T:Gh->Heap->α->Prop}(e:t=t')(h:Ev C A t' g O s T):Ev C A t g O s T:=e▸h
theorem Ev.hold{vs:List Value}{t:Sem α}{T:Gh->Heap->α->Prop}(h:Ev C A t g O s T):Ev C A (holding vs t) g O s T :=
 fun p Q E q=>wpAny_holding (h p Q E q)
theorem Ev.at_{p:Pos}{k:Sem α}{T:Gh->Heap->α->Prop}(h:Ev C A k g O s T):Ev C A (standAt p >>= fun w0=>k) g O s T :=
 fun p' Q E q=>wpAny_bind (wpAny_standAt (h p' Q E q))
theorem Ev.oper{vs:List Value}{t:Sem Value}{T:Gh->Heap->Value->Prop}(h:Ev C A t g O s T):Ev C A (operate vs t) g O s T :=
 fun p Q E q=>wpAny_operate' (h p Q E q)
theorem Ev.ret{a:α}{T:Gh->Heap->α->Prop}(R:Rel C g O s.heap)(h:T g s.heap a):Ev C A (pure a) g O s T :=
 Ev.same R fun w0 w0 q=>wpAny_pure (q a s.toks h)
theorem Ev.letGo{base:Expr}{o r:Value}{k:Sem α}{T:Gh->Heap->α->Prop}(h:Ev C A k g O s T):Ev C A (letTemporaryGo base o r >>= fun w0=>k) g O s T :=
 fun p Q E q=>wpAny_bind (wpAny_letTemporaryGo (h p Q E q))
structure ES(sc:Scope)(env:Env):Prop where
 gl:∀ x,sc.names.lookup x=some .globalImplicit->env.kindOf x=some .globalImplicit
 lo:∀ x,sc.names.lookup x=some .local->env.kindOf x=some .local
 ce:∀ x,sc.names.lookup x=some .cell->env.kindOf x=some .cell
noncomputable def pairsOf:List (Option Expr)->List Expr->Env->Pos->List (Sem Value×Sem Value)
 | some k::ks,e::r,env,pos=>(eval k env,do let x <- eval e env;standAt pos;pure x)::pairsOf ks r env pos
 | _,_,_,_=>[]
structure EvOk(C:Cx)(A:Around)(call:CC)(n:Nat):Prop where
 ev:∀ (sc:Scope) (fr:Fr) (e:Expr) (env:Env) (g:Gh) (O O':Store) (s:Shared) (v:V),ES sc env->FR g s.heap env fr->Rel C g O s.heap->evalE C.P call n sc fr e O=some (v,O')->EvV C A (eval e env) g O' s v
 evs:∀ (sc:Scope) (fr:Fr) (es:List Expr) (env:Env) (g:Gh) (O O':Store) (s:Shared) (vs:List V) (pos:Pos),ES sc env->FR g s.heap env fr->Rel C g O s.heap->evalEs C.P call n sc fr es O=some (vs,O') ->
  Ev C A (spliced (backTo pos (starEach es env))) g O' s fun g' h' us=>VRs g' h' vs us
 bool:∀ (sc:Scope) (fr:Fr) (op:BoolOp) (es:List Expr) (env:Env) (g:Gh) (O O':Store) (s:Shared) (v:V) (pos:Pos),ES sc env->FR g s.heap env fr->Rel C g O s.heap->boolE C.P call n sc fr op es O=some (v,O') ->
  EvV C A (eval (.BoolOp op es pos) env) g O' s v
 opt:∀ (sc:Scope) (fr:Fr) (e:Option Expr) (env:Env) (g:Gh) (O O':Store) (s:Shared) (v:Option V),ES sc env->FR g s.heap env fr->Rel C g O s.heap->optE C.P call n sc fr e O=some (v,O') ->
  Ev C A (evalPart e env) g O' s fun g' h' u=>OVR g' h' v u
 test:∀ (sc:Scope) (fr:Fr) (e:Expr) (env:Env) (g:Gh) (O O':Store) (s:Shared) (b:Bool),ES sc env->FR g s.heap env fr->Rel C g O s.heap->testE C.P call n sc fr e O=some (b,O') ->
  Ev C A (isTrue e env (eval e env)) g O' s fun w0 w0 c=>c=b
 tests:∀ (sc:Scope) (fr:Fr) (op:BoolOp) (es:List Expr) (env:Env) (g:Gh) (O O':Store) (s:Shared) (b:Bool),ES sc env->FR g s.heap env fr->Rel C g O s.heap->testsE C.P call n sc fr op es O=some (b,O') ->
  Ev C A (allTrue op es env) g O' s fun w0 w0 c=>c=b
 pairs:∀ (sc:Scope) (fr:Fr) (ks:List (Option Expr)) (es:List Expr) (env:Env) (g:Gh) (O O':Store) (s:Shared) (l:List (Str×V)) (pos:Pos),ES sc env->FR g s.heap env fr->Rel C g O s.heap->pairsE C.P call n sc fr ks es O=some (l,O') ->
  Ev C A (evalPairs (pairsOf ks es env pos)) g O' s fun g' h' us=>∃ kvs,Carries (strKind C.prog C.w) us kvs/\PR g' h' l kvs
theorem bndE{α β:Type}{m:M α}{k:α->M β}{O:Store}{r:β×Store}{P:Prop}(e:bnd m k O=some r)(h:∀ a O₁,m O=some (a,O₁)->k a O₁=some r->P):P:=by
 delta bnd at e;cases q:m O with
 | none=>rw [q] at e;exact (Uaa e).elim
 | some a=>rw [q] at e;exact h a.1 a.2 q e
theorem bndL{α β:Type}{f:Store->Option α}{k:α->M β}{O:Store}{r:β×Store}{P:Prop}(e:bnd (look f) k O=some r)(h:∀ a,f O=some a->k a O=some r->P):P :=
 bndE e fun a O₁ q e=>lookS q fun q z=>h a q (z▸e)
theorem bndO{α β:Type}{f:Option α}{k:α->M β}{O:Store}{r:β×Store}{P:Prop}(e:bnd (lift f) k O=some r)(h:∀ a,f=some a->k a O=some r->P):P :=
 bndL (f:=fun w0=>f) e h
theorem Ur9{α β:Type}{m:M α}{k:α->M β}{O:Store}{r:β×Store}(e:bnd m k O=some r):∃ a O₁,m O=some (a,O₁)/\k a O₁=some r:=bndE e fun a O₁ q e=>⟨a,O₁,q,e⟩
theorem Uav{α:Type}{f:Store->Option α}{O O₁:Store}{a:α}(e:look f O=some (a,O₁)):f O=some a/\O=O₁:=lookS e fun q z=>⟨q,z⟩
theorem Udu{α:Type}{f:Option α}{O O₁:Store}{a:α}(e:lift f O=some (a,O₁)):f=some a/\O=O₁:=Uav (f:=fun w0=>f) e
theorem Ubj{α:Type}{c:Prop}[Decidable c]{a b:M α}{O:Store}{r:α×Store}(e:(if c then a else b) O=some r):(c/\a O=some r)\/(¬ c/\b O=some r):=by
 by_cases h:c
 ·rw [if_pos h] at e;exact .inl ⟨h,e⟩
 ·rw [if_neg h] at e;exact .inr ⟨h,e⟩
theorem Utz{α β:Type}{x:Option α}{f:α->M β}{z:M β}{O:Store}{r:β×Store}(h:x=none)(e:ob x f z O=some r):z O=some r:=by rw [h] at e;exact e
theorem obM{α β:Type}{x:Option α}{f:α->M β}{O:Store}{r:β×Store}{P:Prop}(e:ob x f fail O=some r)(h:∀ a,x=some a->f a O=some r->P):P:=by
 cases x with
 | none=>exact (Uaa e).elim
 | some a=>exact h a rfl e
theorem iteM{α:Type}{c:Prop}[Decidable c]{a:M α}{O:Store}{r:α×Store}{P:Prop}(e:(if c then a else fail) O=some r)(k:c->a O=some r->P):P:=by
 by_cases h:c
 ·rw [if_pos h] at e;exact k h e
 ·rw [if_neg h] at e;exact (Uaa e).elim
theorem nos{α:Type}{d:α}{P:Prop}(h:(none:Option α)=some d):P:=(Uaa h).elim
theorem Up5{ops:List CmpOp}{rs:List Expr}{s:Shp}(h:shpV ops rs=some s):(∃ op r,ops=[op]/\rs=[r]/\s=(op,r,none))\/∃ o₁ o₂ r₁ r₂,ops=[o₁,o₂]/\rs=[r₁,r₂]/\s=(o₁,r₁,some (o₂,r₂)):=by
 rcases ops with _ | ⟨o₁,_ | ⟨o₂,_ | ⟨o3,t⟩⟩⟩
 ·exact nos h
 ·rcases rs with _ | ⟨r₁,_ | ⟨r₂,t⟩⟩
  ·exact nos h
  ·cases h;exact .inl ⟨_,_,rfl,rfl,rfl⟩
  ·exact nos h
 ·rcases rs with _ | ⟨r₁,_ | ⟨r₂,_ | ⟨r₃,t⟩⟩⟩
  ·exact nos h
  ·exact nos h
  ·cases h;exact .inr ⟨_,_,_,_,rfl,rfl,rfl⟩
  ·exact nos h
 ·exact nos h
theorem cale(f:Expr):(∃ o x ap,f=.Attribute o x ap)\/(∃ h q,f=.Name h q)\/calE f=.bad:=by
 have k:∀ e,calE e=.bad->(∃ o x ap,e=.Attribute o x ap)\/(∃ h q,e=.Name h q)\/calE e=.bad:=fun e h=>.inr (.inr h);cases f with
 | Attribute o x ap=>exact .inl ⟨_,_,_,rfl⟩
 | Name h q=>exact .inr (.inl ⟨_,_,rfl⟩)
 | _=>exact k _ rfl
theorem Uoi(f:Expr)(kws:List Keyword):(∃ o x ap,f=.Attribute o x ap/\kws=[])\/(∃ h q,f=.Name h q/\kws=[])\/calV f kws=.bad:=by
 cases kws with
 | nil=>exact (cale f).elim (fun ⟨o,x,ap,e⟩=>.inl ⟨o,x,ap,e,rfl⟩) fun h=>h.elim (fun ⟨x,q,e⟩=>.inr (.inl ⟨x,q,e,rfl⟩)) fun h=>.inr (.inr h)
 | cons _ _=>exact .inr (.inr rfl)
theorem Usu{β:Type}{c:Cal}{f:Expr->Str->Pos->M β}{g:Str->Pos->M β}{O:Store}{r:β×Store}(h:c=.bad)(e:calB c f g fail O=some r):False:=by subst h;cases e
theorem Un3(i:Expr):(∃ lo hi st p,i=.Slice lo hi st p)\/slcV i=none:=by
 have k:∀ i,slcV i=none->(∃ lo hi st p,i=.Slice lo hi st p)\/slcV i=none:=fun i h=>.inr h;cases i with
 | Slice=>exact .inl ⟨_,_,_,_,rfl⟩
 | _=>exact k _ rfl
theorem Utd{β:Type}{t:Tst}{f:Expr->M β}{g:BoolOp->List Expr->M β}{h:Expr->Shp->M β}{p:M β}{O:Store}{r:β×Store}(e:tstB t f g h p fail O=some r)(hb:t=.bad):False:=by subst hb;cases e
theorem Uom{β:Type}{t:Tst}{f:Expr->M β}{g:BoolOp->List Expr->M β}{h:Expr->Shp->M β}{p z:M β}{O:Store}{r:β×Store}(e:tstB t f g h p z O=some r)(hb:t=.plain):p O=some r:=by subst hb;exact e
theorem Uob(e:Expr):(∃ x p,e=.UnaryOp .Not x p)\/(∃ op es p,e=.BoolOp op es p)\/(∃ l ops rs p s,e=.Compare l ops rs p/\shpV ops rs=some s)\/tstV e=.bad\/tstV e=.plain/\∀ env t,isTrue e env t=(do let v <- t;standAt e.pos;holding [v] (truthy v)):=by
 have k:∀ e,tstV e=.plain->(∀ env t,isTrue e env t=(do let v <- t;standAt e.pos;holding [v] (truthy v)))->(∃ x p,e=.UnaryOp .Not x p)\/(∃ op es p,e=.BoolOp op es p)\/(∃ l ops rs p s,e=.Compare l ops rs p/\shpV ops rs=some s)\/tstV e=.bad\/tstV e=.plain/\∀ env t,isTrue e env t=(do let v <- t;standAt e.pos;holding [v] (truthy v)):=fun e h q=>.inr (.inr (.inr (.inr ⟨h,q⟩)));have z:∀ e,tstV e=.bad->(∃ x p,e=.UnaryOp .Not x p)\/(∃ op es p,e=.BoolOp op es p)\/(∃ l ops rs p s,e=.Compare l ops rs p/\shpV ops rs=some s)\/tstV e=.bad\/tstV e=.plain/\∀ env t,isTrue e env t=(do let v <- t;standAt e.pos;holding [v] (truthy v)):=fun e h=>.inr (.inr (.inr (.inl h)));cases e with
 | UnaryOp op x p=>cases op with
  | Not=>exact .inl ⟨_,_,rfl⟩
  | _=>exact z _ rfl
 | BoolOp op es p=>exact .inr (.inl ⟨_,_,_,rfl⟩)
 | IfExp=>exact z _ rfl
 | Compare l ops rs p =>
  cases h:shpV ops rs with
  | none=>exact z _ (by delta tstV;dsimp only;rw [h])
  | some s=>exact .inr (.inr (.inl ⟨_,_,_,_,s,rfl,h⟩))
 | _=>exact k _ rfl fun w0 w0=>rfl
theorem Ujm{t:Expr}{x:Str}(h:nameE t=some x):∃ p,t=.Name x p:=by
 cases t with
 | Name y p=>cases h;exact ⟨_,rfl⟩
 | _=>exact nos h
theorem Urt{gens:List Comprehension}{d:Str×Expr×List Expr}(h:genV gens=some d):∃ px,gens=[⟨.Name d.1 px,d.2.1,d.2.2,0⟩]:=by
 rcases gens with _ | ⟨⟨t,it,ifs,a⟩,_ | ⟨_,_⟩⟩
 ·exact nos h
 ·replace h:(if a=0 then ob (nameE t) (fun x=>some (x,it,ifs)) none else none)=some d:=h
  by_cases ha:a=0
  ·rw [if_pos ha] at h;cases q:nameE t with
   | none=>rw [q] at h;exact nos h
   | some x=>rw [q] at h;cases h;cases ha;exact (Ujm q).elim fun p e=>⟨p,e▸rfl⟩
  ·rw [if_neg ha] at h;exact nos h
 ·exact nos h
theorem Unv(ts:List Expr):(∃ us k p,ts=[.Tuple us k p])\/(∃ t,ts=[t]/\tgtV ts=.one t)\/tgtV ts=.bad:=by
 rcases ts with _ | ⟨t,_ | ⟨t2,ts⟩⟩
 ·exact .inr (.inr rfl)
 ·have k:∀ t,tgtV [t]=.one t->(∃ us k p,[t]=[.Tuple us k p])\/(∃ x,[t]=[x]/\tgtV [t]=.one x)\/tgtV [t]=.bad:=fun t h=>.inr (.inl ⟨_,rfl,h⟩);cases t with
  | Tuple us k p=>exact .inl ⟨_,_,_,rfl⟩
  | List=>exact .inr (.inr rfl)
  | Starred=>exact .inr (.inr rfl)
  | _=>exact k _ rfl
 ·exact .inr (.inr rfl)
theorem Usq{β:Type}{t:Tgt}{f:List Expr->M β}{g:Expr->M β}{O:Store}{r:β×Store}(h:t=.bad)(e:tgtB t f g fail O=some r):False:=by subst h;cases e
theorem Uua{β:Type}{t:Tgt}{f:List Expr->M β}{g:Expr->M β}{z:M β}{x:Expr}{O:Store}{r:β×Store}(h:t=.one x)(e:tgtB t f g z O=some r):g x O=some r:=by subst h;exact e
theorem Urs{t:Expr}{b:List Stmt}{x:Str}(h:forV t b=some x):∃ p,t=.Name x p/\b=[]:=by
 cases b with
 | nil=>exact (Ujm h).elim fun p e=>⟨p,e,rfl⟩
 | cons _ _=>exact nos h
theorem Urv{t:Expr}{z:Expr×Str}(h:augT t=some z):∃ p,t=.Attribute z.1 z.2 p:=by
 cases t with
 | Attribute o x p=>cases h;exact ⟨_,rfl⟩
 | _=>exact nos h
set_option tactic.hygienic true in
theorem Uhm{sc:Scope}{x:Str}{v:V}{fr:Fr}{O:Store}{r:Fr×Store}(e:setVar sc x v fr O=some r):(sc.names.lookup x=some .local\/sc.names.lookup x=some .cell)/\r=(setK x v fr,O):=by
 rcases Ubj e with ⟨h,e⟩ | ⟨_,e⟩
 ·refine ⟨?_,by cases e;rfl⟩;delta setOk at h;split at h
  ·rename_i q;exact .inl q
  ·rename_i q;exact .inr q
  ·cases h
 ·cases e
theorem Unw{α:Type}{O:Store}{r:α×Store}(e:(fail:M α) O=some r):False:=by cases e
end
theorem Ev.rel{C:Cx}{A:Around}{g:Gh}{O:Store}{s:Shared}{α:Type}{vs keep:List Value}{k:Sem α}{T:Gh->Heap->α->Prop}(h:Ev C A k g O s T):Ev C A (release vs keep >>= fun w0=>k) g O s T :=
 fun p Q E q=>wpAny_bind (wpAny_release' (h p Q E q))
noncomputable def Gh.zadd(g:Gh)(P:Addr->Prop):Gh:=⟨g.ρ,fun b=>g.Z b\/P b⟩
noncomputable def Gh.zdel(g:Gh)(P:Addr->Prop):Gh:=⟨g.ρ,fun b=>g.Z b/\¬ P b⟩
theorem OR.kp{C:Cx}{g g':Gh}{h h':Heap}(x:Kp g h g' h'){o:Ob}{a d:Addr}(hd:∀ ob,h.get? d=some ob->h'.get? d=some ob)(q:OR C g h o a d):OR C g' h' o a d:=by
 cases o with
 | list vs=>refine xAEEAAA q fun e its n q v l=>?_;exact ⟨e,its,n,hd _ q,VRs.kp x vs v,l⟩
 | dict es=>refine xAEAAA q fun e its qz1 v l=>?_;obtain ⟨o,k1,k2,q,k3⟩:=qz1;exact ⟨e,its,⟨o,k1,k2,hd _ q,k3⟩,PR.kp x es v,l⟩
 | inst c es=>refine xAAEEAAA q fun e z its n q v l=>?_;exact ⟨x.at_ _ _ e z,x.nz _ _ e z,its,n,hd _ q,ER.kp x es v,l⟩
theorem OR.live{C:Cx}{g:Gh}{h:Heap}{o:Ob}{a d:Addr}(q:OR C g h o a d):h.get? d≠none:=by
 cases o with
 | list vs=>refine xAEEAAA q fun e its n q v l=>?_;exact Uak q
 | dict es=>refine xAEAAA q fun e its qz1 v l=>?_;obtain ⟨o,k1,k2,q,k3⟩:=qz1;exact Uak q
 | inst c es=>refine xAAEEAAA q fun e z its n q v l=>?_;exact Uak q
section
variable {C:Cx}{A:Around}{g g':Gh}{O O':Store}{s s':Shared}{h h':Heap}{W P:Addr->Prop}
theorem Ujw(k:∀ b o,h.get? b=some o->h'.get? b=some o){b:Addr}(l:h.get? b≠none):h'.get? b≠none:=by
 cases e:h.get? b with
 | none=>exact absurd e l
 | some o=>rw [k b o e];exact Option.some_ne_none _
theorem Rel.zadd(R:Rel C g O s.heap)(P:Addr->Prop)(k:∀ b o,s.heap.get? b=some o->s'.heap.get? b=some o)(hP:∀ a,P a->s.heap.get? a=none/\s'.heap.get? a≠none/\sysModules < a)(hg:s'.gens=s.gens)(ho:s'.os=s.os) :
  Tr (fun w0=>False) g s (g.zadd P) s'/\Rel C (g.zadd P) O s'.heap:=by
 have x:Tr (fun w0=>False) g s (g.zadd P) s':=⟨fun w0 w0 w0 e=>e,fun b o e w0 w0=>k b o e,fun a l w0 z=>z.elim id fun p=>absurd (hP a p).1 l,fun a z=>.inl z,fun a l w0=>Ujw k l,fun b p q=>absurd p q,hg,ho⟩
 refine ⟨x,⟨fun b o e=>k b o (R.base b o e),fun a z=>?_,fun a z=>?_,fun b p=>.inl (R.st b p),R.dom,fun r i o e=>?_,R.inj⟩⟩
 ·rcases z with z | z
  ·exact R.zb a z
  ·refine ⟨?_,(hP a z).2.2⟩;cases e:C.B.get? a with
   | none=>rfl
   | some o=>have:=R.base a o e;rw [(hP a z).1] at this;cases this
 ·rcases z with z | z
  ·exact Ujw k (R.zh a z)
  ·exact (hP a z).2.1
 ·refine xEEAA (R.obj r i o e) fun a d p q=>?_;exact ⟨a,d,p,OR.kp (x.kp R.st fun w0 f=>f.elim) (k d) q⟩
theorem Rel.write(R:Rel C g O s.heap)(hw:∀ b,W b->g.Z b/\¬ g.St b)(k:∀ b o,¬ W b->s.heap.get? b=some o->s'.heap.get? b=some o)(live:∀ b,W b->s'.heap.get? b≠none)
  (hg:s'.gens=s.gens) (ho:s'.os=s.os):Tr W g s g s'/\Rel C g O s'.heap:=by
 have lv:∀ b,s.heap.get? b≠none->s'.heap.get? b≠none:=fun b l=>by
  by_cases w:W b
  ·exact live b w
  ·cases e:s.heap.get? b with
   | none=>exact absurd e l
   | some o=>rw [k b o w e];exact Option.some_ne_none _
 have x:Tr W g s g s':=⟨fun w0 w0 w0 e=>e,fun b o e w0 w=>k b o w e,fun w0 w0 w0 z=>z,fun w0 z=>z,fun a l w=>lv a l,fun b p q=>absurd p q,hg,ho⟩
 refine ⟨x,⟨fun b o e=>k b o (fun w=>?_) (R.base b o e),R.zb,fun a z=>lv a (R.zh a z),R.st,R.dom,fun r i o e=>?_,R.inj⟩⟩
 ·have:=(R.zb b (hw b w).1).1;rw [e] at this;cases this
 ·refine xEEAA (R.obj r i o e) fun a d p q=>?_;exact ⟨a,d,p,OR.kp (x.kp R.st fun b w=>(hw b w).1) (fun ob e=>k d ob (fun w=>(hw d w).2 ⟨r,i,a,p⟩) e) q⟩
theorem Rel.giveUp(R:Rel C g O h)(hw:∀ b,W b->g.Z b/\¬ g.St b)(k:∀ b o,¬ W b->h.get? b=some o->h'.get? b=some o):Kp g h (g.zdel W) h'/\Rel C (g.zdel W) O h':=by
 have x:Kp g h (g.zdel W) h':=⟨fun w0 w0 w0 e=>e,fun a o e z=>k a o (fun w=>z (hw a w).1) e,fun a o w0 z q=>z q.1⟩
 refine ⟨x,⟨fun b o e=>k b o (fun w=>?_) (R.base b o e),fun a z=>R.zb a z.1,fun a z=>?_,fun b p=>⟨R.st b p,fun w=>(hw b w).2 p⟩,R.dom,fun r i o e=>?_,R.inj⟩⟩
 ·have:=(R.zb b (hw b w).1).1;rw [e] at this;cases this
 ·cases e:h.get? a with
  | none=>exact absurd e (R.zh a z.1)
  | some o=>rw [k a o z.2 e];exact Option.some_ne_none _
 ·refine xEEAA (R.obj r i o e) fun a d p q=>?_;exact ⟨a,d,p,OR.kp x (fun ob e=>k d ob (fun w=>(hw d w).2 ⟨r,i,a,p⟩) e) q⟩
theorem Tr.giveUp{g₀:Gh}{s₀:Shared}{O₀:Store}(x:Tr W g₀ s₀ g s)(R0:Rel C g₀ O₀ s₀.heap)(hd:∀ b,W b->s₀.heap.get? b=Option.none)(hp:∀ b,P b->s₀.heap.get? b=Option.none)
  (k:∀ b o,¬ P b->s.heap.get? b=some o->s'.heap.get? b=some o) (hg:s'.gens=s.gens) (ho:s'.os=s.os):Tr (fun w0=>False) g₀ s₀ (g.zdel P) s':=by
 have nw:∀ b,s₀.heap.get? b≠Option.none->¬ W b:=fun b l w=>l (hd b w);have np:∀ b,s₀.heap.get? b≠Option.none->¬ P b:=fun b l w=>l (hp b w);refine ⟨fun r i p e=>x.grow r i p e,fun b o e n w0=>k b o (np b (Uak e)) (x.keep b o e n (nw b (Uak e))),fun a l w0 z=>x.zz a l (nw a l) z.1,fun a z=>⟨x.zk a z,np a (R0.zh a z)⟩,fun a l w0=>?_,fun b p q=>?_,hg.trans x.gens,ho.trans x.os⟩
 ·have l2:=x.live a l (nw a l);cases e:s.heap.get? a with
  | none=>exact absurd e l2
  | some o=>rw [k a o (np a l) e];exact Option.some_ne_none _
 ·rcases x.fresh b p q with z | z
  ·exact .inl z
  ·exact .inl (hd b z)
set_option tactic.hygienic true in
theorem Rel.adopt(R:Rel C g O s.heap){r:Nat}{l:List Ob}{o:Ob}{a d:Addr}(e:O[r]?=some l)(hz:g.Z d)(hs:¬ g.St d)(q:OR C g s.heap o a d) :
  Rel C (g.ext r l.length a d) (O.add r o) s.heap/\∀ W,W d->Tr W g s (g.ext r l.length a d) s:=by
 have hnone:g.ρ r l.length=none:=R.dom _ _ (Store.get_end e);have gr:∀ r' i' p,g.ρ r' i'=some p->(g.ext r l.length a d).ρ r' i'=some p:=fun r' i' p q=>by
  show (if _ then _ else _)=_;split
  ·rename_i z;refine xAA z fun qz1 qz2=>?_;subst qz1;subst qz2;rw [hnone] at q;cases q
  ·exact q
 have zz:∀ b,(g.ext r l.length a d).Z b->g.Z b:=fun b z=>z.elim id fun e=>e▸hz;have kp:Kp g s.heap (g.ext r l.length a d) s.heap:=⟨gr,fun w0 w0 e w0=>e,fun a w0 w0 z q=>z (zz a q)⟩
 refine ⟨⟨R.base,fun b z=>R.zb b (zz b z),fun b z=>R.zh b (zz b z),fun b p=>?_,fun r' i' q=>?_,fun r' i' ob q'=>?_,fun r' i' r'' i'' a' a'' d' p q=>?_⟩,fun W w=>⟨gr,fun b ob q w0 w0=>q,fun b w0 w0 z=>zz b z,fun b z=>.inl z,fun b l w0=>l,fun b p q=>?_,rfl,rfl⟩⟩
 ·refine xEEEA p fun r' i' a' p=>?_;have p:(if r'=r/\i'=l.length then some (a,d) else g.ρ r' i')=some (a',b):=p;split at p
  ·cases p;exact .inr rfl
  ·exact .inl (R.st b ⟨r',i',a',p⟩)
 ·rw [Store.get_add e] at q;split at q
  ·cases q
  ·rename_i z;show (if _ then _ else _)=_;rw [if_neg z];exact R.dom _ _ q
 ·rw [Store.get_add e] at q';split at q'
  ·rename_i z;refine xAA z fun qz1 qz2=>?_;subst qz1;subst qz2;cases q';exact ⟨a,d,by show (if _ then _ else _)=_;rw [if_pos ⟨rfl,rfl⟩],OR.kp kp (fun w0 e=>e) q⟩
  ·rename_i z;refine xEEAA (R.obj _ _ _ q') fun a' d' p' q''=>?_;exact ⟨a',d',gr _ _ _ p',OR.kp kp (fun w0 e=>e) q''⟩
 ·have p:(if r'=r/\i'=l.length then some (a,d) else g.ρ r' i')=some (a',d'):=p;have q:(if r''=r/\i''=l.length then some (a,d) else g.ρ r'' i'')=some (a'',d'):=q;split at p <;> split at q
  ·rename_i z z';exact ⟨z.1.trans z'.1.symm,z.2.trans z'.2.symm⟩
  ·cases p;exact absurd ⟨r'',i'',a'',q⟩ hs
  ·cases q;exact absurd ⟨r',i',a',p⟩ hs
  ·exact R.inj _ _ _ _ _ _ _ p q
 ·refine xEEEA p fun r' i' a' p=>?_;have p:(if r'=r/\i'=l.length then some (a,d) else g.ρ r' i')=some (a',b):=p;split at p
  ·cases p;exact .inr w
  ·exact absurd ⟨r',i',a',p⟩ q
theorem Tr.notSt{b:Addr}(x:Tr W g s g' s')(l:s.heap.get? b≠Option.none)(n:¬ g.St b)(w:¬ W b):¬ g'.St b:=fun q=>by
 rcases x.fresh b q n with z | z
 ·exact l z
 ·exact w z
theorem FR.kp{env:Env}{fr:Fr}(F:FR g h env fr)(x:Kp g h g' h')(hz:∀ a,a=env.locals\/(∃ n,env.cells.lookup n=some a)->g'.Z a/\¬ g'.St a/\∀ o,h.get? a=some o->h'.get? a=some o):FR g' h' env fr:=by
 refine xEAA F.ns fun m qz1 hv=>?_;obtain ⟨o,es,ep,ho,hd,hk,hm⟩:=qz1;refine xAAA (hz _ (.inl rfl)) fun z1 z2 z3=>?_;refine ⟨F.kind,F.glob,F.blt,F.dbg,z1,z2,⟨m,⟨o,es,ep,z3 _ ho,hd,hk,hm⟩,fun y v e k=>?_⟩,fun y v e=>?_,fun y c e=>?_,F.has,F.apart⟩
 ·refine xEAA (hv y v e k) fun u a b=>?_;exact ⟨u,a,VR.kp x v b⟩
 ·rcases F.var y v e with k | ⟨k,c,u,a,⟨oc,hc,hcd⟩,b⟩
  ·exact .inl k
  ·exact .inr ⟨k,c,u,a,⟨oc,(hz c (.inr ⟨y,a⟩)).2.2 _ hc,hcd⟩,VR.kp x v b⟩
 ·refine xAAAEEAA (F.cell y c e) fun z n l u oc hc hcd=>?_;refine xAAA (hz c (.inr ⟨y,e⟩)) fun z1 z2 z3=>?_;exact ⟨z1,z2,l,u,oc,z3 _ hc,hcd⟩
theorem FR.trW{env:Env}{fr:Fr}(F:FR g s.heap env fr)(R:Rel C g O s.heap)(x:Tr W g s g' s')(hw:∀ b,W b->g.Z b)(hn:∀ a,a=env.locals\/(∃ n,env.cells.lookup n=some a)->¬ W a):FR g' s'.heap env fr:=by
 have own:∀ a,a=env.locals\/(∃ n,env.cells.lookup n=some a)->g.Z a/\¬ g.St a:=fun a q=>by
  rcases q with rfl | ⟨n,q⟩
  ·exact ⟨F.zl,F.sl⟩
  ·exact ⟨(F.cell n a q).1,(F.cell n a q).2.1⟩
 refine F.kp (x.kp R.st hw) fun a q=>?_;refine xAA (own a q) fun z n=>?_;exact ⟨x.zk a z,x.notSt (R.zh a z) n (hn a q),fun o e=>x.keep a o e n (hn a q)⟩
end
noncomputable def mkVal:MK->Value
 | .fn f=>.ref f
 | .bi id=>.builtin id.id
structure CallOk(C:Cx)(A:Around)(cl:CC):Prop where
 fn:∀ (a:Addr) (args:List V) (us:List Value) (g:Gh) (O O':Store) (s:Shared) (v:V),Rel C g O s.heap->VRs g s.heap args us->cl a args O=some (v,O')->EvV C A (call (.ref a) us) g O' s v
 cls:∀ (a:Addr) (k:Cls) (args:List V) (us:List Value) (g:Gh) (O O':Store) (s:Shared) (v:V),lkN a C.P.clss=some k->Rel C g O s.heap->VRs g s.heap args us->applyV C.P cl (.fn a) args O=some (v,O') ->
  EvV C A (call (.ref a) us) g O' s v
 keep:∀ (a:Addr) (args:List V) (O:Store) (r:V×Store),cl a args O=some r->keepIn C.K (.ref a)=true
set_option tactic.hygienic true in
theorem Udr{o:Expr}{x:Str}{env:Env}{t:Sem Value}(h:plainBase o=true):attributeBase o x env t=t:=by
 cases o <;> try rfl
 rename_i f args kws p;cases f <;> first | rfl | cases h
section
variable {C:Cx}{A:Around}{cl:CC}{g:Gh}{O O₁ O':Store}{s:Shared}{n d:Nat}{sc:Scope}{fr:Fr}{env:Env}
theorem Ulv{P:Prog}{e:Expr}{p:Pos}{r:V×Store}(q:evalE P cl n sc fr (.Starred e p) O=some r):False:=by
 cases n with
 | zero=>exact Uaa q
 | succ n=>exact Uaa q
theorem Udm{P:Prog}{e:Expr}{rest:List Expr}{r:V×Store}(q:evalE P cl n sc fr e O=some r):starEach (e::rest) env=(false,eval e env)::starEach rest env:=by
 cases e with
 | Starred e' p=>exact (Ulv q).elim
 | _=>rfl
theorem Uax{P:Prog}{pos:Pos}:∀ {n:Nat} {es:List Expr} {O:Store} {r:List V×Store},evalEs P cl n sc fr es O=some r->(backTo pos (starEach es env)).any (·.1)=false
 | 0,_,_,_,q=>(Uaa q).elim
 | _+1,[],_,_,_=>rfl
 | n+1,x::es,O,r,q=>by
  refine bndE q fun v O₁ e1 q=>?_;refine bndE q fun ws O₂ e2 q=>?_;rw [Udm e1];have:=Uax (pos:=pos) e2;show ((false||(backTo pos (starEach es env)).any (·.1)))=false;rw [this];rfl
theorem Ul8{P:Prog}{pos:Pos}{n:Nat}{es:List Expr}{O:Store}{r:List V×Store}(q:evalEs P cl n sc fr es O=some r):(backTo pos (starEach es env)).all (!·.1)=true:=by
 have:=Uax (pos:=pos) (env:=env) q;rw [List.any_eq_false] at this;rw [List.all_eq_true];intro x hx;have:=this x hx
 simpa using this
theorem Ury(ih:EvOk C A cl n)(es:List Expr)(vs:List V)(pos:Pos)(S:ES sc env)(F:FR g s.heap env fr)(R:Rel C g O s.heap)
  (e:evalEs C.P cl (n+1) sc fr es O=some (vs,O')):Ev C A (spliced (backTo pos (starEach es env))) g O' s fun g' h' us=>VRs g' h' vs us:=by
 cases es with
 | nil =>
  cases e;exact Ev.ret R (by rfl)
 | cons x r =>
  refine bndE e fun v O₁ e1 e=>?_;refine bndE e fun ws O₂ e2 e=>?_;cases e;rw [Udm e1];show Ev C A (spliced ((false,eval x env)::backTo pos (starEach r env))) g O' s _;rw [spliced];refine Ev.bind (ih.ev sc fr x env g O O₁ s v S F R e1) fun u s₁ g₁ t R1 hu=>?_;skip;show Ev C A (holding [u] (spliced (backTo pos (starEach r env))) >>= fun vs=>pure ([u]++vs)) g₁ O' s₁ _;refine Ev.bind (Ev.hold (ih.evs sc fr r env g₁ O₁ O' s₁ ws pos S (F.tr R t) R1 e2)) fun us s₂ g₂ t₂ R2 hus=>?_;exact Ev.ret R2 (by dsimp only [VRs,List.singleton_append];exact ⟨u,us,rfl,hu.tr' R1 t₂,hus⟩)
noncomputable def KeepsF(C:Cx)(f:Value):Prop:=∀ h,C.K.In h->∃ k,(k=Keeper.frame\/k=Keeper.machine\/k=Keeper.boundFrame)/\Looks (model C.prog C.w) h (keeperOf f) k
theorem KeepsF.builtin(id:String):KeepsF C (.builtin id):=fun w0 w0=>⟨.machine,.inr (.inl rfl),.now⟩
theorem KeepsF.type(id:String):KeepsF C (.type id):=fun w0 w0=>⟨.machine,.inr (.inl rfl),.now⟩
theorem KeepsF.bi(id:Bi):KeepsF C (biVal id):=by cases id <;> first | exact .builtin _ | exact .type _
theorem Ev.callWith{p p':Pos}{f:Value}{first:List Value}{args:List Expr}{as:List V}{T:Gh->Heap->Value->Prop}(Fa:Facts C)(hpl:(backTo p (starEach args env)).any (·.1)=false)(hk:KeepsF C f)
  (hev:Ev C A (spliced (backTo p (starEach args env))) g O₁ s (fun g' h' us=>VRs g' h' as us))
  (hcall:∀ us s₁ g₁,Tr (fun w0=>False) g s g₁ s₁->Rel C g₁ O₁ s₁.heap->VRs g₁ s₁.heap as us->Ev C A (call f (first++us)) g₁ O' s₁ T) :
  Ev C A (callWith p' f first (backTo p (starEach args env)) []) g O' s T:=by
 intro pos Q E q;refine callWith_of (P:=fun h=>C.K.In h) (by show ((backTo p (starEach args env)).any (·.1)||false)=false;rw [hpl];rfl) hk ?_;have key:wpAny (model C.prog C.w) A (spliced (backTo p (starEach args env))) (fun vs s'=>C.K.In s'.heap/\wpAny (model C.prog C.w) A (call f (first++vs)) Q E s') E s :=
  wpAny_mono (wpAny_toks_of pos (hev pos (fun us s₁=>0 < s₁.toks->(C.K.In s₁.heap/\wpAny (model C.prog C.w) A (call f (first++us)) Q E s₁)) E fun us s₁ g₁ t R1 hus p' =>
   ⟨Fa.here R1,hcall us s₁ g₁ t R1 hus p' Q E fun a s₂ g₂ t₂ R2 h₂=>q a s₂ g₂ (t.trans t₂) R2 h₂⟩)) (fun w0 w0 x=>x.2 x.1) fun w0 w0 x=>x.2
 cases e:backTo p (starEach args env) with
 | nil =>
  rw [e] at key;delta evalArgs;show wpAny _ A (spliced [] >>= _) _ E s;refine wpAny_bind (wpAny_mono key (fun vs s' h'=>wpAny_bind (wpAny_pure ?_)) fun w0 w0 x=>x);refine wpAny_holding ?_;exact wpAny_bind (wpAny_pure (wpAny_bind (wpAny_pure (wpAny_pure h'))))
 | cons x r =>
  rw [e] at key hpl;obtain ⟨b,t⟩:=x;rw [List.any_cons,Bool.or_eq_false_iff] at hpl;obtain rfl:b=false:=hpl.1;exact evalArgs_plain key
theorem get_fn{x:Str}{f:Addr}{r i:Nat}{c:Addr}{es:List (Str×V)}{k:Cls}{uo:Value}{pl:Sem Bool}(Fa:Facts C)(cf:CF C)(R:Rel C g O s.heap)(ho:VR g s.heap (.ref r i) uo)(e:O.get r i=some (.inst c es))
  (hk:lkN c C.P.clss=some k) (hf:lk x k.meths=some f) (hn:lk x es=none):Ev C A (getMethod uo x pl) g O s fun w0 w0 p=>p=(.ref f,[uo]):=by
 refine xEEEEAAAAAAA (R.inst e ho) fun a d l m qz1 p q1 q2 q3 q4 w0=>?_;subst qz1;have ff:=cf c k hk;have hg:plainGet C.K c x=true:=ff.get;refine xAA (ff.meths x f hf) fun m1 m2=>?_;have hl:getL x l=some none:=(ER.get x q4).2 hn;refine Ev.same R fun Q E q=>method_fn (od:=some (dictOf l m)) (Fa.here R) ⟨q1,rfl,rfl,q3⟩ (plainGet_of hg).1 (plainGet_of hg).2 m1 (beq_iff_eq.mp m2) (by show (lookIn x (dictOf l m)).map _=_;rw [lookIn_dict,hl];rfl) (q _ s.toks rfl)
theorem ifE{α:Type}{c:Prop}[Decidable c]{x:α}{z:Option α}{r:α}{P:Prop}(h:(if c then some x else z)=some r)(k:c->x=r->P)(k2:z=some r->P):P:=by
 by_cases q:c
 ·rw [if_pos q] at h;exact k q (Uac h)
 ·rw [if_neg q] at h;exact k2 h
noncomputable abbrev GmOk(C:Cx)(A:Around)(pl:Sem Bool)(g:Gh)(O:Store)(s:Shared)(uo:Value)(x:Str)(f:Value):Prop:=Ev C A (getMethod uo x pl) g O s fun w0 w0 p=>p=(f,[uo])
theorem mk_str{x y:Str}{t:Tok}{id:Mi}{pl:Sem Bool}(R:Rel C g O s.heap)(h:strM x=some id):GmOk C A pl g O s (.str y t) x (.builtin id.id) :=
 ifE h (fun b e=>by cases e;cases beq_iff_eq.mp b;exact Ev.same R fun Q E q=>GM.join (q _ s.toks rfl))
  fun h=>ifE h (fun b e=>by cases e;cases beq_iff_eq.mp b;exact Ev.same R fun Q E q=>GM.find (q _ s.toks rfl))
  fun h=>ifE h (fun b e=>by cases e;cases beq_iff_eq.mp b;exact Ev.same R fun Q E q=>GM.replace (q _ s.toks rfl)) fun h=>(Uaa h).elim
theorem Uta{x:Str}{a:Addr}{its:Array Value}{n:Nat}{id:Mi}{pl:Sem Bool}(hg:s.heap.get? a=some (lo its n))(R:Rel C g O s.heap)(h:listM x=some id):GmOk C A pl g O s (.ref a) x (.builtin id.id):=by
 have hd:∀ b,Value.ref a=.ref b->∃ o,s.heap.get? b=some o/\o.dict=none:=fun b e=>by cases e;exact ⟨_,hg,rfl⟩
 exact ifE h (fun b e=>by cases e;cases beq_iff_eq.mp b;exact Ev.same R fun Q E q=>getMethod_builtin (VR.isList hg).typeIs PySem.F.plainAttrs_list slot_list_append PySem.F.type_list_append hd (q _ s.toks rfl))
  fun h=>ifE h (fun b e=>by cases e;cases beq_iff_eq.mp b;exact Ev.same R fun Q E q=>getMethod_builtin (VR.isList hg).typeIs PySem.F.plainAttrs_list PySem.F.slot_list_extend PySem.F.type_list_extend hd (q _ s.toks rfl))
  fun h=>ifE h (fun b e=>by cases e;cases beq_iff_eq.mp b;exact Ev.same R fun Q E q=>Copied.getMethod_pop_at hg rfl rfl (q _ s.toks rfl)) fun h=>(Uaa h).elim
theorem Ut0{x:Str}{a:Addr}{l:List (Str×Value)}{id:Mi}{pl:Sem Bool}(dO:s.heap.DictOf (strKind C.prog C.w) a l)(R:Rel C g O s.heap)(h:dictM x=some id):GmOk C A pl g O s (.ref a) x (.builtin id.id):=by
 have hd:∀ b,Value.ref a=.ref b->∃ o,s.heap.get? b=some o/\o.dict=none:=dO.mapOf.noDict;exact ifE h (fun b e=>by cases e;cases beq_iff_eq.mp b;exact Ev.same R fun Q E q=>getMethod_builtin dO.typeIs PySem.F.plainAttrs_dict PySem.F.slot_dict_get PySem.F.type_dict_get hd (q _ s.toks rfl))
  fun h=>ifE h (fun b e=>by cases e;cases beq_iff_eq.mp b;exact Ev.same R fun Q E q=>getMethod_builtin dO.typeIs PySem.F.plainAttrs_dict PySem.F.slot_dict_update PySem.F.type_dict_update hd (q _ s.toks rfl)) fun h=>(Uaa h).elim
theorem mapE{α β:Type}{f:α->β}{x:Option α}{r:β}{P:Prop}(e:x.map f=some r)(k:∀ a,x=some a->f a=r->P):P:=xEAA (Option.map_eq_some_iff.mp e) k
theorem Uqm{x:Str}{o:V}{uo:Value}{k:MK}{pl:Sem Bool}(Fa:Facts C)(cf:CF C)(R:Rel C g O s.heap)(ho:VR g s.heap o uo)(e:methK C.P o x O=some k):GmOk C A pl g O s uo x (mkVal k):=obE e
 (fun y q e=>mapE e fun id h e=>by cases e;exact str1 (T:=fun uo=>GmOk C A pl g O s uo x (.builtin id.id)) q ho fun t w0 w0=>mk_str R h)
 fun w0 e=>obE e (fun z q e=>mapE e fun id h e=>xEEEAAAAA (R.list (Ubc q).2 ((Ubc q).1▸ho)) fun a its m e2 w0 hg w0 w0=>by cases e;cases e2;exact Uta hg R h)
 fun w0 e=>obE e (fun z q e=>mapE e fun id h e=>xEEAAAAA (R.dict (Ub9 q).2 ((Ub9 q).1▸ho)) fun dd l e2 w0 dO w0 w0=>by cases e;cases e2;exact Ut0 dO R h)
 fun w0 e=>obS e fun z q e=>obS e fun f hf e=>obE e (fun w0 w0 e=>(Uaa e).elim) fun hn e=>by
  have w:=Ufv q;cases e;exact get_fn Fa cf R (w.1▸ho) w.2.1 w.2.2 hf hn
end
section
variable {C:Cx}{A:Around}{cl:CC}{g:Gh}{O O₁ O':Store}{s:Shared}{n d:Nat}{sc:Scope}{fr:Fr}{env:Env}
set_option tactic.hygienic true in
theorem Un2{pos:Pos}{vs:List V}{v:V}{us:List Value}(R:Rel C g O s.heap)(hv:VRs g s.heap vs us)(e:mkList C.P pos vs O=some (v,O')):EvV C A (newList us) g O' s v:=by
 delta mkList at e;split at e
 ·rename_i hl;have hlen:=hv.len;split at e
  ·rename_i r hr;split at e
   ·rename_i l hl';cases e;intro _ Q E q;refine wpAny_newList ?_ (Uap (om15 hl hlen));obtain ⟨t,R'⟩:=R.add (s':={ s with heap:=s.heap.push { cls:=.type "list",data:=.seq us.toArray } }) (r:=r) (o:=.list vs) (a:=s.heap.objs.size) (d:=s.heap.objs.size) hl'
     (fun b o e=>Heap.get?_push_of_some _ e) (Ubs _) (Uak (Heap.get?_push_size _ rfl)) R.low rfl rfl fun t =>
     ⟨rfl,us.toArray,0,Heap.get?_push_size _ rfl,VRs.tr t R.st (fun w0 f=>f.elim) _ (by simpa using hv),hl⟩
    refine q _ _ _ t R' ?_;skip;exact ⟨_,_,rfl,by show (if _ then _ else _)=_;rw [if_pos ⟨rfl,rfl⟩]⟩
   ·cases e
  ·cases e;exact Ev.up R fun Q E q=>wpAny_newList (q _ _ (fun b o e=>Heap.get?_push_of_some _ e) rfl rfl (VR.newList (k:=0) R (by simpa using hv) hl)) (Uap (om15 hl hlen))
 ·cases e
theorem Usy{a v:V}{ua:Value}(R:Rel C g O s.heap)(ha:VR g s.heap a ua)(e:negV a=some v):EvV C A (unaryOp .USub ua) g O s v:=by
 delta negV at e;split at e
 ·cases e;dsimp only [VR] at ha;refine xEA ha fun t qz1=>?_;subst qz1;exact Ev.same R fun Q E q=>neg_int (q _ _ VR.mkInt)
 ·cases e
theorem lastMarks1{op:CmpOp}{r:Expr}(h:notSet r=true):behindInMarks op r=false:=by
 cases r <;> first | rfl | cases h
theorem Ujc{P:Prog}{e:Expr}{r:V×Store}(q:evalE P cl n sc fr e O=some r):notSet e=true:=by
 cases e with
 | Set a b c=>cases n <;> exact (Uaa q).elim
 | _=>rfl
theorem Ev.unbool{t:Sem Value}{b:Bool}(h:EvB C A t g O s b):EvV C A t g O s (.bool b):=h.mono fun w0 w0 u e=>by subst e;exact VR.mkBool
theorem Ue2{b:Bool}{u:Value}(R:Rel C g O s.heap)(e:u=.bool b):Ev C A (truthy u) g O s fun w0 w0 c=>c=b:=by
 subst e;exact Ev.same R fun Q E q=>wpAny_truthy_bool (q _ s.toks rfl)
theorem cmp1(Fa:Facts C)(Ro:Room A d)(ih:EvOk C A cl n){op:CmpOp}{l r:Expr}{a b:V}{c:Bool}{pos:Pos}{O₁ O₂:Store}(S:ES sc env)(F:FR g s.heap env fr)(R:Rel C g O s.heap)
  (e1:evalE C.P cl n sc fr l O=some (a,O₁)) (e2:evalE C.P cl n sc fr r O₁=some (b,O₂)) (e3:cmpV op a b O₂=some c) :
  EvB C A (eval (.Compare l [op] [r] pos) env) g O₂ s c/\Ev C A (isTrue (.Compare l [op] [r] pos) env (eval (.Compare l [op] [r] pos) env)) g O₂ s (fun w0 w0 t=>t=c):=by
 have hm:=lastMarks1 (op:=op) (Ujc e2);have core:∀ {u:Value} {s₁:Shared} {g₁:Gh},Tr (fun w0=>False) g s g₁ s₁->Rel C g₁ O₁ s₁.heap->VR g₁ s₁.heap a u ->
   Ev C A (do let b <- holding [u] (eval r env);standAt pos;operate [u,b] (compareOp op u b)) g₁ O₂ s₁ (fun w0 w0 t=>t=.bool c):=by
  intro u s₁ g₁ t₁ R1 hu;refine Ev.bind (Ev.hold (ih.ev sc fr r env g₁ O₁ O₂ s₁ b S (F.tr R t₁) R1 e2)) fun ub s₂ g₂ t₂ R2 hub=>?_;exact Ev.at_ (Ev.oper (Ugh Fa Ro R2 (hu.tr' R1 t₂) hub e3))
 constructor
 ·refine Ev.of_eq (eval_Compare1 env l op r pos) ?_;rw [markedBehindIn_of_false hm];exact Ev.bind (ih.ev sc fr l env g O O₁ s a S F R e1) fun u s₁ g₁ t₁ R1 hu=>core t₁ R1 hu
 ·refine Ev.of_eq (isTrue_Compare1 env l op r pos _) ?_;rw [markedBehindIn_of_false hm];refine Ev.bind (ih.ev sc fr l env g O O₁ s a S F R e1) fun u s₁ g₁ t₁ R1 hu=>?_;refine Ev.bind (Ev.hold (ih.ev sc fr r env g₁ O₁ O₂ s₁ b S (F.tr R t₁) R1 e2)) fun ub s₂ g₂ t₂ R2 hub=>?_;refine Ev.at_ (Ev.bind (Ev.oper (Ugh Fa Ro R2 (hu.tr' R1 t₂) hub e3)) fun uc s₃ g₃ t₃ R3 huc=>?_);exact Ev.hold (Ue2 R3 huc)
theorem cmp2(Fa:Facts C)(Ro:Room A d)(ih:EvOk C A cl n){op1 op₂:CmpOp}{l r₁ r₂:Expr}{a b:V}{c e:Bool}{pos:Pos}{O₁ O₂ O₃:Store}(S:ES sc env)(F:FR g s.heap env fr)(R:Rel C g O s.heap)
  (hm:notSet r₂=true) (e1:evalE C.P cl n sc fr l O=some (a,O₁)) (e2:evalE C.P cl n sc fr r₁ O₁=some (b,O₂)) (e3:cmpV op1 a b O₂=some c)
  (e4:if c=true then ∃ v,evalE C.P cl n sc fr r₂ O₂=some (v,O₃)/\cmpV op₂ b v O₃=some e else O₃=O₂/\e=false) :
  EvB C A (eval (.Compare l [op1,op₂] [r₁,r₂] pos) env) g O₃ s e/\Ev C A (isTrue (.Compare l [op1,op₂] [r₁,r₂] pos) env (eval (.Compare l [op1,op₂] [r₁,r₂] pos) env)) g O₃ s (fun w0 w0 t=>t=e):=by
 have hl:lastMarks [op1,op₂] [r₁,r₂]=false:=lastMarks1 (op:=op₂) hm;have last:∀ {u:Value} {s₁:Shared} {g₁:Gh} {v:V},Tr (fun w0=>False) g s g₁ s₁->Rel C g₁ O₂ s₁.heap->VR g₁ s₁.heap b u->evalE C.P cl n sc fr r₂ O₂=some (v,O₃)->cmpV op₂ b v O₃=some e ->
   Ev C A (do let b <- holding [u] (eval r₂ env);standAt pos;operate [u,b] (compareOp op₂ u b)) g₁ O₃ s₁ (fun w0 w0 t=>t=.bool e):=by
  intro u s₁ g₁ v t₁ R1 hu q1 q2;refine Ev.bind (Ev.hold (ih.ev sc fr r₂ env g₁ O₂ O₃ s₁ v S (F.tr R t₁) R1 q1)) fun ub s₂ g₂ t₂ R2 hub=>?_;exact Ev.at_ (Ev.oper (Ugh Fa Ro R2 (hu.tr' R1 t₂) hub q2))
 constructor
 ·have eq:eval (.Compare l [op1,op₂] [r₁,r₂] pos) env=(eval l env >>= fun a=>do
    let rv <- holding [a] (eval r₁ env)
    standAt pos
    let c <- holding [a,rv] (compareOp op1 a rv)
    release [a,rv] [c]
    if <- holding [c,rv] (truthy c) then (do let b <- holding [rv] (eval r₂ env);standAt pos;operate [rv,b] (compareOp op₂ rv b)) else pure c):=by
   rw [arm_eval_Compare,markedEach_of_false _ _ _ hl];rfl
  refine Ev.of_eq eq (Ev.bind (ih.ev sc fr l env g O O₁ s a S F R e1) fun u s₁ g₁ t₁ R1 hu=>?_);refine Ev.bind (Ev.hold (ih.ev sc fr r₁ env g₁ O₁ O₂ s₁ b S (F.tr R t₁) R1 e2)) fun ub s₂ g₂ t₂ R2 hub=>?_;refine Ev.at_ (Ev.bind (Ev.hold (Ugh Fa Ro R2 (hu.tr' R1 t₂) hub e3)) fun uc s₃ g₃ t₃ R3 huc=>?_);refine Ev.rel (Ev.bind (Ev.hold (Ue2 R3 huc)) fun t s4 g₄ t4 R4 ht=>?_);subst ht;cases t with
  | true =>
   simp only [if_true] at e4;refine xEAA e4 fun v q1 q2=>?_;exact last (t₁.trans (t₂.trans (t₃.trans t4))) R4 ((hub.tr' R2 t₃).tr' R3 t4) q1 q2
  | false =>
   simp only [Bool.false_eq_true,if_false] at e4;refine xAA e4 fun qz1 qz2=>?_;subst qz1;subst qz2;exact Ev.ret R4 huc
 ·have eq:isTrue (.Compare l [op1,op₂] [r₁,r₂] pos) env (eval (.Compare l [op1,op₂] [r₁,r₂] pos) env)=(eval l env >>= fun a=>do
    let rv <- holding [a] (eval r₁ env)
    standAt pos
    let c <- holding [a,rv] (compareOp op1 a rv)
    release [a,rv] [c]
    if <- holding [c,rv] (truthy c) then (do let b <- holding [rv] (eval r₂ env);standAt pos;let c <- operate [rv,b] (compareOp op₂ rv b);holding [c] (truthy c)) else pure false):=by
   rw [arm_isTrue_Compare,markedEach_of_false _ _ _ hl];rfl
  refine Ev.of_eq eq (Ev.bind (ih.ev sc fr l env g O O₁ s a S F R e1) fun u s₁ g₁ t₁ R1 hu=>?_);refine Ev.bind (Ev.hold (ih.ev sc fr r₁ env g₁ O₁ O₂ s₁ b S (F.tr R t₁) R1 e2)) fun ub s₂ g₂ t₂ R2 hub=>?_;refine Ev.at_ (Ev.bind (Ev.hold (Ugh Fa Ro R2 (hu.tr' R1 t₂) hub e3)) fun uc s₃ g₃ t₃ R3 huc=>?_);refine Ev.rel (Ev.bind (Ev.hold (Ue2 R3 huc)) fun t s4 g₄ t4 R4 ht=>?_);subst ht;cases t with
  | true =>
   simp only [if_true] at e4;refine xEAA e4 fun v q1 q2=>?_;have t':=t₁.trans (t₂.trans (t₃.trans t4));refine Ev.bind (Ev.hold (ih.ev sc fr r₂ env g₄ O₂ O₃ s4 v S (F.tr R t') R4 q1)) fun ub' s5 g₅ t5 R5 hub'=>?_;refine Ev.at_ (Ev.bind (Ev.oper (Ugh Fa Ro R5 (((hub.tr' R2 t₃).tr' R3 t4).tr' R4 t5) hub' q2)) fun uc' s6 g6 t6 R6 huc'=>?_);exact Ev.hold (Ue2 R6 huc')
  | false =>
   simp only [Bool.false_eq_true,if_false] at e4;refine xAA e4 fun qz1 qz2=>?_;subst qz1;subst qz2;exact Ev.ret R4 rfl
theorem Ufs{P:Prog}{pos:Pos}:∀ {n:Nat} {ks:List (Option Expr)} {es:List Expr} {O:Store} {r:List (Str×V)×Store},pairsE P cl n sc fr ks es O=some r ->
  (evalEachOpt ks env).zip ((evalEach es env).map fun v=>do let x <- v;standAt pos;pure x)=(pairsOf ks es env pos).map (fun p=>(some p.1,p.2))/\(pairsOf ks es env pos).length=ks.length/\r.1.length=ks.length
 | 0,_,_,_,_,q=>(Uaa q).elim
 | _+1,[],[],_,_,q=>by cases q;exact ⟨rfl,rfl,rfl⟩
 | n+1,some k::ks,e::es,O,r,q=>by
  refine bndE q fun kv O₁ e1 q=>?_;cases kv with
  | str x =>
   refine bndE q fun v O₂ e2 q=>?_;refine bndE q fun l O₃ e3 q=>?_;cases q;refine xAAA (Ufs (pos:=pos) e3) fun a b c=>?_;refine ⟨?_,congrArg (·+1) b,congrArg (·+1) c⟩;exact congrArg (List.cons _) a
  | _=>exact (Uaa q).elim
 | _+1,none::_,[],_,_,q=>(Uaa q).elim
 | _+1,none::_,_::_,_,_,q=>(Uaa q).elim
 | _+1,some _::_,[],_,_,q=>(Uaa q).elim
 | _+1,[],_::_,_,_,q=>(Uaa q).elim
theorem Um6(ih:EvOk C A cl n)(ks:List (Option Expr))(es:List Expr)(l:List (Str×V))(pos:Pos)(S:ES sc env)(F:FR g s.heap env fr)(R:Rel C g O s.heap)
  (e:pairsE C.P cl (n+1) sc fr ks es O=some (l,O')):Ev C A (evalPairs (pairsOf ks es env pos)) g O' s fun g' h' us=>∃ kvs,Carries (strKind C.prog C.w) us kvs/\PR g' h' l kvs:=by
 match ks,es,e with
 | [],[],e =>
  cases e;exact Ev.ret R ⟨[],trivial,by simp [PR]⟩
 | some k::ks,x::es,e =>
  refine bndE e fun kv O₁ e1 e=>?_;cases kv with
  | str kx =>
   refine bndE e fun v O₂ e2 e=>?_;refine bndE e fun m O₃ e3 e=>?_;cases e;rw [pairsOf,evalPairs];refine Ev.bind (ih.ev sc fr k env g O O₁ s _ S F R e1) fun uk s₁ g₁ t₁ R1 huk=>?_;refine Ev.bind (Ev.hold (Ev.bind (T':=fun g' h' u=>VR g' h' v u) (ih.ev sc fr x env g₁ O₁ O₂ s₁ v S (F.tr R t₁) R1 e2) fun ux s₂ g₂ t₂ R2 hux=>Ev.at_ (Ev.ret R2 hux))) fun ux s₂ g₂ t₂ R2 hux=>?_;refine Ev.bind (Ev.hold (ih.pairs sc fr ks es env g₂ O₂ O' s₂ m pos S ((F.tr R t₁).tr R1 t₂) R2 e3)) fun us s₃ g₃ t₃ R3 hus=>?_;refine xEAA hus fun kvs hc hp=>?_;have huk':=(huk.tr' R1 t₂).tr' R2 t₃;dsimp only [VR] at huk';refine xEAA huk' fun t qz1 w0=>?_;subst qz1;exact Ev.ret R3 ⟨(kx,ux)::kvs,⟨strKind_is _ _ kx t,rfl,hc⟩,by dsimp only [PR];exact ⟨ux,kvs,rfl,hux.tr' R2 t₃,hp⟩⟩
  | _=>exact (Uaa e).elim
 | none::_,[],e=>exact (Uaa e).elim
 | none::_,_::_,e=>exact (Uaa e).elim
 | some _::_,[],e=>exact (Uaa e).elim
 | [],_::_,e=>exact (Uaa e).elim
end
end Mine
end
section
open PySem PySem.Calls PyProof.Rows PySem.W
set_option backward.match.sparseCases true
namespace Mine
section
variable {C:Cx}{A:Around}{cl:CC}{g:Gh}{O O₁ O':Store}{s:Shared}{n d:Nat}{sc:Scope}{fr:Fr}{env:Env}
set_option tactic.hygienic true in
theorem Usk(ih:EvOk C A cl n){ks:List (Option Expr)}{es:List Expr}{pos:Pos}{v:V}{l:List (Str×V)}(S:ES sc env)(F:FR g s.heap env fr)(R:Rel C g O s.heap)
  (h15:ks.length<=15/\0 < ks.length) (e1:pairsE C.P cl n sc fr ks es O=some (l,O₁)) (e2:mkDict C.P pos l O₁=some (v,O')):EvV C A (eval (.Dict ks es pos) env) g O' s v:=by
 delta mkDict at e2;split at e2
 ·rename_i r hr;split at e2
  ·rename_i ob hob;cases e2;refine xAAA (Ufs (env:=env) (pos:=pos) e1) fun sh ln ll=>?_;have D0:(s.heap.push { cls:=.type "dict",data:=.dict #[] }).DictOf (strKind C.prog C.w) s.heap.objs.size []:=Heap.DictOf.new ..;intro p Q E q;obtain ⟨t₁,R1⟩:=R.zadd (s':={ s with heap:=s.heap.push { cls:=.type "dict",data:=.dict #[] } }) (fun a=>a=s.heap.objs.size) (fun b o e=>Heap.get?_push_of_some _ e)
    (fun a e=>by subst e;exact ⟨Ubs _,Uak (Heap.get?_push_size _ rfl),R.low⟩) rfl rfl
   have nst:¬ (g.zadd (fun a=>a=s.heap.objs.size)).St s.heap.objs.size:=fun z=>R.zh _ (R.st _ z) (Ubs _);refine wpAny_Dict_pairs (knd:=strKind C.prog C.w) sh (by intro z;rw [z] at ln;simp at ln;omega) (ln▸h15.1) ?_;refine wpAny_mono (wpAny_toks_of p (ih.pairs sc fr ks es env _ O O₁ _ l pos S (F.tr R t₁) R1 e1 p (fun us s₂=>∃ kvs,Carries (strKind C.prog C.w) us kvs/\s₂.heap.DictOf (strKind C.prog C.w) s.heap.objs.size [] /\
    ∀ h',h'.DictOf (strKind C.prog C.w) s.heap.objs.size (merged [] kvs)->Heap.SameBut s.heap.objs.size s₂.heap h'->Q (.ref s.heap.objs.size) { s₂ with heap:=h',toks:=s₂.toks+us.length }) E fun us s₂ g₂ t₂ R2 hus=>?_))
    (fun w0 w0 x=>x.2) fun w0 w0 x=>x.2
   refine xEAA hus fun kvs hc hp=>?_;refine ⟨kvs,hc,?_,fun h' dO sb=>?_⟩
   ·refine xEEEAA D0 fun o es' ep ho r'=>?_;exact ⟨o,es',ep,t₂.keep _ _ ho nst (fun f=>f),r'⟩
   ·have hz2:g₂.Z s.heap.objs.size:=t₂.zk _ (.inr rfl);have nst2:¬ g₂.St s.heap.objs.size:=fun z=>by
     rcases t₂.fresh _ z nst with w | w
     ·have:(s.heap.push { cls:=.type "dict",data:=.dict #[] }).get? s.heap.objs.size=none:=w;rw [Heap.get?_push_size _ rfl] at this;cases this
     ·exact w
    rw [Ud6 (by simp)] at dO;obtain ⟨t₃,R3⟩:=R2.write (W:=fun a=>a=s.heap.objs.size) (s':={ s₂ with heap:=h',toks:=s₂.toks+us.length }) (fun b e=>by subst e;exact ⟨hz2,nst2⟩) (fun b o w e=>(sb.2 b w).trans e)
     (fun b e=>by subst e;exact DictOf.live dO) rfl rfl
    have hpl:=hp.len;obtain ⟨R4,t4⟩:=R3.adopt (s:={ s₂ with heap:=h',toks:=s₂.toks+us.length }) (r:=r) (o:=.dict (updD [] l)) (a:=s.heap.objs.size) hob hz2 nst2
     ⟨rfl,_,dO,PR.tr t₃ R2.st (fun b e=>by subst e;exact hz2) _ (PR.upd (by rfl) hp),by
      have h1:=Uc9 l ([]:List (Str×V));have h2:l.length=ks.length:=ll;have:lim=1000000:=rfl;delta updD;dsimp only [List.length_nil] at h1;exact om304 h15 ln ll h1 h2 this⟩
    have t:=((t₁.none (W:=fun a=>a=s.heap.objs.size)).trans (t₂.none.trans (t₃.trans (t4 (fun a=>a=s.heap.objs.size) rfl)))).weak (W':=fun w0=>False) fun b l w=>by subst w;exact l (Ubs _)
    refine q _ _ _ t R4 ?_;skip;exact ⟨_,_,rfl,by show (if _ then _ else _)=_;rw [if_pos ⟨rfl,rfl⟩]⟩
  ·cases e2
 ·cases e2
theorem Uok(ih:EvOk C A cl n){op:BoolOp}{es:List Expr}{pos:Pos}{v:V}(S:ES sc env)(F:FR g s.heap env fr)(R:Rel C g O s.heap)
  (e:boolE C.P cl (n+1) sc fr op es O=some (v,O')):EvV C A (eval (.BoolOp op es pos) env) g O' s v:=by
 match es,e with
 | [],e=>exact (Uaa e).elim
 | [x],e =>
  exact ih.ev sc fr x env g O O' s v S F R e
 | x::y::r,e =>
  ·refine bndE e fun a O₁ e1 e=>?_;refine bndE e fun b O₂ e2 e=>?_;refine xAA (Udu e2) fun e2' qz1=>?_;subst qz1;have eq:eval (.BoolOp op (x::y::r) pos) env=(eval x env >>= fun v=>do
    standAt pos
    let t <- holding [v] (truthy v)
    match op,t with
    | .And,false | .Or,true=>pure v
    | _,_=>eval (.BoolOp op (y::r) pos) env):=rfl
   refine Ev.of_eq eq (Ev.bind (ih.ev sc fr x env g O _ s a S F R e1) fun u s₁ g₁ t₁ R1 hu=>Ev.at_ (Ev.bind (Ev.hold (isT_ok R1 hu e2')) fun t s₂ g₂ t₂ R2 ht=>?_));subst ht;have next:boolE C.P cl n sc fr op (y::r) O₁=some (v,O')->EvV C A (eval (.BoolOp op (y::r) pos) env) g₂ O' s₂ v:=fun q=>ih.bool sc fr op (y::r) env g₂ O₁ O' s₂ v pos S ((F.tr R t₁).tr R1 t₂) R2 q;cases op <;> cases t
   ·cases e;exact Ev.ret R2 (hu.tr' R1 t₂)
   ·exact next e
   ·exact next e
   ·cases e;exact Ev.ret R2 (hu.tr' R1 t₂)
theorem Ulw(ih:EvOk C A cl n){op:BoolOp}{es:List Expr}{b:Bool}(S:ES sc env)(F:FR g s.heap env fr)(R:Rel C g O s.heap)
  (e:testsE C.P cl (n+1) sc fr op es O=some (b,O')):Ev C A (allTrue op es env) g O' s fun w0 w0 c=>c=b:=by
 match es,e with
 | [],e =>
  cases e;exact Ev.of_eq (arm_allTrue_nil op env) (Ev.ret R rfl)
 | x::r,e =>
  refine bndE e fun c O₁ e1 e=>?_;have eq:allTrue op (x::r) env=(isTrue x env (eval x env) >>= fun t=>match op,t with
   | .And,false=>pure false
   | .Or,true=>pure true
   | _,_=>allTrue op r env):=rfl
  refine Ev.of_eq eq (Ev.bind (ih.test sc fr x env g O O₁ s c S F R e1) fun t s₁ g₁ t₁ R1 ht=>?_);subst ht;have next:testsE C.P cl n sc fr op r O₁=some (b,O')->Ev C A (allTrue op r env) g₁ O' s₁ (fun w0 w0 c=>c=b):=fun q=>ih.tests sc fr op r env g₁ O₁ O' s₁ b S (F.tr R t₁) R1 q;cases op <;> cases t
  ·cases e;exact Ev.ret R1 rfl
  ·exact next e
  ·exact next e
  ·cases e;exact Ev.ret R1 rfl
theorem Uqt(ih:EvOk C A cl n){e:Option Expr}{v:Option V}(S:ES sc env)(F:FR g s.heap env fr)(R:Rel C g O s.heap)
  (q:optE C.P cl (n+1) sc fr e O=some (v,O')):Ev C A (evalPart e env) g O' s fun g' h' u=>OVR g' h' v u:=by
 cases e with
 | none =>
  cases q;exact Ev.of_eq (evalPart_none env) (Ev.ret R rfl)
 | some e =>
  refine bndE q fun a O₁ e1 q=>?_;cases q;exact Ev.of_eq (evalPart_some e env) (ih.ev sc fr e env g O O' s a S F R e1)
theorem Uoc(Fa:Facts C)(Ro:Room A d)(ih:EvOk C A cl n){e:Expr}{b:Bool}(S:ES sc env)(F:FR g s.heap env fr)(R:Rel C g O s.heap)
  (q:testE C.P cl (n+1) sc fr e O=some (b,O')):Ev C A (isTrue e env (eval e env)) g O' s fun w0 w0 c=>c=b:=by
 rcases Uob e with ⟨x,p,rfl⟩ | ⟨op,es,p,rfl⟩ | ⟨l,ops,rs,p,z,rfl,hz⟩ | hb | ⟨hp,he⟩
 ·refine bndE q fun c O₁ e1 q=>?_;cases q;refine Ev.of_eq (arm_isTrue_UnaryOp x p env _) (Ev.bind (ih.test sc fr x env g O O' s c S F R e1) fun t s₁ g₁ t₁ R1 ht=>?_);subst ht;exact Ev.ret R1 rfl
 ·exact Ev.of_eq (arm_isTrue_BoolOp op es p env _) (ih.tests sc fr op es env g O O' s b S F R q)
 ·rcases Up5 hz with ⟨op,r,rfl,rfl,rfl⟩ | ⟨op1,op₂,r₁,r₂,rfl,rfl,rfl⟩
  ·refine bndE q fun a O₁ e1 q=>?_;refine bndE q fun c O₂ e2 q=>?_;refine bndE q fun t O₃ e3 q=>?_;refine xAA (Uav e3) fun e3' qz1=>?_;subst qz1;cases q;exact (cmp1 Fa Ro ih S F R e1 e2 e3').2
  ·refine bndE q fun a O₁ e1 q=>?_;refine bndE q fun c O₂ e2 q=>?_;refine bndE q fun t O₃ e3 q=>?_;refine xAA (Uav e3) fun e3' qz1=>?_;subst qz1;rcases Ubj q with ⟨ht,q⟩ | ⟨ht,q⟩
   ·rcases Ubj q with ⟨hn,q⟩ | ⟨_,q⟩
    ·refine bndE q fun v O₄ e4 q=>?_;refine xAA (Uav q) fun q' qz1=>?_;subst qz1;exact (cmp2 Fa Ro ih S F R hn e1 e2 e3' (by rw [if_pos ht];exact ⟨v,e4,q'⟩)).2
    ·exact (Uaa q).elim
   ·rcases Ubj q with ⟨hn,q⟩ | ⟨_,q⟩
    ·cases q;exact (cmp2 Fa Ro ih S F R hn e1 e2 e3' (by rw [if_neg ht];exact ⟨rfl,rfl⟩)).2
    ·exact (Uaa q).elim
 ·exact (Utd q hb).elim
 ·refine xEEAA (Ur9 (Uom q hp)) fun a O₁ e1 q=>?_;refine xAA (Udu q) fun e2' qz1=>?_;subst qz1;exact Ev.of_eq (he _ _) (Ev.bind (ih.ev sc fr e env g O _ s a S F R e1) fun u s₁ g₁ t₁ R1 hu=>Ev.at_ (Ev.hold (isT_ok R1 hu e2')))
end
end Mine
end
section
open PySem PySem.Calls PyProof.Rows PySem.W
namespace Mine
section
variable {C:Cx}{A:Around}{cl:CC}{g:Gh}{O O₁ O':Store}{s:Shared}{n d:Nat}{sc:Scope}{fr:Fr}{env:Env}
theorem Ul6(ih:EvOk C A cl n){o lo hi st:Option Expr}{e:Expr}{p pos:Pos}{v ov:V}{a b c:Option V}{O₁ O₂ O₃ O₄:Store}(S:ES sc env)(F:FR g s.heap env fr)(R:Rel C g O s.heap)
  (e1:evalE C.P cl n sc fr e O=some (ov,O₁)) (e2:optE C.P cl n sc fr lo O₁=some (a,O₂)) (e3:optE C.P cl n sc fr hi O₂=some (b,O₃))
  (hst:∀ (g₁:Gh) (s₁:Shared),Tr (fun w0=>False) g s g₁ s₁->Rel C g₁ O₃ s₁.heap->Ev C A (evalPart st env) g₁ O₄ s₁ fun g' h' u=>OVR g' h' c u)
  (fin:∀ (uo ul uh us:Value) (ad:Addr) (g₁:Gh) (s₁:Shared) (sl:Expr),Rel C g₁ O₄ s₁.heap->VR g₁ s₁.heap ov uo->OVR g₁ s₁.heap a ul->OVR g₁ s₁.heap b uh->OVR g₁ s₁.heap c us ->
   s₁.heap.get? ad=some { cls:=.type "slice",data:=.fields #[ul,uh,us] }->EvV C A (subscriptTail e sl uo (.ref ad)) g₁ O₄ s₁ v) :
  EvV C A (eval (.Subscript e (.Slice lo hi st p) pos) env) g O₄ s v:=by
 have ot:∀ {o:Option V} {u:Value} {g₁ g₂:Gh} {s₁ s₂:Shared} {O₁:Store},OVR g₁ s₁.heap o u->Rel C g₁ O₁ s₁.heap->Tr (fun w0=>False) g₁ s₁ g₂ s₂->OVR g₂ s₂.heap o u:=by
  intro o u g₁ g₂ s₁ s₂ O₁ h R t;cases o with
  | none=>exact h
  | some v=>exact VR.tr' h R t
 have eq:eval (.Subscript e (.Slice lo hi st p) pos) env=(eval e env >>= fun o=>holding [o] (eval (.Slice lo hi st p) env) >>= fun i=>standAt pos >>= fun w0=>subscriptTail e (.Slice lo hi st p) o i):=rfl;refine Ev.of_eq eq (Ev.bind (ih.ev sc fr e env g O O₁ s ov S F R e1) fun uo s₁ g₁ t₁ R1 huo=>?_);have sl:Ev C A (eval (.Slice lo hi st p) env) g₁ O₄ s₁ (fun g' h' i=>∃ ul uh us ad,i=.ref ad/\h'.get? ad=some { cls:=.type "slice",data:=.fields #[ul,uh,us] }/\VR g' h' ov uo/\OVR g' h' a ul/\OVR g' h' b uh/\OVR g' h' c us):=by
  have eq2:eval (.Slice lo hi st p) env=(evalPart lo env >>= fun l=>holding [l] (evalPart hi env) >>= fun u=>holding [l,u] (evalPart st env) >>= fun x=>newFields "slice" [l,u,x]):=by
   rw [arm_eval_Slice];cases lo <;> cases hi <;> cases st <;> rfl
  refine Ev.of_eq eq2 (Ev.bind (ih.opt sc fr lo env g₁ O₁ O₂ s₁ a S (F.tr R t₁) R1 e2) fun ul s₂ g₂ t₂ R2 hul=>?_);have F2:=(F.tr R t₁).tr R1 t₂;refine Ev.bind (Ev.hold (ih.opt sc fr hi env g₂ O₂ O₃ s₂ b S F2 R2 e3)) fun uh s₃ g₃ t₃ R3 huh=>?_;refine Ev.bind (Ev.hold (hst g₃ s₃ (t₁.trans (t₂.trans t₃)) R3)) fun us s4 g₄ t4 R4 hus=>?_;refine Ev.up R4 fun Q E q=>wpAny_newObj_type ?_;have k:∀ b o,s4.heap.get? b=some o->(s4.heap.push { cls:=.type "slice",data:=.fields [ul,uh,us].toArray }).get? b=some o:=fun b o e=>Heap.get?_push_of_some _ e;have tt:Tr (fun w0=>False) g₄ s4 g₄ { s4 with heap:=s4.heap.push { cls:=.type "slice",data:=.fields [ul,uh,us].toArray } }:=Tr.grown k rfl rfl;exact q _ _ k rfl rfl ⟨ul,uh,us,_,rfl,Heap.get?_push_size _ rfl,(((huo.tr' R1 t₂).tr' R2 t₃).tr' R3 t4).tr' R4 tt,ot (ot (ot hul R2 t₃) R3 t4) R4 tt,ot (ot huh R3 t4) R4 tt,ot hus R4 tt⟩
 refine Ev.bind (Ev.hold sl) fun i s₂ g₂ t₂ R2 hi=>?_;refine xEEEEAAAAAA hi fun ul uh us ad qz1 ha h1 h2 h3 h4=>?_;subst qz1;exact Ev.at_ (fin uo ul uh us ad g₂ s₂ _ R2 h1 h2 h3 h4 ha)
theorem Uni{x:Expr}{a:Str}(e:cstS x=some a):∃ k p,x=.Constant (.str a) k p:=by
 cases x with
 | Constant c k p=>cases c with
  | str b=>cases e;exact ⟨_,_,rfl⟩
  | _=>cases e
 | _=>cases e
theorem replE{ov:V}{args:List Expr}{r:V×Store}{P:Prop}(e:replV ov args O=some r)(k:∀ z k1 p1 k2 p2 a b,strO ov=some z->args=[.Constant (.str a) k1 p1,.Constant (.str b) k2 p2] ->
  (if b.length<=14/\(a==b)=false/\(Txt.replace z a b).cps.all (· < 0x110000)=true/\(Txt.replace z a b).length<=lim then ret (V.str (Txt.replace z a b)) else fail) O=some r->P):P :=
 obM e fun z hz e=>obM e fun w hw e=>obM e fun a ha e=>obM e fun b hb e=>xEEA (Uni ha) fun k1 p1 h1=>xEEA (Uni hb) fun k2 p2 h2=>k z k1 p1 k2 p2 a b hz (by rw [twoE hw,h1,h2]) e
theorem Us6{x:Str}{ov:V}{uo:Value}{args:List Expr}{pos:Pos}{v:V}(R:Rel C g O s.heap)(ho:VR g s.heap ov uo)(e:replV ov args O=some (v,O')) :
  EvV C A (callWith pos (.builtin "str.replace") [uo] (backTo pos (starEach args env)) []) g O' s v:=replE e fun z k1 p1 k2 p2 a b hz e2 e=>iteM e fun hc e=>by
 cases e;cases e2;refine str1 (T:=fun uo=>EvV C A (callWith pos (.builtin "str.replace") [uo] _ []) g O s (.str (Txt.replace z a b))) hz ho fun t w0 l1=>?_;intro p Q E q;have hlim:lim<=1048576:=by decide
 refine callWith_of (P:=fun w0=>True) rfl (fun w0 w0=>⟨.machine,.inr (.inl rfl),.now⟩) (evalArgs_plain (spliced_cons (Constant_str (k:=k1) (pos:=p1) (spliced_cons (Constant_str (k:=k2) (pos:=p2) (spliced_nil ⟨trivial,?_⟩))))));exact SC.replaceW (by show s.toks≠0;exact Nat.ne_zero_of_lt p) (Nat.succ_ne_zero _) (Nat.ne_of_lt (Nat.lt_succ_self _)) hc.2.1 (Nat.le_trans l1 hlim) hc.1 fun t' k=>q _ _ g (Tr.tok k) R (VR.mkStr hc.2.2.1 hc.2.2.2)
theorem kwNil(pos:Pos):backToKw pos (keywordEach [] env)=[]:=rfl
theorem Ugu{ov:V}{args:List Expr}{r:V×Store}{pos:Pos}(e:replV ov args O=some r):(backTo pos (starEach args env)).all (!·.1)=true:=replE e fun w0 w0 w0 w0 w0 w0 w0 w0 q w0=>by cases q;rfl
theorem Un5{o:Expr}{x:Str}{ap pos:Pos}{args:List Expr}(hc:callOk o args ap pos=true)(hall:(backTo pos (starEach args env)).all (!·.1)=true) :
  eval (.Call (.Attribute o x ap) args [] pos) env=(eval o env >>= fun ov=>standAt ap.atName >>= fun w0=>holding [ov] (getMethod ov x (do return (<- importBound o env).getD true)) >>= fun p=>callWith pos p.1 p.2 (backTo pos (starEach args env)) []):=by
 have hc:=Bool.and_eq_true_iff.mp hc;have hd:=Bool.and_eq_true_iff.mp hc.1;have few:methodCallForm (args.length+([]:List Keyword).length) (backTo pos (starEach args env)) (backToKw pos (keywordEach [] env))=true:=by
  have hlen:=of_decide_eq_true hd.2;delta methodCallForm;rw [kwNil,hall];simp only [List.all_nil,Bool.and_self,List.isEmpty_nil,if_true,Bool.true_and,decide_eq_true_eq,List.length_nil]
  omega
 rw [arm_eval_Call,Udr hd.1];delta methodCall;rw [few];delta calleeOf methodCallPos;simp only [if_true,Bool.not_true,Bool.false_or,hc.2,pure_bind,kwNil]
theorem Us0(Fa:Facts C)(cf:CF C)(Ro:Room A d)(co:CallOk C A cl)(ih:EvOk C A cl n){o:Expr}{x:Str}{ap pos:Pos}{args:List Expr}{v:V}(S:ES sc env)(F:FR g s.heap env fr)(R:Rel C g O s.heap)
  (e:evalE C.P cl (n+1) sc fr (.Call (.Attribute o x ap) args [] pos) O=some (v,O')):EvV C A (eval (.Call (.Attribute o x ap) args [] pos) env) g O' s v:=iteM e fun hc e=>bndE e fun ov O₁ e1 e=>bndL e fun k e2 e=>by
 have main:∀ (hall:(backTo pos (starEach args env)).all (!·.1)=true),(∀ (uo:Value) (s₁:Shared) (g₁:Gh),Tr (fun w0=>False) g s g₁ s₁->Rel C g₁ O₁ s₁.heap->VR g₁ s₁.heap ov uo ->
   EvV C A (callWith pos (mkVal k) [uo] (backTo pos (starEach args env)) []) g₁ O' s₁ v)->EvV C A (eval (.Call (.Attribute o x ap) args [] pos) env) g O' s v:=fun hall h=>by
  refine Ev.of_eq (Un5 hc hall) (Ev.bind (ih.ev sc fr o env g O O₁ s ov S F R e1) fun uo s₁ g₁ t₁ R1 huo=>?_);refine Ev.at_ (Ev.bind (Ev.hold (Uqm Fa cf R1 huo e2)) fun p s₂ g₂ t₂ R2 hp=>?_);subst hp;exact h uo s₂ g₂ (t₁.trans t₂) R2 (huo.tr' R1 t₂)
 rcases Ubj e with ⟨hr,e⟩ | ⟨_,e⟩
 ·cases k with
  | fn f=>cases hr
  | bi id=>cases id <;> first | exact main (Ugu e) fun uo s₁ g₁ t₁ R1 huo=>Us6 (x:=x) R1 huo e | cases hr
 ·refine bndE e fun as O₃ e3 e=>main (Ul8 e3) fun uo s₁ g₁ t₁ R1 huo=>?_;refine Ev.callWith Fa (Uax e3) ?_ (ih.evs sc fr args env g₁ _ O₃ s₁ as pos S (F.tr R t₁) R1 e3) fun us s₂ g₂ t₂ R2 hus=>?_
  ·cases k with
   | bi id=>exact KeepsF.builtin id.id
   | fn f=>exact keeps_K (co.keep f _ _ _ e)
  ·have huo':=huo.tr' R1 t₂;cases k with
   | bi id=>exact Uqf Fa Ro R2 huo' hus e
   | fn f=>exact co.fn f (ov::as) (uo::us) g₂ _ O' s₂ v R2 ⟨uo,us,rfl,huo',hus⟩ e
theorem Us3(Fa:Facts C)(cf:CF C)(Ro:Room A d)(co:CallOk C A cl)(ih:EvOk C A cl n){f:Str}{q pos:Pos}{args:List Expr}{v:V}(S:ES sc env)(F:FR g s.heap env fr)(R:Rel C g O s.heap)
  (e:evalE C.P cl (n+1) sc fr (.Call (.Name f q) args [] pos) O=some (v,O')):EvV C A (eval (.Call (.Name f q) args [] pos) env) g O' s v:=iteM e fun w0 e=>bndE e fun fv O₁ e1 e=>bndE e fun as O₂ e2 e=>by
 have eq:eval (.Call (.Name f q) args [] pos) env=(eval (.Name f q) env >>= fun fv=>callWith pos fv [] (backTo pos (starEach args env)) []):=rfl;refine Ev.of_eq eq (Ev.bind (ih.ev sc fr _ env g O O₁ s fv S F R e1) fun uf s₁ g₁ t₁ R1 huf=>?_);have hev:=ih.evs sc fr args env g₁ O₁ O₂ s₁ as pos S (F.tr R t₁) R1 e2;cases fv with
 | bi nm=>cases (show uf=biVal nm from huf);exact Ev.callWith Fa (Uax e2) (KeepsF.bi nm) hev fun us s₂ g₂ t₂ R2 hus=>Uk8 Fa Ro R2 hus e
 | fn a =>
  cases (show uf=.ref a from huf);cases hk:lkN a C.P.clss with
  | some k=>exact Ev.callWith Fa (Uax e2) (keeps_K (cf a k hk).keep) hev fun us s₂ g₂ t₂ R2 hus=>co.cls a k as us g₂ O₂ O' s₂ v hk R2 hus e
  | none =>
   have e':cl a as O₂=some (v,O'):=by
    simp only [applyV,hk] at e;exact e
   exact Ev.callWith Fa (Uax e2) (keeps_K (co.keep a _ _ _ e')) hev fun us s₂ g₂ t₂ R2 hus=>co.fn a as us g₂ O₂ O' s₂ v R2 hus e'
 | _=>exact (Uaa e).elim
end
noncomputable def CompH(C:Cx)(A:Around)(cl:CC)(n:Nat):Prop :=
 ∀ (sc:Scope) (fr:Fr) (elt:Expr) (gens:List Comprehension) (scope:Scope) (pos:Pos) (env:Env) (g:Gh) (O O':Store) (s:Shared) (v:V),ES sc env->FR g s.heap env fr->Rel C g O s.heap ->
  evalE C.P cl (n+1) sc fr (.ListComp elt gens scope pos) O=some (v,O')->EvV C A (eval (.ListComp elt gens scope pos) env) g O' s v
section
variable {C:Cx}{A:Around}{cl:CC}{g:Gh}{O O₁ O':Store}{s:Shared}{n d:Nat}{sc:Scope}{fr:Fr}{env:Env}
theorem Utr(Fa:Facts C)(cf:CF C)(Ro:Room A d)(co:CallOk C A cl)(ih:EvOk C A cl n)(ch:CompH C A cl n){e:Expr}{v:V}(S:ES sc env)(F:FR g s.heap env fr)(R:Rel C g O s.heap)
  (q:evalE C.P cl (n+1) sc fr e O=some (v,O')):EvV C A (eval e env) g O' s v:=by
 cases e with
 | Constant c k p=>exact Uos q R
 | Name x p=>exact Uqk Fa F R S.gl q
 | BoolOp op es p=>exact ih.bool sc fr op es env g O O' s v p S F R q
 | BinOp l op r p =>
  refine bndE q fun a O₁ e1 q=>?_;refine bndE q fun b O₂ e2 q=>?_;refine xAA (Uav q) fun q' qz1=>?_;subst qz1;refine Ev.of_eq (arm_eval_BinOp l op r p env) (Ev.bind (ih.ev sc fr l env g O O₁ s a S F R e1) fun ua s₁ g₁ t₁ R1 hua=>?_);refine Ev.bind (Ev.hold (ih.ev sc fr r env g₁ O₁ O₂ s₁ b S (F.tr R t₁) R1 e2)) fun ub s₂ g₂ t₂ R2 hub=>?_;exact Ev.at_ (Ev.oper (Ute R2 (hua.tr' R1 t₂) hub q'))
 | UnaryOp op x p =>
  cases op with
  | Not =>
   refine bndE q fun a O₁ e1 q=>?_;refine bndE q fun b O₂ e2 q=>?_;refine xAA (Udu e2) fun e2' qz1=>?_;subst qz1;cases q;refine Ev.of_eq (arm_eval_UnaryOp .Not x p env) (Ev.bind (ih.ev sc fr x env g O _ s a S F R e1) fun ua s₁ g₁ t₁ R1 hua=>Ev.at_ (Ev.hold ?_));intro p' Q E q;exact not_of (isT_ok R1 hua e2' p' _ E fun c s' g' t R' hc=>q _ s' g' t R' (by rw [hc];exact VR.mkBool))
  | USub =>
   refine bndE q fun a O₁ e1 q=>?_;refine xAA (Udu q) fun q' qz1=>?_;subst qz1;exact Ev.of_eq (arm_eval_UnaryOp .USub x p env) (Ev.bind (ih.ev sc fr x env g O _ s a S F R e1) fun ua s₁ g₁ t₁ R1 hua=>Ev.at_ (Ev.hold (Usy R1 hua q')))
  | _=>exact (Uaa q).elim
 | IfExp t a b p =>
  refine bndE q fun c O₁ e1 q=>?_;refine Ev.of_eq (arm_eval_IfExp t a b p env) (Ev.bind (ih.test sc fr t env g O O₁ s c S F R e1) fun u s₁ g₁ t₁ R1 hu=>?_);subst hu;cases u with
  | true=>exact ih.ev sc fr a env g₁ O₁ O' s₁ v S (F.tr R t₁) R1 q
  | false=>exact ih.ev sc fr b env g₁ O₁ O' s₁ v S (F.tr R t₁) R1 q
 | Dict ks es p =>
  rcases Ubj q with ⟨hk,q⟩ | ⟨_,q⟩
  ·refine bndE q fun l O₁ e1 q=>?_;exact Usk ih S F R hk e1 q
  ·exact (Uaa q).elim
 | List es p =>
  refine bndE q fun vs O₁ e1 q=>?_;exact Ev.of_eq (arm_eval_List es p env) (Ev.at_ (Ev.bind (ih.evs sc fr es env g O O₁ s vs p S F R e1) fun us s₁ g₁ t₁ R1 hus=>Un2 R1 hus q))
 | Tuple es k p =>
  refine bndE q fun vs O₁ e1 q=>?_;rcases Ubj q with ⟨hl,q⟩ | ⟨_,q⟩
  ·cases q;refine Ev.of_eq (arm_eval_Tuple es k p env) (Ev.at_ (Ev.bind (ih.evs sc fr es env g O _ s vs p S F R e1) fun us s₁ g₁ t₁ R1 hus=>?_));have hlen:=hus.len;exact Ev.up R1 fun Q E q=>wpAny_newTuple (q _ _ (fun b o e=>Heap.get?_push_of_some _ e) rfl rfl (VR.newTup (us:=us.toArray) (k:=0) R1 (by simpa using hus) hl)) (Uap (om15 hl hlen))
  ·exact (Uaa q).elim
 | ListComp elt gens scope p=>exact ch sc fr elt gens scope p env g O O' s v S F R q
 | Compare l ops rs p =>
  refine bndE q fun z O₀ e0 q=>?_;refine xAA (Udu e0) fun hz qz1=>?_;subst qz1;rcases Up5 hz with ⟨op,r,rfl,rfl,rfl⟩ | ⟨op1,op₂,r₁,r₂,rfl,rfl,rfl⟩
  ·refine bndE q fun a O₁ e1 q=>?_;refine bndE q fun c O₂ e2 q=>?_;refine bndE q fun t O₃ e3 q=>?_;refine xAA (Uav e3) fun e3' qz1=>?_;subst qz1;cases q;exact Ev.unbool (cmp1 Fa Ro ih S F R e1 e2 e3').1
  ·refine bndE q fun a O₁ e1 q=>?_;refine bndE q fun c O₂ e2 q=>?_;refine bndE q fun t O₃ e3 q=>?_;refine xAA (Uav e3) fun e3' qz1=>?_;subst qz1;rcases Ubj q with ⟨ht,q⟩ | ⟨ht,q⟩
   ·rcases Ubj q with ⟨hn,q⟩ | ⟨_,q⟩
    ·refine bndE q fun w O₄ e4 q=>?_;refine bndE q fun b O₅ e5 q=>?_;refine xAA (Uav e5) fun e5' qz1=>?_;subst qz1;cases q;exact Ev.unbool (cmp2 Fa Ro ih S F R hn e1 e2 e3' (by rw [if_pos ht];exact ⟨w,e4,e5'⟩)).1
    ·exact (Uaa q).elim
   ·rcases Ubj q with ⟨hn,q⟩ | ⟨_,q⟩
    ·cases q;exact Ev.unbool (cmp2 Fa Ro ih S F R hn e1 e2 e3' (by rw [if_neg ht];exact ⟨rfl,rfl⟩)).1
    ·exact (Uaa q).elim
 | Call f args kws p =>
  rcases Uoi f kws with ⟨o,x,ap,rfl,rfl⟩ | ⟨h,q',rfl,rfl⟩ | hb
  ·exact Us0 Fa cf Ro co ih S F R q
  ·exact Us3 Fa cf Ro co ih S F R q
  ·exact (Usu hb q).elim
 | Attribute o x p =>
  rcases Ubj q with ⟨hb,q⟩ | ⟨_,q⟩
  ·refine bndE q fun ov O₁ e1 q=>?_;have eq:eval (.Attribute o x p) env=(eval o env >>= fun o'=>standAt p.atName >>= fun w0=>holding [o'] (getAttr o' x true) >>= fun r=>letTemporaryGo o o' r >>= fun w0=>pure r):=by
    rw [arm_eval_Attribute,Udr hb]
   refine Ev.of_eq eq (Ev.bind (ih.ev sc fr o env g O O₁ s ov S F R e1) fun uo s₁ g₁ t₁ R1 huo=>?_);exact Ev.at_ (Ev.bind (Ev.hold (Ulr Fa cf R1 huo q)) fun u s₂ g₂ t₂ R2 hu=>Ev.letGo (Ev.ret R2 hu))
  ·exact (Uaa q).elim
 | Subscript o i p =>
  rcases Un3 i with ⟨lo,hi,st,p',rfl⟩ | hs
  ·refine bndE q fun ov O₁ e1 q=>?_;refine bndE q fun a O₂ e2 q=>?_;refine bndE q fun b O₃ e3 q=>?_;cases st with
   | none =>
    refine xAA (Uav q) fun q' qz1=>?_;subst qz1;refine Ul6 (o:=none) ih (c:=none) S F R e1 e2 e3 (fun g₁ s₁ t₁ R1=>Ev.of_eq (evalPart_none env) (Ev.ret R1 rfl)) ?_;intro uo ul uh us ad g₁ s₁ sl R1 h1 h2 h3 h4 ha;have h4':us=.none:=h4;subst h4';exact Unx R1 h1 h2 h3 ha q'
   | some st =>
    refine bndE q fun w O₄ e4 q=>?_;refine xAA (Uav q) fun q' qz1=>?_;subst qz1;refine Ul6 (o:=none) ih (c:=some w) S F R e1 e2 e3 (fun g₁ s₁ t₁ R1=>Ev.of_eq (evalPart_some st env) (ih.ev sc fr st env g₁ O₃ _ s₁ w S (F.tr R t₁) R1 e4)) ?_;intro uo ul uh us ad g₁ s₁ sl R1 h1 h2 h3 h4 ha;exact Uqx R1 h1 h2 h3 h4 ha q'
  ·have q:=Utz hs q;refine bndE q fun ov O₁ e1 q=>?_;refine bndE q fun iv O₂ e2 q=>?_;refine xAA (Uav q) fun q' qz1=>?_;subst qz1;have eq:eval (.Subscript o i p) env=(eval o env >>= fun o'=>holding [o'] (eval i env) >>= fun i'=>standAt p >>= fun w0=>subscriptTail o i o' i'):=rfl;refine Ev.of_eq eq (Ev.bind (ih.ev sc fr o env g O O₁ s ov S F R e1) fun uo s₁ g₁ t₁ R1 huo=>?_);refine Ev.bind (Ev.hold (ih.ev sc fr i env g₁ O₁ O₂ s₁ iv S (F.tr R t₁) R1 e2)) fun ui s₂ g₂ t₂ R2 hui=>?_;exact Ev.at_ (Uq6 R2 (huo.tr' R1 t₂) hui q')
 | _=>exact (Uaa q).elim
theorem Us2:EvOk C A cl 0 :=
 ⟨fun sc fr e env g O O' s v S F R q=>(Uaa q).elim,fun sc fr e env g O O' s v p S F R q=>(Uaa q).elim,
  fun sc fr op e env g O O' s v p S F R q=>(Uaa q).elim,fun sc fr e env g O O' s v S F R q=>(Uaa q).elim,
  fun sc fr e env g O O' s v S F R q=>(Uaa q).elim,fun sc fr op e env g O O' s v S F R q=>(Uaa q).elim,
  fun sc fr ks e env g O O' s v p S F R q=>(Uaa q).elim⟩
theorem Utm(Fa:Facts C)(cf:CF C)(Ro:Room A d)(co:CallOk C A cl)(ih:EvOk C A cl n)(ch:CompH C A cl n):EvOk C A cl (n+1) :=
 ⟨fun w0 w0 w0 w0 w0 w0 w0 w0 w0 S F R q=>Utr Fa cf Ro co ih ch S F R q,fun w0 w0 w0 w0 w0 w0 w0 w0 w0 w0 S F R q=>Ury ih _ _ _ S F R q,fun w0 w0 w0 w0 w0 w0 w0 w0 w0 w0 w0 S F R q=>Uok ih S F R q,
  fun w0 w0 w0 w0 w0 w0 w0 w0 w0 S F R q=>Uqt ih S F R q,fun w0 w0 w0 w0 w0 w0 w0 w0 w0 S F R q=>Uoc Fa Ro ih S F R q,fun w0 w0 w0 w0 w0 w0 w0 w0 w0 w0 S F R q=>Ulw ih S F R q,
  fun w0 w0 w0 w0 w0 w0 w0 w0 w0 w0 w0 S F R q=>Um6 ih _ _ _ _ S F R q⟩
end
noncomputable def Ex(C:Cx)(A:Around)(W:Addr->Prop){α:Type}(t:Sem α)(g:Gh)(O:Store)(s:Shared)(T:Gh->Heap->α->Prop):Prop :=
 0 < s.toks->∀ (Q:α->Shared->Prop) (E:Value->Shared->Prop),(∀ a s' g',Tr W g s g' s'->Rel C g' O s'.heap->T g' s'.heap a->Q a s')->wpAny (model C.prog C.w) A t Q E s
noncomputable def ItK(o:V)(uo:Value)(k:Nat)(ob:Obj):Prop:=match o with
 | .str x=>∃ t,uo=.str x t/\ob.cls=.type (strIterType x)/\ob.data=.fields #[.str x t,.int k 0]
 | .rng a b c=>ob={ cls:=.type "range_iterator",dict:=none,data:=.fields #[rawInt (a+k*c),rawInt (Builtin.Range.rangeSize a b c - k),rawInt c],slots:=#[] }
 | _=>∃ l,uo=.ref l/\ob.cls=.type "list_iterator"/\ob.data=.fields #[.ref l,.int k 0]
noncomputable def ItAt(h:Heap)(I:Addr)(o:V)(uo:Value)(k:Nat):Prop:=∃ ob,h.get? I=some ob/\ItK o uo k ob
theorem itL{o:V}{uo:Value}{k:Nat}{ob:Obj}(h1:strO o=none)(h2:rngO o=none):ItK o uo k ob=∃ l,uo=.ref l/\ob.cls=.type "list_iterator"/\ob.data=.fields #[.ref l,.int k 0]:=by
 cases o <;> first | rfl | exact (Uaa h1.symm).elim | exact (Uaa h2.symm).elim
theorem Ujz{v:V}{r:Int×Int×Int}(e:rngO v=some r):v=.rng r.1 r.2.1 r.2.2:=by cases v <;> first | exact (Uaa e).elim | exact congrArg (fun r:Int×Int×Int=>V.rng r.1 r.2.1 r.2.2) (Uac e)
section
variable {C:Cx}{A:Around}{W:Addr->Prop}{g:Gh}{O O₁ O':Store}{s:Shared}{n d:Nat}{h h':Heap}
theorem Ex.of{α:Type}{t:Sem α}{T:Gh->Heap->α->Prop}(h:Ev C A t g O s T):Ex C A W t g O s T:=fun p Q E q=>h p Q E fun a s' g' t R x=>q a s' g' t.none R x
theorem Ex.bind{α β:Type}{t:Sem α}{k:α->Sem β}{T:Gh->Heap->α->Prop}{T':Gh->Heap->β->Prop}(h:Ex C A W t g O₁ s T)
  (hk:∀ a s₁ g₁,Tr W g s g₁ s₁->Rel C g₁ O₁ s₁.heap->T g₁ s₁.heap a->Ex C A W (k a) g₁ O' s₁ T'):Ex C A W (t >>= k) g O' s T' :=
 fun p Q E q=>wpAny_bind (wpAny_mono (wpAny_toks_of p (h p (fun a s₁=>0 < s₁.toks->wpAny (model C.prog C.w) A (k a) Q E s₁) E fun a s₁ g₁ x R t' p'=>hk a s₁ g₁ x R t' p' Q E fun b s₂ g₂ x₂ R2 t₂=>q b s₂ g₂ (x.trans x₂) R2 t₂))
  (fun w0 w0 x=>x.2 x.1) fun w0 w0 x=>x.2)
theorem Ex.bindE{α β:Type}{t:Sem α}{k:α->Sem β}{T:Gh->Heap->α->Prop}{T':Gh->Heap->β->Prop}(h:Ev C A t g O₁ s T)
  (hk:∀ a s₁ g₁,Tr (fun w0=>False) g s g₁ s₁->Rel C g₁ O₁ s₁.heap->T g₁ s₁.heap a->Ex C A W (k a) g₁ O' s₁ T'):Ex C A W (t >>= k) g O' s T' :=
 fun p Q E q=>wpAny_bind (wpAny_mono (wpAny_toks_of p (h p (fun a s₁=>0 < s₁.toks->wpAny (model C.prog C.w) A (k a) Q E s₁) E fun a s₁ g₁ x R t' p'=>hk a s₁ g₁ x R t' p' Q E fun b s₂ g₂ x₂ R2 t₂=>q b s₂ g₂ (x.none.trans x₂) R2 t₂))
  (fun w0 w0 x=>x.2 x.1) fun w0 w0 x=>x.2)
theorem Ex.of_eq{α:Type}{t t':Sem α}{T:Gh->Heap->α->Prop}(e:t=t')(h:Ex C A W t' g O s T):Ex C A W t g O s T:=e▸h
theorem Ex.hold{α:Type}{vs:List Value}{t:Sem α}{T:Gh->Heap->α->Prop}(h:Ex C A W t g O s T):Ex C A W (holding vs t) g O s T:=fun p Q E q=>wpAny_holding (h p Q E q)
theorem Ex.at_{α:Type}{p:Pos}{k:Sem α}{T:Gh->Heap->α->Prop}(h:Ex C A W k g O s T):Ex C A W (standAt p >>= fun w0=>k) g O s T:=fun p' Q E q=>wpAny_bind (wpAny_standAt (h p' Q E q))
theorem Ex.rel{α:Type}{vs keep:List Value}{k:Sem α}{T:Gh->Heap->α->Prop}(h:Ex C A W k g O s T):Ex C A W (release vs keep >>= fun w0=>k) g O s T:=fun p Q E q=>wpAny_bind (wpAny_release' (h p Q E q))
theorem Ex.ret{α:Type}{a:α}{T:Gh->Heap->α->Prop}(R:Rel C g O s.heap)(h:T g s.heap a):Ex C A W (pure a) g O s T:=Ex.of (Ev.ret R h)
theorem Ex.mono{α:Type}{t:Sem α}{T T':Gh->Heap->α->Prop}(h:Ex C A W t g O s T)(k:∀ g' h' a,T g' h' a->T' g' h' a):Ex C A W t g O s T':=fun p Q E q=>h p Q E fun a s' g' x R t'=>q a s' g' x R (k _ _ _ t')
theorem Ume{a b c:Int}{k:Nat}(hc:0 < c):(a+(k:Int)*c < b) ↔ 0 < Builtin.Range.rangeSize a b c - (k:Int):=by
 delta Builtin.Range.rangeSize;rw [if_pos hc];have hk:0<=(k:Int)*c:=Int.mul_nonneg (Int.natCast_nonneg _) (Int.le_of_lt hc)
 by_cases hab:a < b
 ·rw [if_pos hab];have:=@Int.le_ediv_iff_mul_le (k:Int) (b - a - 1) c hc
  omega
 ·rw [if_neg hab]
  omega
theorem fits{x:Int}(h:x.natAbs<=4000000):Builtin.Range.rangeFitsLong x=true:=by
 delta Builtin.Range.rangeFitsLong;simp only [Bool.and_eq_true,decide_eq_true_eq]
 omega
theorem Un0{a b c:Int}(bd:a.natAbs<=lim/\b.natAbs<=lim/\0 < c/\c<=lim):Builtin.Range.small a b c=true:=xAAAA bd fun h1 h2 h3 h4=>by
 have hz:0<=Builtin.Range.rangeSize a b c/\Builtin.Range.rangeSize a b c<=2000001:=by
  delta Builtin.Range.rangeSize;rw [if_pos h3]
  by_cases hab:a < b
  ·rw [if_pos hab];have h5:0<=(b - a - 1) / c:=Int.ediv_nonneg (om37 hab) (Int.le_of_lt h3);have h6:(b - a - 1) / c<=b - a - 1:=Int.ediv_le_self _ (om37 hab);have hl:lim=1000000:=rfl
   omega
  ·rw [if_neg hab];exact ⟨Int.le_refl _,by decide⟩
 have hl:lim=1000000:=rfl;exact Bool.and_eq_true_iff.mpr ⟨Bool.and_eq_true_iff.mpr ⟨Bool.and_eq_true_iff.mpr ⟨Bool.and_eq_true_iff.mpr ⟨fits (Nat.le_trans h1 (by decide)),fits (Nat.le_trans h2 (by decide))⟩,fits (om315 bd hl)⟩,fits (om326 hz)⟩,
  Bool.or_eq_true_iff.mpr (.inr ((if_pos h3).trans (fits (by omega))))⟩
theorem Upb{o:V}{uo:Value}(R:Rel C g O s.heap)(ho:VR g s.heap o uo)(hi:(∃ k r,drawV o k O=some r))(Q E:Value->Shared->Prop)
  (q:∀ ob,ItAt (s.heap.push ob) s.heap.objs.size o uo 0->ob.isFreed=false->Q (.ref s.heap.objs.size) { s with heap:=s.heap.push ob }):wpAny (model C.prog C.w) A (pyIter uo) Q E s:=xEEA hi fun k r hi=>obE hi
 (fun x q1 w0=>str1 (T:=fun u=>(∀ ob,ItAt (s.heap.push ob) s.heap.objs.size o u 0->ob.isFreed=false->Q (.ref s.heap.objs.size) { s with heap:=s.heap.push ob })->wpAny (model C.prog C.w) A (pyIter u) Q E s) q1 ho (fun t w0 w0 q=>by
  cases Ubo q1;exact wpAny_pyIter_strU (q _ ⟨_,Heap.get?_push_size _ rfl,t,rfl,rfl,rfl⟩ rfl)) q)
 fun h1 e=>obE e (fun z q1 w0=>by
   cases Ujz q1;refine xEEEEAAAA ho fun r t1 t2 t3 e2 hr w0 bd=>?_;cases e2;refine wpAny_pyIter_range hr (Un0 bd) (q _ ⟨_,Heap.get?_push_size _ rfl,?_⟩ rfl);have e1:z.1+((0:Nat):Int)*z.2.2=z.1:=by rw [Int.natCast_zero,Int.zero_mul,Int.add_zero]
   have e2:Builtin.Range.rangeSize z.1 z.2.1 z.2.2 - ((0:Nat):Int)=Builtin.Range.rangeSize z.1 z.2.1 z.2.2:=Int.sub_zero _;show _=_;rw [e1,e2])
  fun h2 e=>obS e fun vs hv w0=>xEEEAAAA (Uas hv R ho) fun a its m e2 hg w0 w0=>by
   cases e2;exact wpAny_pyIter_list (VR.isList hg) (q _ ⟨_,Heap.get?_push_size _ rfl,by rw [itL h1 h2];exact ⟨a,rfl,rfl,rfl⟩⟩ rfl)
theorem ItAt.keep{I:Addr}{o:V}{uo:Value}{k:Nat}(i:ItAt h I o uo k)(hk:∀ ob,h.get? I=some ob->h'.get? I=some ob):ItAt h' I o uo k:=xEAA i fun ob q r=>⟨ob,hk _ q,r⟩
theorem ItAt.live{I:Addr}{o:V}{uo:Value}{k:Nat}(i:ItAt h I o uo k):h.get? I≠none:=xEAA i fun w0 q w0=>Uak q
theorem Urj{I:Addr}{x:Str}{t:Tok}{k:Nat}{T:String}(hT:T="str_ascii_iterator"\/T="str_iterator")(hh:A.handled=none)(it:s.heap.IsStrIter I T x t k)(Q:Option Value->Shared->Prop)(E:Value->Shared->Prop)
  (q1:∀ c h',x.cps[k]?=some c->h'.IsStrIter I T x t (k+1)->Heap.SameBut I s.heap h'->Q (some (.str ⟨#[c]⟩ s.toks)) { s with heap:=h',toks:=s.toks+1 })
  (q2:∀ h',x.cps[k]?=none->Heap.ExtBut I s.heap h'->Q none { s with heap:=h' }):wpAny (model C.prog C.w) A (pyNext (.ref I)) Q E s:=by
 cases hx:x.cps[k]? with
 | none =>
  rcases hT with e | e <;> cases e
  ·exact wpAny_pyNext_ascii_end hh it hx fun h' hb=>q2 h' hx hb
  ·exact wpAny_pyNext_wide_end hh it hx fun h' hb=>q2 h' hx hb
 | some c =>
  rcases hT with e | e <;> cases e
  ·exact wpAny_pyNext_ascii_item it hx fun h' it' sb=>q1 c h' hx it' sb
  ·exact wpAny_pyNext_wide_item it hx fun h' it' sb=>q1 c h' hx it' sb
theorem iterType(x:Str):strIterType x="str_ascii_iterator"\/strIterType x="str_iterator":=by
 delta strIterType
 by_cases h:x.cps.all (· < 128)=true
 ·rw [if_pos h];exact .inl rfl
 ·rw [if_neg h];exact .inr rfl
theorem Upe{I:Addr}{o:V}{uo:Value}{k:Nat}{r:Option V}(hh:A.handled=none)(R:Rel C g O s.heap)(ho:VR g s.heap o uo)(i:ItAt s.heap I o uo k)(e:drawV o k O=some r)
  (Q:Option Value->Shared->Prop) (E:Value->Shared->Prop)
  (q1:∀ v u h' tk,r=some v->VR g s.heap v u->ItAt h' I o uo (k+1)->Heap.SameBut I s.heap h'->Q (some u) { s with heap:=h',toks:=tk })
  (q2:∀ h',r=none->Heap.ExtBut I s.heap h'->Q none { s with heap:=h' }):wpAny (model C.prog C.w) A (pyNext (.ref I)) Q E s:=obE e
 (fun x qx w=>by
  cases Ubo qx;refine xEAA i fun ob hob it=>xEAAA it fun t e1 i1 i2=>?_;cases e1;refine Urj (x:=x) (t:=t) (iterType x) hh ⟨ob,hob,i1,i2⟩ Q E (fun c h' hx it' sb=>?_) fun h' hx hb=>?_
  ·have hk:k < x.cps.size:=(Array.getElem?_eq_some_iff.mp hx).1;rw [if_pos hk] at w;have hc:x.cps.getD k 0=c:=by simp [Array.getD,hk];exact (Array.getElem?_eq_some_iff.mp hx).2
   exact q1 _ _ h' _ ((Uac w).symm.trans (by rw [hc])) (xEAAA ho fun w0 w0 ok w0=>VR.mkStr (Ulj ok hx) Ukg) (xEAAA it' fun ob2 a b c=>⟨ob2,a,t,rfl,b,c⟩) sb
  ·rw [if_neg (Nat.not_lt.mpr (Array.getElem?_eq_none_iff.mp hx))] at w;exact q2 h' (Uac w).symm hb)
 fun h1 e=>obE e (fun z qx e=>iteS e fun hc w=>by
   cases Ujz qx;refine xEEEEAAAA ho fun r' t1 t2 t3 w0 hr w0 bd=>xEAA i fun ob hob it=>?_;cases it;have hl:=Ume (a:=z.1) (b:=z.2.1) (k:=k) hc
   by_cases hk:z.1+(k:Int)*z.2.2 < z.2.1
   ·rw [if_pos hk] at w;refine wpAny_pyNext_range_item hob (hl.mp hk) fun h' it' sb=>q1 _ _ h' _ (Uac w).symm VR.mkInt ⟨_,it',?_⟩ sb;have e1:z.1+((k+1:Nat):Int)*z.2.2=z.1+(k:Int)*z.2.2+z.2.2:=by rw [Int.natCast_succ,Int.add_mul,Int.one_mul,Int.add_assoc]
    have e2:Builtin.Range.rangeSize z.1 z.2.1 z.2.2 - ((k+1:Nat):Int)=Builtin.Range.rangeSize z.1 z.2.1 z.2.2 - (k:Int) - 1:=by rw [Int.natCast_succ,Int.sub_sub]
    show _=_;rw [e1,e2]
   ·rw [if_neg hk] at w;exact wpAny_pyNext_range_end hh hob (Int.not_lt.mp fun x=>hk (hl.mpr x)) fun h' hb=>q2 h' (Uac w).symm hb)
  fun h2 e=>obS e fun vs hv e=>xEEEAAAA (Uas hv R ho) fun a its m e2 hg hrs w0=>xEAA i fun ob hob it=>by
   cases e2;rw [itL h1 h2] at it;refine xEAAA it fun l e3 i1 i2=>?_;cases e3;have hr:=(Uac e).symm;cases hz:vs[k]? with
   | none =>
    refine wpAny_pyNext_list_end hh ⟨ob,hob,i1,i2⟩ (VR.isList hg) ?_ fun h' hb=>q2 h' (hr.trans hz) hb;exact Array.getElem?_eq_none_iff.mpr (Nat.le_trans (Nat.le_of_eq hrs.size) (List.getElem?_eq_none_iff.mp hz))
   | some v =>
    refine xEAA (hrs.get hz) fun u hu hvu=>?_;rw [Array.getElem?_toList] at hu;exact wpAny_pyNext_list_item ⟨ob,hob,i1,i2⟩ (VR.isList hg) hu fun h' it' sb=>q1 v u h' s.toks (hr.trans hz) hvu (xEAAA it' fun ob2 x1 x2 x3=>⟨ob2,x1,by rw [itL h1 h2];exact ⟨a,rfl,x2,x3⟩⟩) sb
end
noncomputable def clOf(env:Env):List (Str×NameKind)->List (Str×Addr)->List (Str×Addr)
 | [],acc=>acc
 | (n,k)::r,acc=>clOf env r (if k==.free then (n,(env.cells.lookup n).getD 0)::acc else acc)
theorem Um2{env:Env}{scope:Scope}(h:∀ p ∈ scope.names,p.2=.free->∃ c,env.cells.lookup p.1=some c):closureFor scope env=pure (clOf env scope.names []):=by
 have go:∀ (l:List (Str×NameKind)) (acc:List (Str×Addr)),(∀ p ∈ l,p.2=.free->∃ c,env.cells.lookup p.1=some c) ->
   (forIn l acc fun x r=>(do if (x.2==NameKind.free)=true then do let __do_lift <- cellOf env x.1;pure (ForInStep.yield ((x.1,__do_lift)::r)) else pure (ForInStep.yield r):Sem (ForInStep (List (Str×Addr)))))=pure (clOf env l acc):=by
  intro l;induction l with
  | nil=>intro acc _;rfl
  | cons p r ih =>
   intro acc hp;obtain ⟨n,k⟩:=p;rw [List.forIn_cons];unfold clOf
   by_cases hk:k=.free
   ·subst hk;refine xEA (hp (n,.free) List.mem_cons_self rfl) fun c hc=>?_;have e:cellOf env n=pure c:=by unfold cellOf;rw [hc]
    simp only [beq_self_eq_true,if_true,e,pure_bind,hc,Option.getD_some];exact ih _ fun q hq=>hp q (List.mem_cons_of_mem _ hq)
   ·have:(k==NameKind.free)=false:=by simpa using hk
    simp only [this,Bool.false_eq_true,if_false,pure_bind];exact ih _ fun q hq=>hp q (List.mem_cons_of_mem _ hq)
 delta closureFor;have:=go scope.names [] h;simp only [bind_pure];exact this
theorem Ujh{α:Type}{y:Str}{v:α}{r:List (Str×α)}:((y,v)::r).lookup y=some v:=by rw [List.lookup_cons,beq_self_eq_true]
theorem Uju{α:Type}{y n:Str}{v:α}{r:List (Str×α)}(h:y≠n):((n,v)::r).lookup y=r.lookup y:=by rw [List.lookup_cons,beq_eq_false_iff_ne.mpr h]
theorem Uj8{env:Env}{y:Str}:∀ {l:List (Str×NameKind)} {acc:List (Str×Addr)} {c:Addr},(clOf env l acc).lookup y=some c->acc.lookup y=some c\/((y,NameKind.free) ∈ l/\(env.cells.lookup y).getD 0=c)
 | [],_,_,h=>.inl h
 | (n,k)::r,acc,c,h=>by
  rcases Uj8 (l:=r) h with h | h
  ·by_cases hk:(k==NameKind.free)=true
   ·rw [if_pos hk] at h
    by_cases e:y=n
    ·subst e;rw [Ujh] at h;exact .inr ⟨beq_iff_eq.mp hk▸List.mem_cons_self,Uac h⟩
    ·rw [Uju e] at h;exact .inl h
   ·rw [if_neg hk] at h;exact .inl h
  ·exact .inr ⟨List.mem_cons_of_mem _ h.1,h.2⟩
theorem Umh{env:Env}{y:Str}:∀ {l:List (Str×NameKind)} {acc:List (Str×Addr)},((y,NameKind.free) ∈ l\/(acc.lookup y).isSome=true)->((clOf env l acc).lookup y).isSome=true
 | [],_,h=>h.elim (fun h=>nomatch h) id
 | (n,k)::r,acc,h=>by
  refine Umh (l:=r) ?_;rcases h with h | h
  ·rcases List.mem_cons.mp h with e | h
   ·cases e;right;rw [if_pos (beq_self_eq_true _),Ujh];rfl
   ·exact .inl h
  ·right
   by_cases hk:(k==NameKind.free)=true
   ·rw [if_pos hk]
    by_cases e:y=n
    ·subst e;rw [Ujh];rfl
    ·rw [Uju e];exact h
   ·rw [if_neg hk];exact h
theorem Udw{env:Env}{y:Str}:∀ {names:List (Str×NameKind)},
  (names.map fun (n,k)=>if (k==NameKind.free&&env.scope.kind==.function&&env.kindOf n==some .cell) then (n,NameKind.cell) else (n,k)).lookup y =
   (names.lookup y).map fun k=>if (k==NameKind.free&&env.scope.kind==.function&&env.kindOf y==some .cell) then NameKind.cell else k
 | []=>rfl
 | (n,k)::r=>by
  have ih:=@Udw env y r;show List.lookup y ((if (k==NameKind.free&&env.scope.kind==.function&&env.kindOf n==some .cell)=true then (n,NameKind.cell) else (n,k))::_)=_;cases hx:y==n with
  | true =>
   have:=beq_iff_eq.mp hx;subst this;simp only [List.lookup_cons,beq_self_eq_true,Option.map_some];split <;> simp
  | false =>
   simp only [List.lookup_cons,hx];rw [<- ih];split <;> simp only [List.lookup_cons,hx]
section
variable {C:Cx}{A:Around}{cl:CC}{g:Gh}{O O₁ O':Store}{s:Shared}{n d:Nat}{sc:Scope}{fr:Fr}{env:Env}{h h':Heap}
theorem Uo2{I:Addr}{o:V}{uo:Value}{k:Nat}(i:ItAt s.heap I o uo k)(Q E:Value->Shared->Prop)(q:Q (.ref I) s):wpAny (model C.prog C.w) A (pyIter (.ref I)) Q E s:=by
 refine xEAA i fun ob hob it=>?_;cases o with
 | str x =>
  refine xEAAA it fun t w0 i1 i2=>?_;rcases iterType x with e | e <;> rw [e] at i1
  ·exact wpAny_pyIter_striter_ascii ⟨ob,hob,i1,i2⟩ q
  ·exact wpAny_pyIter_striter_wide ⟨ob,hob,i1,i2⟩ q
 | rng a b c=>cases it;exact wpAny_pyIter_rangeiter hob q
 | _=>exact xEAAA it fun l w0 i1 i2=>wpAny_pyIter_listiter ⟨ob,hob,i1,i2⟩ q
structure CompS(sc scope:Scope)(x:Str):Prop where
 kind:scope.kind=.function
 dot:x≠".0"
 xl:scope.names.lookup x=some .local
 dbg:∀ p ∈ scope.names,(p.1==Qdf)=false/\(p.1==Qdg)=false
 loc:∀ p ∈ scope.names,p.2=.local->scope.names.lookup p.1=some .local
 free:∀ p ∈ scope.names,p.2=.free->sc.names.lookup p.1=some .cell/\p.1≠x
 cell:∀ p ∈ scope.names,p.2≠.cell
theorem Urm{scope:Scope}{x:Str}(e:compOk sc scope x=true):CompS sc scope x:=by
 delta compOk at e;simp only [Bool.and_eq_true,List.all_eq_true,beq_iff_eq,bne_iff_ne,ne_eq] at e;refine xAA e fun qz1 h4=>?_;obtain ⟨⟨h1,h2⟩,h3⟩:=qz1;refine ⟨h1,h2,h3,fun p hp=>?_,fun p hp hl=>?_,fun p hp hl=>?_,fun p hp hl=>?_⟩
 ·exact ⟨beq_eq_false_iff_ne.mpr (h4 p hp).1.1,beq_eq_false_iff_ne.mpr (h4 p hp).1.2⟩
 ·have:=(h4 p hp).2;rw [hl] at this;simp only [Bool.or_eq_true,beq_iff_eq,Bool.and_eq_true] at this;rcases this with e | ⟨e,z⟩
  ·rw [e];exact h3
  ·rw [e];exact z
 ·have:=(h4 p hp).2;rw [hl] at this
  simpa using this
 ·have:=(h4 p hp).2;rw [hl] at this;simp at this
theorem Ue3{scope:Scope}{y:Str}{v:V}:∀ {fr:Fr},lk y (compFr scope fr)=some v->lk y fr=some v/\scope.names.lookup y=some .free
 | [],h=>(Uaa h).elim
 | (z,w)::r,h=>by
  delta compFr at h;rw [List.filter_cons] at h
  by_cases hf:(scope.names.lookup z==some NameKind.free)=true
  ·rw [if_pos hf] at h
   by_cases q:z=y
   ·subst q;rw [lk_hit] at h ⊢;exact ⟨h,beq_iff_eq.mp hf⟩
   ·rw [Udo q] at h ⊢;exact Ue3 (scope:=scope) h
  ·rw [if_neg hf] at h;have:=Ue3 (scope:=scope) (fr:=r) h
   by_cases q:z=y
   ·subst q;exact absurd (beq_iff_eq.mpr this.2) hf
   ·rw [Udo q];exact this
theorem Ueh{α:Type}(x y:Str)(v:α):∀ l:List (Str×α),lk y (setK x v l)=if x=y then some v else lk y l
 | []=>by
  by_cases q:x=y
  ·subst q;rw [if_pos rfl];exact lk_hit
  ·rw [if_neg q];exact Udo q
 | (z,w)::r=>by
  by_cases q:z=x
  ·subst q;rw [Uck]
   by_cases q2:z=y
   ·subst q2;rw [lk_hit,if_pos rfl]
   ·rw [Udo q2,Udo q2,if_neg q2]
  ·rw [Ubp q]
   by_cases q2:z=y
   ·subst q2;rw [lk_hit,lk_hit,if_neg fun e=>q e.symm]
   ·rw [Udo q2,Udo q2,Ueh]
theorem Uco{scope:Scope}{L:Addr}(y:Str):(compEnvC scope (clOf env scope.names []) L env).kindOf y=(scope.names.lookup y).map fun k=>if (k==NameKind.free&&env.scope.kind==.function&&env.kindOf y==some .cell) then NameKind.cell else k:=Udw
theorem Upl{scope:Scope}{x:Str}{L:Addr}(K:CompS sc scope x):ES scope (compEnvC scope (clOf env scope.names []) L env) :=
 ⟨fun y e=>by rw [Uco,e];rfl,fun y e=>by rw [Uco,e];rfl,fun y e=>absurd rfl (K.cell _ (mem_of_lookup e))⟩
theorem Uot{scope:Scope}{x:Str}(S:ES sc env)(K:CompS sc scope x)(F:FR g h env fr){y:Str}{c:Addr}(e:(clOf env scope.names []).lookup y=some c):env.cells.lookup y=some c:=by
 rcases Uj8 e with e | e
 ·cases e
 ·exact xEA (F.has y (S.ce y (K.free _ e.1 rfl).1)) fun c' hc'=>by rw [hc',<- e.2,hc'];rfl
theorem Us4{scope:Scope}{x:Str}{L:Addr}{m:Str->Option Value}{v:V}{u:Value}(S:ES sc env)(K:CompS sc scope x)(F:FR g h env fr)(hz:g.Z L)(hs:¬ g.St L)(hn:h.Ns L m)(hm:m x=some u)(hv:VR g h v u)
  (hL:L≠env.locals/\∀ y c,env.cells.lookup y=some c->c≠L) :
  FR g h (compEnvC scope (clOf env scope.names []) L env) (setK x v (compFr scope fr)):=by
 have has:∀ {y},(y,NameKind.free) ∈ scope.names->∃ c,(clOf env scope.names []).lookup y=some c:=fun m=>Option.isSome_iff_exists.mp (Umh (.inl m));have look:=fun {y c}=>Uot (y:=y) (c:=c) S K F;refine ⟨K.kind,F.glob,F.blt,fun p hp=>?_,hz,hs,⟨m,hn,fun y w hy hk=>?_⟩,fun y w hy=>?_,fun y c e=>xAAAA (F.cell y c (look e)) fun a b w0 r=>⟨a,b,hL.2 y c (look e),r⟩,fun y hk=>?_,fun y z c e1 e2=>F.apart y z c (look e1) (look e2)⟩
 ·have hp:p ∈ scope.names.map fun (n,k)=>if (k==NameKind.free&&env.scope.kind==.function&&env.kindOf n==some .cell) then (n,NameKind.cell) else (n,k):=hp;refine xEAA (List.mem_map.mp hp) fun q hq e=>?_;have e:p.1=q.1:=by
   rw [<- e];show (if _ then (q.1,NameKind.cell) else (q.1,q.2)).1=q.1;cases (q.2==NameKind.free&&env.scope.kind==.function&&env.kindOf q.1==some .cell) <;> rfl
  rw [e];exact K.dbg q hq
 ·rw [Ueh] at hy
  by_cases e:x=y
  ·subst e;rw [if_pos rfl] at hy;cases hy;exact ⟨u,hm,hv⟩
  ·rw [if_neg e] at hy;rw [Uco,(Ue3 hy).2] at hk;have hk:(if (NameKind.free==NameKind.free&&env.scope.kind==.function&&env.kindOf y==some .cell)=true then NameKind.cell else .free)=.local:=Uac hk
   by_cases c:(NameKind.free==NameKind.free&&env.scope.kind==.function&&env.kindOf y==some .cell)=true
   ·rw [if_pos c] at hk;cases hk
   ·rw [if_neg c] at hk;cases hk
 ·rw [Ueh] at hy
  by_cases e:x=y
  ·subst e;left;rw [Uco,K.xl];rfl
  ·rw [if_neg e] at hy;refine xAA (Ue3 hy) fun h1 h2=>.inr ?_;have hc:=S.ce y (K.free _ (mem_of_lookup h2) rfl).1;rcases F.var y w h1 with k | k
   ·rw [hc] at k;cases k
   ·refine xAEEAAA k fun w0 c u' a b r=>xEA (has (mem_of_lookup h2)) fun c' hc'=>⟨.inl (by rw [Uco,h2,F.kind,hc];rfl),c,u',?_,b,r⟩
    rw [Uac (a.symm.trans (look hc'))];exact hc'
 ·rw [Uco] at hk;refine mapE hk fun k hl hk=>?_
  by_cases c:(k==NameKind.free&&env.scope.kind==.function&&env.kindOf y==some .cell)=true
  ·have c1:=(Bool.and_eq_true_iff.mp (Bool.and_eq_true_iff.mp c).1).1;exact has (beq_iff_eq.mp c1▸mem_of_lookup hl)
  ·exact absurd ((if_neg c).symm.trans hk) (K.cell _ (mem_of_lookup hl))
end
section
variable {C:Cx}{A:Around}{cl:CC}{g:Gh}{O O₁ O':Store}{s s':Shared}{n d:Nat}{sc:Scope}{fr:Fr}{env:Env}{h h':Heap}
theorem Rel.write1{W:Addr->Prop}(R:Rel C g O s.heap)(hw:∀ b,W b->g.Z b/\¬ g.St b){a:Addr}(ha:W a)(sb:Heap.SameBut a s.heap s'.heap)(live:s'.heap.get? a≠none)(hg:s'.gens=s.gens)(ho:s'.os=s.os) :
  Tr W g s g s'/\Rel C g O s'.heap:=by
 refine xAA (R.write (W:=fun b=>b=a) (s':=s') (fun b e=>by subst e;exact hw _ ha) (fun b o w e=>(sb.2 b w).trans e) (fun b e=>by subst e;exact live) hg ho) fun t R'=>?_;exact ⟨t.weak fun b w0 e=>by subst e;exact ha,R'⟩
theorem Ev.toks{α:Type}{t:Sem α}{T:Gh->Heap->α->Prop}(h:Ev C A t g O s T)(p:0 < s.toks){Q:α->Shared->Prop}{E:Value->Shared->Prop}
  (q:∀ a s' g',0 < s'.toks->Tr (fun w0=>False) g s g' s'->Rel C g' O s'.heap->T g' s'.heap a->Q a s'):wpAny (model C.prog C.w) A t Q E s :=
 wpAny_mono (wpAny_toks_of p (h p (fun a s₁=>0 < s₁.toks->Q a s₁) E fun a s₁ g₁ x R t' p'=>q a s₁ g₁ p' x R t')) (fun w0 w0 x=>x.2 x.1) fun w0 w0 x=>x.2
noncomputable def W3(I D L:Addr):Addr->Prop:=fun b=>b=I\/b=D\/b=L
structure CmA(g:Gh)(h:Heap)(I D L:Addr)(o:V)(uo:Value)(k:Nat)(acc:List V)(mp:Str->Option Value):Prop where
 own:∀ b,W3 I D L b->g.Z b/\¬ g.St b
 it:ItAt h I o uo k
 acc:∃ its cnt,h.get? D=some (lo its cnt)/\VRs g h acc its.toList/\acc.length<=lim
 ns:h.Ns L mp
structure Ap(I D L:Addr):Prop where
 id:I≠D
 il:I≠L
 dl:D≠L
variable {I D L:Addr}{o v:V}{uo:Value}{k:Nat}{acc:List V}{mp:Str->Option Value}
theorem Ns.same{b:Addr}(h1:h.Ns L mp)(e:∀ ob,h.get? L=some ob->h'.get? L=some ob):h'.Ns L mp:=xEEEAA h1 fun ol es ep q r=>⟨ol,es,ep,e _ q,r⟩
theorem CmA.tr(c:CmA g s.heap I D L o uo k acc mp)(R:Rel C g O s.heap){g':Gh}(t:Tr (fun w0=>False) g s g' s'):CmA g' s'.heap I D L o uo k acc mp:=by
 have nn:∀ b,W3 I D L b->∀ ob',s.heap.get? b=some ob'->s'.heap.get? b=some ob':=fun b hb ob' e'=>t.keep b ob' e' (c.own b hb).2 (fun f=>f);exact ⟨fun b hb=>⟨t.zk b (c.own b hb).1,t.notSt (R.zh b (c.own b hb).1) (c.own b hb).2 (fun f=>f)⟩,c.it.keep (nn I (.inl rfl)),xEEAAA c.acc fun its cnt q r l=>⟨its,cnt,nn D (.inr (.inl rfl)) _ q,VRs.tr' r R t,l⟩,Ns.same (b:=L) c.ns (nn L (.inr (.inr rfl)))⟩
theorem CmA.wr(c:CmA g s.heap I D L o uo k acc mp)(R:Rel C g O s.heap){a:Addr}(ha:W3 I D L a){hn:Heap}{tk:Nat}(sb:Heap.SameBut a s.heap hn)(live:hn.get? a≠none){k':Nat}{acc':List V}{mp':Str->Option Value}
  (it:ItAt hn I o uo k') (q:(∀ {vs us},VRs g s.heap vs us->VRs g hn vs us)->∃ its cnt,hn.get? D=some (lo its cnt)/\VRs g hn acc' its.toList/\acc'.length<=lim) (ns:hn.Ns L mp') :
  Tr (W3 I D L) g s g { s with heap:=hn,toks:=tk }/\Rel C g O hn/\CmA g hn I D L o uo k' acc' mp'/\∀ {w u},VR g s.heap w u->VR g hn w u:=by
 have hz:∀ b,W3 I D L b->g.Z b:=fun b hb=>(c.own b hb).1;exact xAA (R.write1 (s':={ s with heap:=hn,toks:=tk }) c.own ha sb live rfl rfl) fun t R'=>⟨t,R',⟨c.own,it,q fun r=>VRs.tr t R.st hz _ r,ns⟩,fun r=>VR.tr t R.st hz _ r⟩
theorem CmA.next(p:Ap I D L)(c:CmA g s.heap I D L o uo k acc mp)(R:Rel C g O s.heap){hn:Heap}{tk:Nat}(sb:Heap.SameBut I s.heap hn)(it:ItAt hn I o uo (k+1)) :
  Tr (W3 I D L) g s g { s with heap:=hn,toks:=tk }/\Rel C g O hn/\CmA g hn I D L o uo (k+1) acc mp/\∀ {w u},VR g s.heap w u->VR g hn w u :=
 c.wr R (.inl rfl) sb it.live it (fun tr=>xEEAAA c.acc fun its cnt q r l=>⟨its,cnt,(sb.2 D p.id.symm).trans q,tr r,l⟩) (Ns.same (b:=L) c.ns fun ob q=>(sb.2 L p.il.symm).trans q)
theorem CmA.name(p:Ap I D L)(c:CmA g s.heap I D L o uo k acc mp)(R:Rel C g O s.heap){hn:Heap}{tk:Nat}{mp':Str->Option Value}(sb:Heap.SameBut L s.heap hn)(ns:hn.Ns L mp') :
  Tr (W3 I D L) g s g { s with heap:=hn,toks:=tk }/\Rel C g O hn/\CmA g hn I D L o uo k acc mp'/\∀ {w u},VR g s.heap w u->VR g hn w u :=
 c.wr R (.inr (.inr rfl)) sb (xEEEA ns fun w0 w0 w0 q=>Uak q.1) (c.it.keep fun ob q=>(sb.2 I p.il).trans q) (fun tr=>xEEAAA c.acc fun its cnt q r l=>⟨its,cnt,(sb.2 D p.dl).trans q,tr r,l⟩) ns
structure CmOk(C:Cx)(A:Around)(env ce:Env)(fr fr0:Fr)(x:Str)(L:Addr)(elt:Expr)(ifs:List Expr)(el:V->M V)(ts:V->M Bool):Prop where
 xl:ce.kindOf x=some .local
 nk:(ce.scope.kind==.class||(ce.scope.kind==.module&&ce.locals != ce.globals))=false
 loc:ce.locals=L
 fr:∀ {g h mp w u},FR g h env fr->g.Z L->¬ g.St L->h.Ns L mp->mp x=some u->VR g h w u->FR g h ce (setK x w fr0)
 el:∀ {g O O' s w v},FR g s.heap ce (setK x w fr0)->Rel C g O s.heap->el w O=some (v,O')->EvV C A (eval elt ce) g O' s v
 ts:∀ {g O O' s w b},FR g s.heap ce (setK x w fr0)->Rel C g O s.heap->ts w O=some (b,O')->Ev C A (forIn ifs true fun c r=>if r=true then do let ok <- isTrue c ce (eval c ce);pure (ForInStep.yield ok) else pure (ForInStep.yield r)) g O' s fun w0 w0 ok=>ok=b
variable {ce:Env}{fr0:Fr}{x:Str}{elt iter:Expr}{ifs:List Expr}{el:V->M V}{ts:V->M Bool}
noncomputable def CmI(C:Cx)(I D L:Addr)(o:V)(uo:Value)(cp:Nat->Nat->List V->M V)(v:V)(O':Store)(g:Gh)(s:Shared)(m:Nat)(sk:Shared):Prop :=
 ∃ gk Ok k acc mp,0 < sk.toks/\Tr (W3 I D L) g s gk sk/\Rel C gk Ok sk.heap/\CmA gk sk.heap I D L o uo k acc mp/\cp m k acc Ok=some (v,O')
theorem Utv{px pos:Pos}{scope:Scope}{Rr:Result->Shared->Prop}(hh:A.handled=none)(p:Ap I D L)(K:CmOk C A env ce fr fr0 x L elt ifs el ts)(F:FR g s.heap env fr)(R:Rel C g O s.heap)(ho:VR g s.heap o uo)
  (hW:∀ b,W3 I D L b->g.Z b) (hn:∀ a,a=env.locals\/(∃ n,env.cells.lookup n=some a)->¬ W3 I D L a)
  (r:∀ gk sk k acc mp h',0 < sk.toks->Tr (W3 I D L) g s gk sk->Rel C gk O' sk.heap->CmA gk sk.heap I D L o uo k acc mp->v=.lst acc->Heap.ExtBut I sk.heap h'->Rr (.ok .next) { sk with heap:=h' })
  (m:Nat) (hi:CmI C I D L o uo (compK o el ts) v O' g s m s):codeAny (model C.prog C.w) A (.compLoop (.ListComp elt [⟨.Name x px,iter,ifs,0⟩] scope pos) 0 (.ref I) (.ref D) ce) Rr s:=by
 refine codeAny_compLoop_tests (CmI C I D L o uo (compK o el ts) v O' g s) (fun m sk hinv=>?_) m hi;refine xEEEEEAAAAA hinv fun gk Ok k acc mp pk tk Rk ck ek=>?_;clear hinv hi;cases m with
 | zero=>exact (Uaa ek).elim
 | succ m =>
  refine bndL ek fun r e1 ek=>wpAny_mono (wpAny_toks_of pk (Upe hh Rk (VR.tr tk R.st hW o ho) ck.it e1 (fun r s₁=>0 < s₁.toks->_) _ (fun w u h' tk' hr hwu hit' sb p'=>?_) fun h' hr hb p'=>?_)) (fun w0 w0 x=>x.2 x.1) fun w0 w0 x=>x.2
  ·cases hr;refine xAAAA (ck.next p (tk:=tk') Rk sb hit') fun ta Ra ca va=>bndE ek fun b O₂ e2 ek=>?_;dsimp only;rw [arm_assign_Name];refine wpAny_bind (wpAny_standAt (wpAny_bindName (wpAny_storeName_local K.xl (K.loc.symm▸ca.ns) (fun h₂ ns2 sb2=>?_) K.nk)));rw [K.loc] at ns2 sb2;refine xAAAA (ca.name (s:={ sk with heap:=h',toks:=tk' }) p (tk:=tk'+1) Ra sb2 ns2) fun tb Rb cb vb=>?_;have tab:=tk.trans (ta.trans tb);have cL:=cb.own L (.inr (.inr rfl));have Fc:=K.fr (F.trW R tab hW hn) cL.1 cL.2 ns2 (if_pos rfl) (vb (va hwu));have pb:0 < ({ sk with heap:=h₂,toks:=tk'+1 }:Shared).toks:=Nat.succ_pos _;refine Ev.toks (K.ts (s:={ sk with heap:=h₂,toks:=tk'+1 }) Fc Rb e2) pb fun ok s₃ g₃ p₃ t₃ R3 hok=>?_;subst hok;have c3:=CmA.tr (s:={ sk with heap:=h₂,toks:=tk'+1 }) cb Rb t₃;cases ok with
   | false=>exact ⟨m,Nat.lt_succ_self _,g₃,O₂,k+1,acc,_,p₃,tab.trans t₃.none,R3,c3,ek⟩
   | true =>
    refine bndE ek fun y O₃ e3 ek=>iteM ek fun hlt ek=>Ev.toks (K.el (FR.tr (s:={ sk with heap:=h₂,toks:=tk'+1 }) Fc Rb t₃) R3 e3) p₃ fun uy s4 g₄ p₄ t4 R4 huy=>?_;have c4:=c3.tr R3 t4;refine xEEAAA c4.acc fun its cnt hD ha hl=>append_at hD (fun h₅ sb5 hg5=>?_) (Uap (ha.size▸hl));refine xAAAA (c4.wr (tk:=s4.toks) R4 (.inr (.inl rfl)) sb5 (Uak hg5) (acc':=acc++[y]) (c4.it.keep fun ob q=>(sb5.2 I p.id).trans q)
     (fun tr=>⟨_,_,hg5,by rw [Array.toList_push];exact VRs.app (tr ha) (tr (VRs.one huy)),by rw [List.length_append];exact hlt⟩) (Ns.same (b:=L) c4.ns fun ob q=>(sb5.2 L p.dl.symm).trans q)) fun t5 R5 c5 w0=>?_
    exact ⟨m,Nat.lt_succ_self _,g₄,O₃,k+1,acc++[y],_,p₄,tab.trans ((t₃.trans t4).none.trans t5),R5,c5,ek⟩
  ·cases hr;cases ek;exact r gk sk k acc mp h' pk tk Rk ck rfl hb
theorem Uq8{ob X:Obj}{h₁:Heap}{tk:Nat}(R:Rel C g O s.heap)(hI:s.heap.objs.size=I)(hD:(s.heap.push ob).objs.size=D)(hL:((s.heap.push ob).push (lo #[] 0)).objs.size=L)
  (hit:ItAt (s.heap.push ob) I o uo 0) (hns:h₁.Ns L mp) (sb:Heap.SameBut L (((s.heap.push ob).push (lo #[] 0)).push X) h₁) :
  ∃ g₁ s₁,{ s with heap:=h₁,toks:=tk }=s₁/\Ap I D L/\(∀ b,W3 I D L b->s.heap.get? b=none)/\Tr (fun w0=>False) g s g₁ s₁/\Rel C g₁ O s₁.heap/\CmA g₁ s₁.heap I D L o uo 0 [] mp:=by
 have d1:D=I+1:=by rw [<- hD,Heap.size_push,hI]
 have d2:L=I+2:=by rw [<- hL,Heap.size_push,hD,d1]
 have ge:∀ b,W3 I D L b->I<=b:=fun b w=>by
  rcases w with e | e | e
  ·exact e▸Nat.le_refl _
  ·exact e▸d1▸Nat.le_succ _
  ·exact e▸d2▸Nat.le_add_right _ _
 have lt:∀ {b ob'},s.heap.get? b=some ob'->b < I:=fun e=>hI▸Heap.lt_size e;have p:Ap I D L:=⟨d1▸Nat.ne_of_lt (Nat.lt_succ_self _),d2▸Nat.ne_of_lt (Nat.lt_add_of_pos_right (by decide)),by rw [d1,d2];exact Nat.ne_of_lt (Nat.lt_succ_self _)⟩
 have dead:∀ b,W3 I D L b->s.heap.get? b=none:=fun b hb=>by
  cases e':s.heap.get? b with
  | none=>rfl
  | some ob'=>exact absurd (ge b hb) (Nat.not_le.mpr (lt e'))
 have up:∀ b ob',b≠L->(s.heap.push ob).get? b=some ob'->h₁.get? b=some ob':=fun b ob' n e=>sb.extBut b ob' n (Heap.get?_push_of_some _ (Heap.get?_push_of_some _ e));have it:ItAt h₁ I o uo 0:=hit.keep fun ob' e=>up I ob' p.il e;have ac:h₁.get? D=some (lo #[] 0):=sb.extBut _ _ p.dl (Heap.get?_push_of_some _ (by rw [<- hD];exact Heap.get?_push_size _ rfl));refine xAA (R.zadd (s':={ s with heap:=h₁,toks:=tk }) (W3 I D L) (fun b o e=>up b o (Nat.ne_of_lt (Nat.lt_of_lt_of_le (lt e) (ge L (.inr (.inr rfl))))) (Heap.get?_push_of_some _ e)) (fun b hb=>⟨dead b hb,?_,Nat.lt_of_lt_of_le (hI▸R.low) (ge b hb)⟩) rfl rfl) fun t R'=>?_
 ·rcases hb with e | e | e
  ·exact e▸it.live
  ·exact e▸Uak ac
  ·exact e▸xEEEA hns fun w0 w0 w0 q=>Uak q.1
 ·exact ⟨_,_,rfl,p,dead,t,R',fun b hb=>⟨.inr hb,fun q=>R.zh b (R.st b q) (dead b hb)⟩,it,⟨#[],0,ac,rfl,Nat.zero_le _⟩,hns⟩
theorem Un4(hh:A.handled=none){scope:Scope}{px pos:Pos}(S:ES sc env)(K:CompS sc scope x)(F:FR g s.heap env fr)(R:Rel C g O s.heap)(ho:VR g s.heap o uo)(pt:0 < s.toks)
  (hK:∀ L,(∀ y c,env.cells.lookup y=some c->c≠L)->L≠env.locals->CmOk C A env (compEnvC scope (clOf env scope.names []) L env) fr (compFr scope fr) x L elt ifs el ts)
  (e:compK o el ts 200 0 [] O=some (v,O')) {RR:Value->Addr->Result->Shared->Prop} {E:Value->Shared->Prop}
  (fin:∀ D L s' g',Tr (fun w0=>False) g s g' s'->Rel C g' O' s'.heap->g'.Z L->¬ g'.St L->s.heap.get? L=none->VR g' s'.heap v (.ref D)->(∃ m,s'.heap.Ns L m)->D≠L->0 < s'.toks->RR (.ref D) L (.ok .next) s') :
  wpAny (model C.prog C.w) A (pyIter uo) (fun it s₂=>wpAny (model C.prog C.w) A (newList []) (fun acc s₃=>wpAny (model C.prog C.w) A (newFunctionEnv scope env.globals (clOf env scope.names []) [] env.qual none .none (some env)) (fun cenv s4 =>
   codeAny (model C.prog C.w) A (.compStart (.ListComp elt [⟨.Name x px,iter,ifs,0⟩] scope pos) 0 it acc { cenv with scope:=relabel scope env }) (RR acc cenv.locals) s4) E s₃) E s₂) E s:=by
 have hdraw:∃ k r,drawV o k O=some r:=bndL e fun r e1 w0=>⟨0,r,e1⟩
 refine Upb R ho hdraw _ _ fun ob hit w0=>wpAny_newObj_type (wpAny_newFunctionEnv K.cell (fun w0 h=>nomatch h) (fun h₁ hns sb=>?_) K.kind);refine xEEAAAAAA (Uq8 (tk:=s.toks+([]:List (Str×Value)).length) R rfl rfl rfl hit hns sb) fun g₁ s₁ e1 p dead t R1 c=>?_;skip;rw [e1]
 generalize s.heap.objs.size=I at *
 generalize (s.heap.push ob).objs.size=D at *
 generalize ((s.heap.push ob).push _).objs.size=L at *
 have hn:∀ a,a=env.locals\/(∃ n,env.cells.lookup n=some a)->¬ W3 I D L a:=fun a q w=>R.zh a (q.elim (fun e=>e▸F.zl) fun q=>xEA q fun n q=>(F.cell n a q).1) (dead a w);have loop:codeAny (model C.prog C.w) A (.compLoop (.ListComp elt [⟨.Name x px,iter,ifs,0⟩] scope pos) 0 (.ref I) (.ref D) (compEnvC scope (clOf env scope.names []) L env)) (RR (.ref D) L) s₁ :=
  Utv hh p (hK L (fun y c q e=>hn c (.inr ⟨y,q⟩) (.inr (.inr e))) fun e=>hn L (.inl e) (.inr (.inr rfl))) (F.tr R t) R1 (VR.tr' ho R t) (fun b w=>(c.own b w).1) hn (fun gk sk k acc mp h' pk tk Rk ck ev hb=>by
   have kk:∀ b ob',¬ (b=I\/b=D)->sk.heap.get? b=some ob'->h'.get? b=some ob':=fun b ob' nb e'=>hb b ob' (fun q=>nb (.inl q)) e';refine xAA (Rk.giveUp (W:=fun b=>b=I\/b=D) (h':=h') (fun b w=>ck.own b (w.elim .inl fun q=>.inr (.inl q))) kk) fun kp Rf=>?_;have tf:Tr (fun w0=>False) g s (gk.zdel fun b=>b=I\/b=D) { sk with heap:=h' }:=Tr.giveUp (t.none.trans tk) R dead (fun b w=>dead b (w.elim .inl fun q=>.inr (.inl q))) kk rfl rfl;have cL:=ck.own L (.inr (.inr rfl));refine xEEAAA ck.acc fun its cnt q r l=>fin D L _ _ tf Rf ⟨cL.1,fun q=>q.elim p.il.symm p.dl.symm⟩ cL.2 (dead L (.inr (.inr rfl))) ?_ ⟨mp,Ns.same (b:=L) ck.ns fun ob q=>hb L _ p.il.symm q⟩ p.dl pk;exact ev▸⟨D,its,cnt,rfl,hb D _ p.id.symm q,fun z=>z.2 (.inr rfl),VRs.kp kp acc r,l⟩)
   200 ⟨g₁,O,0,[],_,e1▸pt,Tr.refl _ _ _,R1,c,e⟩
 exact codeAny_compStart_list loop (Uo2 c.it _ _ loop)
end
section
variable {C:Cx}{A:Around}{cl:CC}{g g':Gh}{O O₁ O':Store}{s s':Shared}{n d:Nat}{sc:Scope}{fr:Fr}{env:Env}{h h':Heap}
theorem Tr.dead{W:Addr->Prop}(x:Tr W g s g' s'){b:Addr}(w:¬ W b)(e:s'.heap.get? b=Option.none):s.heap.get? b=Option.none:=by
 cases q:s.heap.get? b with
 | none=>rfl
 | some o=>exact absurd e (x.live b (by rw [q];exact Option.some_ne_none _) w)
theorem cmOk(ih:EvOk C A cl n){elt:Expr}{x:Str}{ifs:List Expr}{scope:Scope}(S:ES sc env)(K:CompS sc scope x)(L:Addr)(h1:∀ y c,env.cells.lookup y=some c->c≠L)(h2:L≠env.locals) :
  CmOk C A env (compEnvC scope (clOf env scope.names []) L env) fr (compFr scope fr) x L elt ifs (fun v=>evalE C.P cl n scope (setK x v (compFr scope fr)) elt) (fun v=>ifsE (fun fr' c=>testE C.P cl n scope fr' c) ifs (setK x v (compFr scope fr))) where
 xl:=lookup_relabel_local K.xl
 nk:=by show (scope.kind==_||(scope.kind==_&&_))=false;rw [K.kind];rfl
 loc:=rfl
 fr:=fun F z s ns e hv=>Us4 S K F z s ns e hv ⟨h2,h1⟩
 el:=fun {g O O' s w v} F R q=>ih.ev scope _ elt _ g O O' s v (Upl K) F R q
 ts:=fun {g O O' s w b} F R q=>by
  rcases ifs with _ | ⟨c,_ | _⟩
  ·cases q;exact Ev.same R fun Q E q=>wpAny_tests_nil (q _ _ rfl)
  ·exact fun p Q E qq=>wpAny_tests_one (ih.test scope _ c _ g O O' s b (Upl K) F R q p Q E qq)
  ·exact (Uaa q).elim
theorem Uh3(hh:A.handled=none)(ih:EvOk C A cl n){elt iter:Expr}{x:Str}{px:Pos}{ifs:List Expr}{scope:Scope}{pos p:Pos}{o v:V}(S:ES sc env)(F:FR g s.heap env fr)(R:Rel C g O s.heap)
  (ns:notSet iter=true) (K:CompS sc scope x) (e1:evalE C.P cl n sc fr iter O=some (o,O₁))
  (e2:compK o (fun v=>evalE C.P cl n scope (setK x v (compFr scope fr)) elt) (fun v=>ifsE (fun fr' c=>testE C.P cl n scope fr' c) ifs (setK x v (compFr scope fr))) 200 0 [] O₁=some (v,O'))
  (use:Option (Value->Sem Unit)) (pt:0 < s.toks) {Q E:Value->Shared->Prop}
  (fin:∀ D L s' g',Tr (fun w0=>False) g s g' s'->Rel C g' O' s'.heap->g'.Z L->¬ g'.St L->s.heap.get? L=none->VR g' s'.heap v (.ref D)->(∃ m,s'.heap.Ns L m)->D≠L->0 < s'.toks ->
   compPost (model C.prog C.w) A E use Q (.ref D) L (.ok .next) s') :
  wpAny (model C.prog C.w) A (comprehension (.ListComp elt [⟨.Name x px,iter,ifs,0⟩] scope pos) scope env p (newList []) false (eval iter env) use) Q E s:=by
 have hs:∀ y,foldedSetIterable iter env y=pure y:=fun y=>by cases iter <;> first | rfl | cases ns
 refine wpAny_comprehension_free rfl hs (Um2 fun q hq hf=>F.has _ (S.ce _ (K.free q hq hf).1)) K.kind (fun y hy hl=>K.loc y hy hl) ?_;refine Ev.toks (ih.ev sc fr iter env g O O₁ s o S F R e1) pt fun u s₁ g₁ p₁ t₁ R1 hu=>?_;exact Un4 (RR:=fun acc L=>compPost (model C.prog C.w) A E use Q acc L) hh S K (F.tr R t₁) R1 hu p₁ (cmOk ih S K) e2 fun D L s' g' t' R' zL sL dL hv hn hne p' =>
  fin D L s' g' (t₁.trans t') R' zL sL (t₁.dead (fun f=>f) dL) hv hn hne p'
theorem Uiv{W:Addr->Prop}{L:Addr}{hh:Heap}{k:Nat}(x:Tr W g s g' s')(R0:Rel C g O s.heap)(R:Rel C g' O' s'.heap)(zL:g'.Z L)(sL:¬ g'.St L)(dL:s.heap.get? L=none)(wL:¬ W L)
  (sb:∀ b o,b≠L->s'.heap.get? b=some o->hh.get? b=some o) :
  Tr W g s (g'.zdel (·=L)) { s' with heap:=hh,toks:=k }/\Rel C (g'.zdel (·=L)) O' hh/\Kp g' s'.heap (g'.zdel (·=L)) hh:=by
 have kk:∀ b o,¬ (b=L)->s'.heap.get? b=some o->hh.get? b=some o:=fun b o n e=>sb b o n e;refine xAA (R.giveUp (W:=(·=L)) (h':=hh) (fun b e=>by subst e;exact ⟨zL,sL⟩) kk) fun kp R'=>?_;refine ⟨?_,R',kp⟩;have np:∀ b,s.heap.get? b≠none->¬ b=L:=fun b l e=>by subst e;exact l dL
 refine ⟨fun r i p e=>x.grow r i p e,fun b o e n w=>kk b o (np b (Uak e)) (x.keep b o e n w),fun a l w z=>x.zz a l w z.1,fun a z=>⟨x.zk a z,np a (R0.zh a z)⟩,fun a l w=>?_,fun b p q=>?_,x.gens,x.os⟩
 ·have l2:=x.live a l w;cases e:s'.heap.get? a with
  | none=>exact absurd e l2
  | some o =>
   have:hh.get? a=some o:=kk a o (np a l) e;show hh.get? a≠none;rw [this];exact Option.some_ne_none _
 ·exact x.fresh b p q
theorem Uic{elt:Expr}{gens:List Comprehension}{scope:Scope}{pos:Pos}{v:V}{P:Prop}(q:evalE C.P cl (n+1) sc fr (.ListComp elt gens scope pos) O=some (v,O'))
  (k:∀ x px iter ifs o O₁,gens=[⟨.Name x px,iter,ifs,0⟩]->notSet iter=true->CompS sc scope x->evalE C.P cl n sc fr iter O=some (o,O₁) ->
   compK o (fun v=>evalE C.P cl n scope (setK x v (compFr scope fr)) elt) (fun v=>ifsE (fun fr' c=>testE C.P cl n scope fr' c) ifs (setK x v (compFr scope fr))) 200 0 [] O₁=some (v,O')->P):P :=
 bndO q fun d hd q=>xEA (Urt hd) fun px e=>iteM q fun hc q=>bndE q fun o O₁ e1 q=>k d.1 px d.2.1 d.2.2 o O₁ e (Bool.and_eq_true_iff.mp hc).1 (Urm (Bool.and_eq_true_iff.mp hc).2) e1 q
theorem Ut3(hh:A.handled=none)(ih:EvOk C A cl n):CompH C A cl n:=by
 intro sc fr elt gens scope pos env g O O' s v S F R q;refine Uic q fun x px iter ifs o O₁ qz1 ns K e1 e2=>?_;subst qz1;intro pt Q E qq;rw [eval_ListComp];refine Uh3 hh ih S F R ns K e1 e2 none pt fun D L s' g' t' R' zL sL dL hv hn hne p'=>?_;refine xEA hn fun m hm=>?_;refine ⟨m,hm,fun h'' sb=>?_⟩;refine xAAA (Uiv (k:=s'.toks) t' R R' zL sL dL (fun f=>f) sb.extBut) fun t R'' kp=>?_;exact qq _ _ _ t R'' (VR.kp kp v hv)
end
noncomputable def Wf(env:Env):Addr->Prop:=fun b=>b=env.locals\/∃ n,env.cells.lookup n=some b
section
variable {C:Cx}{A:Around}{cl:CC}{g g':Gh}{O O₁ O':Store}{s s':Shared}{n d:Nat}{sc:Scope}{fr:Fr}{env:Env}{h h':Heap}{W:Addr->Prop}
theorem FR.own(F:FR g h env fr):∀ b,Wf env b->g.Z b/\¬ g.St b:=fun b w=>by
 rcases w with rfl | ⟨n,w⟩
 ·exact ⟨F.zl,F.sl⟩
 ·exact ⟨(F.cell n b w).1,(F.cell n b w).2.1⟩
theorem Ex.frame{α:Type}{t:Sem α}{T T':Gh->Heap->α->Prop}(h:Ex C A W t g O s T)(k:∀ g' s' a,Tr W g s g' s'->T g' s'.heap a->T' g' s'.heap a):Ex C A W t g O s T' :=
 fun p Q E q=>h p Q E fun a s' g' x R t'=>q a s' g' x R (k _ _ _ x t')
theorem Ex.oper{vs:List Value}{t:Sem Value}{T:Gh->Heap->Value->Prop}(h:Ex C A W t g O s T):Ex C A W (operate vs t) g O s T:=fun p Q E q=>wpAny_operate' (h p Q E q)
theorem VR.trW{v:V}{u:Value}(hv:VR g s.heap v u)(R:Rel C g O s.heap)(F:FR g s.heap env fr)(x:Tr (Wf env) g s g' s'):VR g' s'.heap v u:=VR.tr x R.st (fun b w=>(F.own b w).1) v hv
theorem VRs.trW{v:List V}{u:List Value}(hv:VRs g s.heap v u)(R:Rel C g O s.heap)(F:FR g s.heap env fr)(x:Tr (Wf env) g s g' s'):VRs g' s'.heap v u:=VRs.tr x R.st (fun b w=>(F.own b w).1) v hv
set_option tactic.hygienic true in
theorem Ug9{x:Str}{v:V}{u:Value}{fr':Fr}(S:ES sc env)(F:FR g s.heap env fr)(R:Rel C g O s.heap)(hv:VR g s.heap v u)(e:setVar sc x v fr O=some (fr',O')) :
  Ex C A (Wf env) (storeName env x u) g O' s fun g' h' w0=>FR g' h' env fr':=by
 refine xAA (Uhm e) fun hx e=>?_;cases e;have nk:(env.scope.kind==.class||(env.scope.kind==.module&&env.locals != env.globals))=false:=by rw [F.kind];rfl
 have zs:∀ b,Wf env b->s.heap.get? b≠none:=fun b w=>R.zh b (F.own b w).1;rcases hx with hx | hx
 ·have kx:=S.lo x hx;refine xEAA F.ns fun m hns hm=>?_;intro p Q E q;refine wpAny_storeName_local kx hns (fun h' hns' sb=>?_) nk;refine xAA (R.write1 (W:=Wf env) (s':={ s with heap:=h',toks:=s.toks+1 }) F.own (a:=env.locals) (.inl rfl) sb (by obtain ⟨_,_,_,q,_⟩:=hns';exact Uak q) rfl rfl) fun t R'=>?_;refine q _ _ g t R' ?_;have kv:∀ {v:V} {u:Value},VR g s.heap v u->VR g h' v u:=fun {v u} h=>VR.trW (s':={ s with heap:=h',toks:=s.toks+1 }) h R F t;refine ⟨F.kind,F.glob,F.blt,F.dbg,F.zl,F.sl,⟨_,hns',fun y w hy hk=>?_⟩,fun y w hy=>?_,fun y c e=>?_,F.has,F.apart⟩
  ·rw [Ueh] at hy;skip;split at hy
   ·rename_i z;subst z;cases hy;exact ⟨u,if_pos rfl,kv hv⟩
   ·rename_i z;refine xEAA (hm y w hy hk) fun u' a b=>?_;exact ⟨u',by rw [if_neg (fun q=>z q.symm)];exact a,kv b⟩
  ·rw [Ueh] at hy;split at hy
   ·rename_i z;subst z;exact .inl kx
   ·rcases F.var y w hy with k | ⟨k,c,u',a,b,r⟩
    ·exact .inl k
    ·exact .inr ⟨k,c,u',a,b.sameBut sb (F.cell y c a).2.2.1,kv r⟩
  ·refine xAAAEA (F.cell y c e) fun a b c' u' r=>?_;exact ⟨a,b,c',u',r.sameBut sb c'⟩
 ·have kx:=S.ce x hx;refine xEA (F.has x kx) fun c hc=>?_;refine xAAAEA (F.cell x c hc) fun zc sc' ncl u0 hcell=>?_;refine xEAA F.ns fun m hns hm=>?_;intro p Q E q;refine wpAny_storeName_cell F.kind kx hc hcell fun h' hc' sb=>?_;refine xAA (R.write1 (W:=Wf env) (s':={ s with heap:=h' }) F.own (a:=c) (.inr ⟨x,hc⟩) sb (by obtain ⟨_,q,_⟩:=hc';exact Uak q) rfl rfl) fun t R'=>?_;refine q _ _ g t R' ?_;have kv:∀ {v:V} {u:Value},VR g s.heap v u->VR g h' v u:=fun {v u} h=>VR.trW (s':={ s with heap:=h' }) h R F t;refine ⟨F.kind,F.glob,F.blt,F.dbg,F.zl,F.sl,⟨m,hns.sameBut sb (Ne.symm ncl),fun y w hy hk=>?_⟩,fun y w hy=>?_,fun y c' e=>?_,F.has,F.apart⟩
  ·rw [Ueh] at hy;split at hy
   ·rename_i z;subst z;rw [kx] at hk;cases hk
   ·refine xEAA (hm y w hy hk) fun u' a b=>?_;exact ⟨u',a,kv b⟩
  ·rw [Ueh] at hy;split at hy
   ·rename_i z;subst z;cases hy;exact .inr ⟨.inl kx,c,u,hc,hc',kv hv⟩
   ·rename_i z;rcases F.var y w hy with k | ⟨k,c',u',a,b,r⟩
    ·exact .inl k
    ·exact .inr ⟨k,c',u',a,b.sameBut sb (fun q=>z (F.apart x y c hc (q▸a))),kv r⟩
  ·refine xAAAEA (F.cell y c' e) fun a b c'' u' r=>?_
   by_cases z:c'=c
   ·subst z;exact ⟨a,b,c'',some u,hc'⟩
   ·exact ⟨a,b,c'',u',r.sameBut sb z⟩
theorem xEE{α β:Type}{p:α->β->Prop}{P:Prop}(h:∃ a b,p a b)(k:∀ a b,p a b->P):P:=h.elim fun a h=>h.elim fun b h=>k a b h
theorem xEEE{α β γ:Type}{p:α->β->γ->Prop}{P:Prop}(h:∃ a b c,p a b c)(k:∀ a b c,p a b c->P):P:=h.elim fun a h=>xEE h fun b c h=>k a b c h
theorem tgt1{v:V}(t:Expr):(∃ x p,t=.Name x p)\/(∃ o x p,t=.Attribute o x p)\/(∃ o i p,t=.Subscript o i p)\/assignE C.P cl sc n fr v t=fail:=by
 have k:∀ t,assignE C.P cl sc n fr v t=fail->(∃ x p,t=.Name x p)\/(∃ o x p,t=.Attribute o x p)\/(∃ o i p,t=.Subscript o i p)\/assignE C.P cl sc n fr v t=fail:=fun t h=>.inr (.inr (.inr h));cases t with
 | Name x p=>exact .inl ⟨_,_,rfl⟩
 | Attribute o x p=>exact .inr (.inl ⟨_,_,_,rfl⟩)
 | Subscript o x p=>exact .inr (.inr (.inl ⟨_,_,_,rfl⟩))
 | _=>exact k _ rfl
theorem Ujq(Fa:Facts C)(cf:CF C)(ih:EvOk C A cl n){t:Expr}{v:V}{u:Value}{fr':Fr}(S:ES sc env)(F:FR g s.heap env fr)(R:Rel C g O s.heap)(hv:VR g s.heap v u)
  (e:assignE C.P cl sc n fr v t O=some (fr',O')):Ex C A (Wf env) (assign t env u) g O' s fun g' h' w0=>FR g' h' env fr':=by
 refine (tgt1 (C:=C) (cl:=cl) (n:=n) (sc:=sc) (fr:=fr) (v:=v) t).elim (fun h=>?_) fun h=>h.elim (fun h=>?_) fun h=>h.elim (fun h=>?_) fun h=>?_
 ·refine xEE h fun x p qz=>?_;subst qz;rw [arm_assign_Name];refine Ex.at_ ?_;intro p' Q E q;exact wpAny_bindName (Ug9 S F R hv e p' Q E q)
 ·refine xEEE h fun o x p qz=>?_;subst qz;refine bndE e fun ov O₁ e1 e=>?_;refine bndE e fun w0 O₂ e2 e=>?_;cases e;rw [arm_assign_Attribute];refine Ex.of (Ev.bind (Ev.hold (ih.ev sc fr o env g O O₁ s ov S F R e1)) fun uo s₁ g₁ t₁ R1 huo=>Ev.at_ ?_);refine Ev.bind (Ev.hold (Ugf Fa cf R1 huo (hv.tr' R t₁) e2)) fun w0 s₂ g₂ t₂ R2 w0=>?_;intro p' Q E q;exact wpAny_release' (q () s₂ g₂ (Tr.refl _ _ _) R2 ((F.tr R t₁).tr R1 t₂))
 ·refine xEEE h fun o i p qz=>?_;subst qz;refine bndE e fun ov O₁ e1 e=>?_;refine bndE e fun iv O₂ e2 e=>?_;refine bndE e fun w0 O₃ e3 e=>?_;cases e;rw [arm_assign_Subscript];refine Ex.of (Ev.bind (Ev.hold (ih.ev sc fr o env g O O₁ s ov S F R e1)) fun uo s₁ g₁ t₁ R1 huo=>?_);refine Ev.bind (Ev.hold (ih.ev sc fr i env g₁ O₁ O₂ s₁ iv S (F.tr R t₁) R1 e2)) fun ui s₂ g₂ t₂ R2 hui=>Ev.at_ ?_;refine Ev.bind (Ev.hold (Ulc R2 (huo.tr' R1 t₂) hui ((hv.tr' R t₁).tr' R1 t₂) e3)) fun w0 s₃ g₃ t₃ R3 w0=>?_;intro p' Q E q;exact wpAny_release' (q () s₃ g₃ (Tr.refl _ _ _) R3 (((F.tr R t₁).tr R1 t₂).tr R2 t₃))
 ·rw [h] at e;exact (Uaa e).elim
end
noncomputable def FlR(g:Gh)(h:Heap)(env:Env):Fl->Flow->Prop
 | .next fr',f=>f=.next/\FR g h env fr'
 | .ret v,f=>∃ u,f=.ret u/\VR g h v u
section
variable {C:Cx}{A:Around}{cl:CC}{g g':Gh}{O O₁ O':Store}{s s':Shared}{n d:Nat}{sc:Scope}{fr:Fr}{env:Env}{h h':Heap}{W:Addr->Prop}
theorem FR.lk{fr':Fr}(F:FR g h env fr)(e:∀ x v,lk x fr'=some v->lk x fr=some v):FR g h env fr':=by
 refine xEAA F.ns fun m hns hm=>?_;exact ⟨F.kind,F.glob,F.blt,F.dbg,F.zl,F.sl,⟨m,hns,fun x v hx hk=>hm x v (e x v hx) hk⟩,fun x v hx=>F.var x v (e x v hx),F.cell,F.has,F.apart⟩
noncomputable def putAll(ps:List (Str×V))(fr:Fr):Fr:=ps.foldl (fun fr p=>setK p.1 p.2 fr) fr
theorem Ug1:∀ (ps:List (Str×V)) (fr:Fr) (x:Str),(ps.map (·.1)).Nodup->lk x (putAll ps fr)=match lk x ps with | some v=>some v | none=>lk x fr
 | [],fr,x,_=>rfl
 | (y,v)::ps,fr,x,hn=>by
  rw [List.map_cons,List.nodup_cons] at hn;have ih:=Ug1 ps (setK y v fr) x hn.2;show lk x (putAll ps (setK y v fr))=_;rw [ih,Ueh]
  by_cases q:y=x
  ·subst q;have:lk y ps=none:=by
    cases e:lk y ps with
    | none=>rfl
    | some w=>exact absurd (List.mem_map.mpr ⟨_,lk_mem e,rfl⟩) hn.1
   simp only [this,lk,beq_self_eq_true,if_true]
  ·have e:(y==x)=false:=beq_eq_false_iff_ne.mpr q;simp only [lk,e,Bool.false_eq_true,if_false,q]
theorem lk_iff:∀ {ps:List (Str×V)},(ps.map (·.1)).Nodup->∀ (x:Str) (v:V),lk x ps=some v ↔ (x,v) ∈ ps
 | [],_,x,v=>by simp [lk]
 | (y,w)::ps,hn,x,v=>by
  rw [List.map_cons,List.nodup_cons] at hn;constructor
  ·exact lk_mem
  ·intro hm;rcases List.mem_cons.mp hm with e | hm
   ·cases e;simp [lk]
   ·have:¬ y=x:=fun e=>hn.1 (List.mem_map.mpr ⟨_,hm,e.symm⟩);have e:(y==x)=false:=beq_eq_false_iff_ne.mpr this;simp only [lk,e,Bool.false_eq_true,if_false];exact (lk_iff hn.2 x v).mpr hm
theorem lk_rev{ps:List (Str×V)}(hn:(ps.map (·.1)).Nodup)(x:Str):lk x ps.reverse=lk x ps:=by
 have hr:(ps.reverse.map (·.1)).Nodup:=by rw [List.map_reverse];exact (List.reverse_perm _).nodup_iff.mpr hn
 cases e:lk x ps with
 | some v=>exact (lk_iff hr x v).mpr (List.mem_reverse.mpr ((lk_iff hn x v).mp e))
 | none =>
  cases e':lk x ps.reverse with
  | none=>rfl
  | some v =>
   have:=(lk_iff hn x v).mpr (List.mem_reverse.mp ((lk_iff hr x v).mp e'));rw [e] at this;cases this
theorem Uko(S:ES sc env):∀ (ps:List (Str×V)) (us:List Value) {fr:Fr} {g:Gh} {s:Shared},FR g s.heap env fr->Rel C g O s.heap->VRs g s.heap (ps.map (·.2)) us ->
  (∀ p ∈ ps,sc.names.lookup p.1=some .local)->Ex C A (Wf env) (assignInOrder (ps.map fun p=>bindName env p.1) us) g O s fun g' h' w0=>FR g' h' env (putAll ps fr)
 | [],us,fr,g,s,F,R,hv,hl=>by
  show Ex C A (Wf env) (assignInOrder [] us) g O s _;have:assignInOrder [] us=pure ():=by delta assignInOrder;rfl
  rw [this];exact Ex.ret R F
 | (x,v)::ps,us,fr,g,s,F,R,hv,hl=>by
  simp only [List.map_cons,VRs] at hv;refine xEEAAA hv fun u r qz1 h1 h2=>?_;subst qz1;have hx:=hl (x,v) List.mem_cons_self;have:assignInOrder (((x,v)::ps).map fun p=>bindName env p.1) (u::r)=(holding r (bindName env x u) >>= fun w0=>assignInOrder (ps.map fun p=>bindName env p.1) r):=by
   rw [List.map_cons];rfl
  rw [this];have st:Ex C A (Wf env) (bindName env x u) g O s (fun g' h' w0=>FR g' h' env (setK x v fr)):=fun p Q E q =>
   wpAny_bindName (Ug9 S F R h1 (by delta setVar setOk;rw [hx];rfl) p Q E q)
  refine Ex.bind (Ex.hold (Ex.frame st (T':=fun g' h' w0=>FR g' h' env (setK x v fr)/\VRs g' h' (ps.map (·.2)) r) fun g' s' w0 t f=>⟨f,VRs.trW h2 R F t⟩)) fun w0 s₁ g₁ t₁ R1 hf=>?_;exact Uko S ps r hf.1 R1 hf.2 fun p hp=>hl p (List.mem_cons_of_mem _ hp)
set_option tactic.hygienic true in
theorem Ukc(f:Expr->Option Str)(hf:∀ t x,f t=some x->nameT t=true/\(∀ r,names (t::r)=x::names r)/\env.kindOf x=some .local):∀ {ts:List Expr},(ts.filterMap f).length=ts.length ->
  ts.filterMap f=names ts/\(∀ x ∈ names ts,env.kindOf x=some .local)/\(ts.map nameT).all id=true
 | [],_=>⟨rfl,by simp [names],rfl⟩
 | t::ts,h=>by
  rw [List.filterMap_cons] at h ⊢;have hle:(ts.filterMap f).length<=ts.length:=List.length_filterMap_le ..;split at h
  ·rw [List.length_cons] at h;omega
  ·rename_i x hx;simp only [List.length_cons,Nat.add_right_cancel_iff] at h;refine xAAA (Ukc f hf h) fun a b c=>?_;refine xAAA (hf t x hx) fun h1 h2 h3=>?_;refine ⟨by rw [h2,a],fun y hy=>?_,by simp only [List.map_cons,List.all_cons,h1,id,Bool.true_and];exact c⟩;rw [h2] at hy;rcases List.mem_cons.mp hy with rfl | hy
   ·exact h3
   ·exact b y hy
set_option tactic.hygienic true in
theorem Uib{ts:List Expr}{k:Nat}{p:Pos}{e:Expr}(ok:tupOk e=true):swappedStores [.Tuple ts k p] e env=pure none \/
  (swappedStores [.Tuple ts k p] e env=pure (some (names ts))/\(∀ x ∈ names ts,env.kindOf x=some .local)/\(ts.map nameT).all id=true):=by
 delta swappedStores;cases e with
 | Tuple vs k2 p2 =>
  dsimp only;simp only [tupOk,Bool.or_eq_true,Bool.not_eq_true'] at ok;split
  ·exact .inl rfl
  split
  ·exact .inl rfl
  split
  ·exact .inl rfl
  ·rename_i h1 h2 h3;rw [Bool.not_eq_true,Bool.or_eq_false_iff] at h3;have hl:=h3.1;rw [bne_eq_false_iff_eq] at hl;obtain ⟨a,b,c⟩:=Ukc (env:=env) _ (fun t x hx=>by
    split at hx
    ·split at hx
     ·rename_i hk;cases hx;rw [Bool.and_eq_true,beq_iff_eq] at hk;exact ⟨rfl,fun w0=>rfl,hk.1⟩
     ·cases hx
    ·cases hx) hl
   split
   ·exact .inl rfl
   ·rename_i h4;split
    ·rename_i h5;rcases ok with ok | ok
     ·rw [h5] at ok;cases ok
     ·exact absurd ok h4
    ·exact .inr ⟨by rw [a],b,c⟩
 | _=>exact .inl rfl
end
section
variable {C:Cx}{A:Around}{cl:CC}{g g':Gh}{O O₁ O':Store}{s s':Shared}{n d:Nat}{sc:Scope}{fr:Fr}{env:Env}{h h':Heap}{W:Addr->Prop}
theorem FR.giveUp{L:Addr}{hh:Heap}(F:FR g h env fr)(kp:Kp g h (g.zdel (·=L)) hh)(hL:¬ Wf env L)(kk:∀ b o,b≠L->h.get? b=some o->hh.get? b=some o):FR (g.zdel (·=L)) hh env fr :=
 F.kp kp fun a q=>⟨⟨(F.own a q).1,fun e=>hL (e▸q)⟩,(F.own a q).2,fun o e=>kk a o (fun e=>hL (e▸q)) e⟩
theorem FR.dead{b:Addr}(F:FR g s.heap env fr)(R:Rel C g O s.heap)(d:s.heap.get? b=none):¬ Wf env b:=fun w=>R.zh b (F.own b w).1 d
theorem Uk4(hh:A.handled=none)(ih:EvOk C A cl n){elt:Expr}{gens:List Comprehension}{scope:Scope}{cpos py pos:Pos}{y:Str}{v:V}{fr':Fr}(S:ES sc env)(F:FR g s.heap env fr)(R:Rel C g O s.heap)
  (q:evalE C.P cl (n+1) sc fr (.ListComp elt gens scope cpos) O=some (v,O₁)) (e3:setVar sc y v fr O₁=some (fr',O'))
  (hs:swapsWith (.ListComp elt gens scope cpos) (some (.Name y py)) pos.line env=pure true) :
  Ex C A (Wf env) (exec (.Assign [.Name y py] (.ListComp elt gens scope cpos) pos) env) g O' s fun g' h' f=>FlR g' h' env (.next fr') f:=by
 refine Uic q fun x px iter ifs o O₂ qz1 ns K e1 e2=>?_;subst qz1;intro pt Q E qq;rw [exec_Assign_Name_used _ _ _ _ hs];refine wpAny_bind (wpAny_standAt (wpAny_bind ?_));show wpAny _ A (do let _ <- comprehension (.ListComp elt [⟨.Name x px,iter,ifs,0⟩] scope cpos) scope env _ (newList []) false (eval iter env) (some (assign (.Name y py) env))) _ _ s;refine wpAny_bind (wpAny_mono (Uh3 (Q:=fun w0 s'=>Q .next s') hh ih S F R ns K e1 e2 (some (assign (.Name y py) env)) pt fun D L s' g' t' R' zL sL dL hv hn hne p'=>?_) (fun w0 s' hq=>wpAny_pure (wpAny_pure hq)) fun w0 w0 e=>e);show wpAny _ A (assign (.Name y py) env (.ref D)) _ E s';rw [arm_assign_Name];refine wpAny_bind (wpAny_standAt (wpAny_bindName (Ug9 S (F.tr R t') R' hv e3 p' _ E fun w0 s'' g'' t'' R'' F''=>?_)));have wL:=F.dead R dL;refine xEEEEAA hn fun m ol es ep ho rest=>?_;refine ⟨m,⟨ol,es,ep,t''.keep _ _ ho sL wL,rest⟩,fun h₃ sb=>?_⟩;refine xAAA (Uiv (k:=s''.toks) (t'.none.trans t'') R R'' (t''.zk _ zL) (t''.notSt (Uak ho) sL wL) dL wL sb.extBut) fun t Rf kp=>?_;exact qq _ _ _ t Rf ⟨rfl,F''.giveUp kp wL sb.extBut⟩
theorem Ua0{t:Expr}{v:V}{fr':Fr}(e:assignE C.P cl sc n fr v t O=some (fr',O')):(∃ x p,t=.Name x p)\/(∃ o x p,t=.Attribute o x p)\/(∃ o i p,t=.Subscript o i p):=by
 delta assignE at e;split at e
 ·exact .inl ⟨_,_,rfl⟩
 ·exact .inr (.inl ⟨_,_,_,rfl⟩)
 ·exact .inr (.inr ⟨_,_,_,rfl⟩)
 ·exact (Uaa e).elim
theorem Uho{P:Prog}{e:Expr}{r:V×Store}(q:evalE P cl n sc fr e O=some r):(∃ a b c d,e=.ListComp a b c d)\/notComp e=true:=by
 cases e with
 | ListComp a b c d=>exact .inl ⟨_,_,_,_,rfl⟩
 | SetComp a b c d=>cases n <;> exact (Uaa q).elim
 | DictComp a b c d=>cases n <;> exact (Uaa q).elim
 | _=>exact .inr rfl
theorem Uf9{e:Expr}{t:Option Expr}{k:Nat}(h:notComp e=true):swapsWith e t k env=pure false:=by
 cases e <;> first | rfl | cases h
theorem Ul1(Fa:Facts C)(cf:CF C)(hh:A.handled=none)(ev:∀ m,EvOk C A cl m){t e:Expr}{pos:Pos}{v:V}{fr':Fr}(S:ES sc env)(F:FR g s.heap env fr)(R:Rel C g O s.heap)
  (q:evalE C.P cl n sc fr e O=some (v,O₁)) (e3:assignE C.P cl sc n fr v t O₁=some (fr',O')) :
  Ex C A (Wf env) (exec (.Assign [t] e pos) env) g O' s fun g' h' f=>FlR g' h' env (.next fr') f:=by
 have plain:swapsWithSole [t] e pos.line env=pure false->Ex C A (Wf env) (exec (.Assign [t] e pos) env) g O' s fun g' h' f=>FlR g' h' env (.next fr') f:=fun hs=>by
  have hw:swappedStores [t] e env=pure none:=by
   rcases Ua0 e3 with ⟨x,p,rfl⟩ | ⟨o,x,p,rfl⟩ | ⟨o,i,p,rfl⟩ <;> rfl
  have ha:∀ u,assignAll u ((assignEach [t] env).map (·.2))=assign t env u:=fun u=>by
   rcases Ua0 e3 with ⟨x,p,rfl⟩ | ⟨o,x,p,rfl⟩ | ⟨o,i,p,rfl⟩ <;> rfl
  intro pt Q E qq;refine wpAny_Assign_stores ?_ hs hw;refine wpAny_mono (wpAny_toks_of pt ((ev n).ev sc fr e env g O O₁ s v S F R q pt (fun u s₁=>0 < s₁.toks->wpAny (model C.prog C.w) A (assignAll u ((assignEach [t] env).map (·.2))) (fun w0=>Q .next) E s₁) E fun u s₁ g₁ t₁ R1 hu p₁=>?_)) (fun w0 w0 x=>x.2 x.1) fun w0 w0 x=>x.2;rw [ha];exact Ujq Fa cf (ev n) S (F.tr R t₁) R1 hu e3 p₁ (fun w0=>Q .next) E fun w0 s₂ g₂ t₂ R2 F2=>qq _ _ _ (t₁.none.trans t₂) R2 ⟨rfl,F2⟩
 rcases Uho q with ⟨elt,gens,scope,cpos,rfl⟩ | hn
 ·rcases Ua0 e3 with ⟨x,p,rfl⟩ | ⟨o,x,p,rfl⟩ | ⟨o,i,p,rfl⟩
  ·obtain ⟨b,hb⟩:∃ b,swapsWith (.ListComp elt gens scope cpos) (some (.Name x p)) pos.line env=pure b:=⟨_,rfl⟩
   cases b with
   | false=>exact plain hb
   | true =>
    cases n with
    | zero=>exact (Uaa q).elim
    | succ n=>exact Uk4 hh (ev n) S F R q (by delta assignE at e3;exact e3) hb
  ·exact plain rfl
  ·exact plain rfl
 ·exact plain (Uf9 hn)
theorem Ulf:∀ {ts:List Expr} {vs:List V} {fr fr':Fr} {O:Store},assignEs C.P cl sc n fr vs ts O=some (fr',O')->(∀ x ∈ assignEach ts env,x.1=false)/\(assignEach ts env).length=vs.length
 | [],[],_,_,_,_=>by simp [arm_assignEach_nil]
 | t::ts,v::vs,fr,fr',O,e=>by
  unfold assignEs at e;refine bndE e fun fr₂ O₂ e1' e=>?_;have he:assignEach (t::ts) env=(false,assign t env)::assignEach ts env:=by
   rcases Ua0 e1' with ⟨x,p,rfl⟩ | ⟨o,x,p,rfl⟩ | ⟨o,i,p,rfl⟩ <;> rfl
  refine xAA (Ulf e) fun a b=>?_;rw [he];exact ⟨fun x hx=>by rcases List.mem_cons.mp hx with rfl | hx;exact rfl;exact a x hx,by simp [b]⟩
 | [],_::_,_,_,_,e=>by unfold assignEs at e;exact (Uaa e).elim
 | _::_,[],_,_,_,e=>by unfold assignEs at e;exact (Uaa e).elim
theorem Ulu(Fa:Facts C)(cf:CF C)(ev:EvOk C A cl n)(S:ES sc env):∀ (ts:List Expr) (vs:List V) (us:List Value) {fr fr':Fr} {g:Gh} {s:Shared} {O:Store},FR g s.heap env fr->Rel C g O s.heap->VRs g s.heap vs us ->
  assignEs C.P cl sc n fr vs ts O=some (fr',O')->Ex C A (Wf env) (assignInOrder ((assignEach ts env).map (·.2)) us) g O' s (fun g' h' w0=>FR g' h' env fr')/\(∀ x ∈ assignEach ts env,x.1=false)/\(assignEach ts env).length=vs.length
 | [],[],us,fr,fr',g,s,O,F,R,hv,e=>by
  delta assignEs at e;cases e;refine ⟨?_,by simp [arm_assignEach_nil],by simp [arm_assignEach_nil]⟩;have:assignInOrder ((assignEach [] env).map (·.2)) us=pure ():=by unfold assignInOrder;rfl
  rw [this];exact Ex.ret R F
 | t::ts,v::vs,us,fr,fr',g,s,O,F,R,hv,e=>by
  unfold assignEs at e;refine bndE e fun fr₁ O₁ e1 e=>?_;dsimp only [VRs] at hv;refine xEEAAA hv fun u r qz1 h1 h2=>?_;subst qz1;have he:assignEach (t::ts) env=(false,assign t env)::assignEach ts env:=by
   rcases Ua0 e1 with ⟨x,p,rfl⟩ | ⟨o,x,p,rfl⟩ | ⟨o,i,p,rfl⟩ <;> rfl
  have st:=Ex.frame (Ujq Fa cf ev S F R h1 e1) (T':=fun g' h' w0=>FR g' h' env fr₁/\VRs g' h' vs r) fun g' s' w0 t f=>⟨f,VRs.trW h2 R F t⟩
  have rest:=fun (g₁:Gh) (s₁:Shared) (F1:FR g₁ s₁.heap env fr₁) (R1:Rel C g₁ O₁ s₁.heap) (h₁:VRs g₁ s₁.heap vs r)=>Ulu Fa cf ev S ts vs r F1 R1 h₁ e;rw [he];have len:=Ulf (env:=env) e;refine ⟨?_,fun x hx=>by rcases List.mem_cons.mp hx with rfl | hx;exact rfl;exact len.1 x hx,by simp [len.2]⟩;show Ex C A (Wf env) (holding r (assign t env u) >>= fun w0=>assignInOrder ((assignEach ts env).map (·.2)) r) g O' s _;exact Ex.bind (Ex.hold st) fun w0 s₁ g₁ t₁ R1 hf=>(rest g₁ s₁ hf.1 R1 hf.2).1
 | [],_::_,us,fr,fr',g,s,O,F,R,hv,e=>by delta assignEs at e;exact (Uaa e).elim
 | _::_,[],us,fr,fr',g,s,O,F,R,hv,e=>by delta assignEs at e;exact (Uaa e).elim
theorem Uj3(S:ES sc env):∀ {ts:List Expr} {vs:List V} {fr fr':Fr},(ts.map nameT).all id=true->(∀ x ∈ names ts,env.kindOf x=some .local)->assignEs C.P cl sc n fr vs ts O=some (fr',O') ->
  O'=O/\vs.length=(names ts).length/\fr'=putAll ((names ts).zip vs) fr/\(∀ x ∈ names ts,sc.names.lookup x=some .local)/\ts.length=(names ts).length
 | [],[],fr,fr',_,_,e=>by delta assignEs at e;cases e;exact ⟨rfl,rfl,rfl,by simp [names],rfl⟩
 | t::ts,v::vs,fr,fr',ha,hk,e=>by
  unfold assignEs at e;refine bndE e fun fr₁ O₁ e1 e=>?_;rw [List.map_cons,List.all_cons,Bool.and_eq_true] at ha;cases t with
  | Name x p =>
   refine xAA (Uhm e1) fun ho e1=>?_;have kx:=hk x (by simp [names]);have hx:sc.names.lookup x=some .local:=ho.elim id fun ho=>by rw [S.ce x ho] at kx;cases kx
   cases e1;refine xAAAAA (Uj3 S ha.2 (fun y hy=>hk y (by simp [names,hy])) e) fun a b c d e'=>?_;refine ⟨a,by simp [names,b],c,fun y hy=>?_,by simp [names,e']⟩;simp only [names,List.mem_cons] at hy;rcases hy with rfl | hy
   ·exact hx
   ·exact d y hy
  | _=>exact absurd ha.1 (by simp [nameT])
 | [],_::_,_,_,_,_,e=>by delta assignEs at e;exact (Uaa e).elim
 | _::_,[],_,_,_,_,e=>by delta assignEs at e;exact (Uaa e).elim
theorem Ui1:∀ {l:List Str},nodupB l=true->l.Nodup
 | [],_=>List.nodup_nil
 | x::r,h=>by
  simp only [nodupB,Bool.and_eq_true,Bool.not_eq_true',List.any_eq_false,beq_iff_eq] at h;exact List.nodup_cons.mpr ⟨fun hm=>h.1 x hm rfl,Ui1 h.2⟩
theorem Ung:∀ {l:List Str} {vs:List V},vs.length=l.length->(l.zip vs).map (·.1)=l/\(l.zip vs).map (·.2)=vs
 | [],[],_=>⟨rfl,rfl⟩
 | x::l,v::vs,h=>by
  refine xAA (Ung (l:=l) (vs:=vs) (by simpa using h)) fun a b=>?_;exact ⟨by simp [a],by simp [b]⟩
 | [],_::_,h=>by simp at h
 | _::_,[],h=>by simp at h
theorem VRs.rev:∀ {vs:List V} {us:List Value},VRs g h vs us->VRs g h vs.reverse us.reverse
 | [],_,e=>by dsimp only [VRs] at e;subst e;simp [VRs]
 | v::vs,_,e=>by
  dsimp only [VRs] at e;refine xEEAAA e fun u r qz1 a b=>?_;subst qz1;rw [List.reverse_cons,List.reverse_cons];exact VRs.app (VRs.rev b) (VRs.one a)
theorem Urr(Fa:Facts C)(cf:CF C)(hh:A.handled=none)(ev:∀ m,EvOk C A cl m){ts:List Expr}{k:Nat}{tp pos:Pos}{e:Expr}{v:V}{vs:List V}{fr':Fr}(S:ES sc env)(F:FR g s.heap env fr)(R:Rel C g O s.heap)
  (ok:tupOk e=true) (nd:nodupB (names ts)=true) (q:evalE C.P cl n sc fr e O=some (v,O₁)) (hv:tupV v=some vs) (e3:assignEs C.P cl sc n fr vs ts O₁=some (fr',O')) :
  Ex C A (Wf env) (exec (.Assign [.Tuple ts k tp] e pos) env) g O' s fun g' h' f=>FlR g' h' env (.next fr') f:=by
 have hs:swapsWithSole [.Tuple ts k tp] e pos.line env=pure false:=by
  cases e <;> rfl
 have vt:v=.tup vs:=by delta tupV at hv;split at hv <;> cases hv;rfl
 subst vt;intro pt Q E qq;have up:∀ {s₁:Shared} {g₁:Gh} {h':Heap},Rel C g₁ O₁ s₁.heap->Heap.ExtBut s₁.heap.objs.size s₁.heap h'->Tr (fun w0=>False) g₁ s₁ g₁ { s₁ with heap:=h' }/\Rel C g₁ O₁ h':=fun {s₁ g₁ h'} R1 hb=>by
  have kk:∀ b o,s₁.heap.get? b=some o->h'.get? b=some o:=fun b o e=>hb b o (Nat.ne_of_lt (Heap.lt_size e)) e;exact ⟨Tr.grown kk rfl rfl,R1.grown (s':={ s₁ with heap:=h' }) kk rfl rfl⟩
 rcases Uib (env:=env) (ts:=ts) (k:=k) (p:=tp) ok with hw | ⟨hw,hk,ha⟩
 ·refine Assign_Tuple ?_ hs hw;refine wpAny_mono (wpAny_toks_of pt ((ev n).ev sc fr e env g O O₁ s _ S F R q pt (fun u s₁=>0 < s₁.toks->wpAny (model C.prog C.w) A (assign (.Tuple ts k tp) env u) (fun w0=>Q .next) E s₁) E fun u s₁ g₁ t₁ R1 hu p₁=>?_)) (fun w0 w0 x=>x.2 x.1) fun w0 w0 x=>x.2;dsimp only [VR] at hu;refine xEEEAAAAA hu fun a its m qz1 hg hz hr hl=>?_;subst qz1;have eo:=Ulu Fa cf (ev n) S ts vs its.toList (F.tr R t₁) R1 hr e3;have hlen:=hr.len;rw [Array.length_toList] at hlen;rw [arm_assign_Tuple];refine wpAny_bind (wpAny_standAt (wpAny_unpack_tuple hh (VR.isTup hg) (by rw [eo.2.2,hlen]) (by rw [List.findIdx?_eq_none_iff];exact eo.2.1) fun h' hb=>?_));refine xAA (up R1 hb) fun t₂ R2=>?_;have eo2:=Ulu Fa cf (ev n) S ts vs its.toList (s:={ s₁ with heap:=h' }) ((F.tr R t₁).tr R1 t₂) R2 (VRs.tr' hr R1 t₂) e3;exact eo2.1 p₁ (fun w0=>Q .next) E fun w0 s₃ g₃ t₃ R3 F3=>qq _ _ _ ((t₁.trans t₂).none.trans t₃) R3 ⟨rfl,F3⟩
 ·refine Assign_Tuple_swapped ?_ hs hw;refine wpAny_mono (wpAny_toks_of pt ((ev n).ev sc fr e env g O O₁ s _ S F R q pt (fun u s₁=>0 < s₁.toks->wpAny (model C.prog C.w) A (unpackItems u (names ts).length none) (fun items s₂ =>
   wpAny (model C.prog C.w) A (assignInOrder ((names ts).reverse.map fun n=>bindName env n) items.reverse) (fun w0=>Q .next) E s₂) E s₁) E fun u s₁ g₁ t₁ R1 hu p₁=>?_)) (fun w0 w0 x=>x.2 x.1) fun w0 w0 x=>x.2
  dsimp only [VR] at hu;refine xEEEAAAAA hu fun a its m qz1 hg hz hr hl=>?_;subst qz1;refine xAAAAA (Uj3 S ha hk e3) fun qz1 b qz2 hsc d=>?_;subst qz1;subst qz2;have hlen:=hr.len;rw [Array.length_toList] at hlen;rw [show (names ts).length=its.size by omega];refine wpAny_unpackItems_tuple hh (VR.isTup hg) fun h' hb=>?_;refine xAA (up R1 hb) fun t₂ R2=>?_;refine xAA (Ung (l:=names ts) (vs:=vs) b) fun z1 z2=>?_;have so:=Uko (C:=C) (A:=A) S ((names ts).zip vs).reverse its.toList.reverse (s:={ s₁ with heap:=h' }) ((F.tr R t₁).tr R1 t₂) R2
   (by rw [List.map_reverse,z2];exact VRs.rev (VRs.tr' hr R1 t₂)) fun p hp=>hsc _ (by rw [<- z1];exact List.mem_map.mpr ⟨p,List.mem_reverse.mp hp,rfl⟩)
  have em:(((names ts).zip vs).reverse.map fun p=>bindName env p.1)=(names ts).reverse.map fun n=>bindName env n:=by
   rw [List.map_reverse,List.map_reverse]
   congr 1
   conv=>rhs;rw [<- z1]
   rw [List.map_map];rfl
  rw [em] at so;refine so p₁ (fun w0=>Q .next) E fun w0 s₃ g₃ t₃ R3 F3=>qq _ _ _ ((t₁.trans t₂).none.trans t₃) R3 ⟨rfl,F3.lk fun x v hx=>?_⟩;have n1:(((names ts).zip vs).map (·.1)).Nodup:=by rw [z1];exact Ui1 nd
  have n2:((((names ts).zip vs).reverse).map (·.1)).Nodup:=by rw [List.map_reverse];exact (List.reverse_perm _).nodup_iff.mpr n1
  rw [Ug1 _ _ _ n2,lk_rev n1];rw [Ug1 _ _ _ n1] at hx;exact hx
end
structure StOk(C:Cx)(A:Around)(cl:CC)(sc:Scope)(n:Nat):Prop where
 st:∀ (fr:Fr) (t:Stmt) (env:Env) (g:Gh) (O O':Store) (s:Shared) (fl:Fl),ES sc env->FR g s.heap env fr->Rel C g O s.heap->execS C.P cl sc n fr t O=some (fl,O') ->
  Ex C A (Wf env) (exec t env) g O' s fun g' h' f=>FlR g' h' env fl f
 sts:∀ (fr:Fr) (ts:List Stmt) (env:Env) (g:Gh) (O O':Store) (s:Shared) (fl:Fl),ES sc env->FR g s.heap env fr->Rel C g O s.heap->execSs C.P cl sc n fr ts O=some (fl,O') ->
  Ex C A (Wf env) (execs ts env) g O' s fun g' h' f=>FlR g' h' env fl f
section
variable {C:Cx}{A:Around}{cl:CC}{g g':Gh}{O O₁ O':Store}{s s':Shared}{n d:Nat}{sc:Scope}{fr:Fr}{env:Env}{h h':Heap}{W:Addr->Prop}
theorem Ex.toks{α:Type}{t:Sem α}{T:Gh->Heap->α->Prop}(h:Ex C A W t g O s T)(p:0 < s.toks){Q:α->Shared->Prop}{E:Value->Shared->Prop}
  (q:∀ a s' g',0 < s'.toks->Tr W g s g' s'->Rel C g' O s'.heap->T g' s'.heap a->Q a s'):wpAny (model C.prog C.w) A t Q E s :=
 wpAny_mono (wpAny_toks_of p (h p (fun a s₁=>0 < s₁.toks->Q a s₁) E fun a s₁ g₁ x R t' p'=>q a s₁ g₁ p' x R t')) (fun w0 w0 x=>x.2 x.1) fun w0 w0 x=>x.2
set_option tactic.hygienic true in
theorem Uqn(ih:StOk C A cl sc n){ts:List Stmt}{fl:Fl}(S:ES sc env)(F:FR g s.heap env fr)(R:Rel C g O s.heap)(q:execSs C.P cl sc (n+1) fr ts O=some (fl,O')) :
  Ex C A (Wf env) (execs ts env) g O' s fun g' h' f=>FlR g' h' env fl f:=by
 cases ts with
 | nil =>
  cases q;rw [arm_execs_nil];exact Ex.ret R ⟨rfl,F⟩
 | cons t r =>
  refine bndE q fun fl1 O₁ e1 q=>?_;rw [arm_execs_cons];refine Ex.bind (ih.st fr t env g O O₁ s fl1 S F R e1) fun f s₁ g₁ t₁ R1 hf=>?_;cases fl1 with
  | next fr₁ =>
   obtain ⟨rfl,F1⟩:=hf;exact ih.sts fr₁ r env g₁ O₁ O' s₁ fl S F1 R1 q
  | ret v =>
   obtain ⟨u,rfl,hu⟩:=hf;cases q;exact Ex.ret R1 ⟨u,rfl,hu⟩
noncomputable abbrev BdOk(C:Cx)(A:Around)(env:Env)(body:List Stmt)(bd:Fr->M Fl):Prop:=∀ {g:Gh} {O O':Store} {s:Shared} {fr:Fr} {fl:Fl},FR g s.heap env fr->Rel C g O s.heap->bd fr O=some (fl,O') ->
 Ex C A (Wf env) (execs body env) g O' s fun g' h' f=>FlR g' h' env fl f
noncomputable abbrev SvOk(C:Cx)(A:Around)(env:Env)(x:Str)(sv:V->Fr->M Fr):Prop:=∀ {g:Gh} {O O':Store} {s:Shared} {fr fr':Fr} {v:V} {u:Value},FR g s.heap env fr->Rel C g O s.heap->VR g s.heap v u->sv v fr O=some (fr',O') ->
 Ex C A (Wf env) (storeName env x u) g O' s fun g' h' w0=>FR g' h' env fr'
noncomputable abbrev TsOk(C:Cx)(A:Around)(env:Env)(test:Expr)(ts:Fr->M Bool):Prop:=∀ {g:Gh} {O O':Store} {s:Shared} {fr:Fr} {b:Bool},FR g s.heap env fr->Rel C g O s.heap->ts fr O=some (b,O') ->
 Ev C A (isTrue test env (eval test env)) g O' s fun w0 w0 c=>c=b
noncomputable def WhI(C:Cx)(env:Env)(lp:Nat->Fr->M Fl)(fl:Fl)(O':Store)(g:Gh)(s:Shared)(m:Nat)(sk:Shared):Prop :=
 ∃ gk Ok frk,0 < sk.toks/\Tr (Wf env) g s gk sk/\Rel C gk Ok sk.heap/\FR gk sk.heap env frk/\lp m frk Ok=some (fl,O')
set_option tactic.hygienic true in
theorem Ul9{test:Expr}{body:List Stmt}{pos:Pos}{ts:Fr->M Bool}{bd:Fr->M Fl}{fl:Fl}{m:Nat}(hts:TsOk C A env test ts)(hbd:BdOk C A env body bd)(F:FR g s.heap env fr)(R:Rel C g O s.heap)
  (q:loopW ts bd m fr O=some (fl,O')):Ex C A (Wf env) (exec (.While test body [] pos) env) g O' s fun g' h' f=>FlR g' h' env fl f:=by
 intro pt Q E qq;refine wpAny_While (codeAny_whileLoop (WhI C env (loopW ts bd) fl O' g s) (fun m sk hI=>?_) m ⟨g,O,fr,pt,Tr.refl _ _ _,R,F,q⟩);refine xEEEAAAAA hI fun gk Ok frk pk tk Rk Fk qk=>?_;clear hI q F R;cases m with
 | zero=>exact (Uaa qk).elim
 | succ m =>
  refine bndE qk fun b O₁ e1 qk=>Ev.toks (hts Fk Rk e1) pk fun c s₁ g₁ p₁ t₁ R1 hc=>?_;subst hc;have F1:=Fk.tr Rk t₁;cases c with
  | false=>cases qk;rw [arm_execs_nil];exact wpAny_pure (qq _ _ _ (tk.trans t₁.none) R1 ⟨rfl,F1⟩)
  | true =>
   refine bndE qk fun fl1 O₂ e2 qk=>Ex.toks (hbd F1 R1 e2) p₁ fun f s₂ g₂ p₂ t₂ R2 hf=>?_;have t':=tk.trans (t₁.none.trans t₂);cases fl1 with
   | next fr₂=>obtain ⟨rfl,F2⟩:=hf;exact ⟨m,Nat.lt_succ_self _,g₂,O₂,fr₂,p₂,t',R2,F2,qk⟩
   | ret v=>obtain ⟨u,rfl,hu⟩:=hf;cases qk;exact qq _ _ _ t' R2 ⟨u,rfl,hu⟩
noncomputable def Wi(env:Env)(I:Addr):Addr->Prop:=fun b=>Wf env b\/b=I
noncomputable def ForI(C:Cx)(env:Env)(lp:Nat->Nat->Fr->M Fl)(o:V)(uo:Value)(I:Addr)(fl:Fl)(O':Store)(g:Gh)(s:Shared)(m:Nat)(sk:Shared):Prop :=
 ∃ gk Ok k frk,0 < sk.toks/\Tr (Wi env I) g s gk sk/\Rel C gk Ok sk.heap/\FR gk sk.heap env frk/\gk.Z I/\¬ gk.St I/\ItAt sk.heap I o uo k/\lp m k frk Ok=some (fl,O')
theorem Un9{I:Addr}{h':Heap}{tk:Nat}{w:V}{u:Value}(R:Rel C g O s.heap)(F:FR g s.heap env fr)(zI:g.Z I)(sI:¬ g.St I)(wI:¬ Wf env I)(hwu:VR g s.heap w u)(sb:Heap.SameBut I s.heap h')(l:h'.get? I≠none) :
  Tr (Wi env I) g s g { s with heap:=h',toks:=tk }/\Rel C g O h'/\FR g h' env fr/\VR g h' w u:=by
 have own:∀ b,b=I->g.Z b/\¬ g.St b:=fun b e=>by cases e;exact ⟨zI,sI⟩
 refine xAA (R.write1 (W:=fun b=>b=I) (s':={ s with heap:=h',toks:=tk }) own (a:=I) rfl sb l rfl rfl) fun ti Ri=>?_;exact ⟨ti.weak fun b w0 e=>.inr e,Ri,F.trW R ti (fun b e=>(own b e).1) fun a q e=>by cases e;exact wI q,VR.tr ti R.st (fun b e=>(own b e).1) w hwu⟩
set_option tactic.hygienic true in
theorem Usa{x:Str}{px:Pos}{body:List Stmt}{sv:V->Fr->M Fr}{bd:Fr->M Fl}{o:V}{uo:Value}{I:Addr}{fl:Fl}{Rr:Result->Shared->Prop}(hh:A.handled=none)(hsv:SvOk C A env x sv)(hbd:BdOk C A env body bd)
  (wI:¬ Wf env I) (ho:VR g s.heap o uo) (hs:∀ b,g.St b->g.Z b) (hW:∀ b,Wi env I b->g.Z b) (r1:∀ g' s' f,Tr (Wi env I) g s g' s'->Rel C g' O' s'.heap->FlR g' s'.heap env fl f->Rr (.ok f) s')
  (r2:∀ gk sk fr h',Tr (Wi env I) g s gk sk->Rel C gk O' sk.heap->FR gk sk.heap env fr->gk.Z I->¬ gk.St I->fl=.next fr->Heap.ExtBut I sk.heap h'->Rr (.ok .next) { sk with heap:=h' })
  (m:Nat) (h:ForI C env (loopF o sv bd) o uo I fl O' g s m s):codeAny (model C.prog C.w) A (.forLoop (.Name x px) (.ref I) body [] env) Rr s:=by
 refine codeAny_forLoop (ForI C env (loopF o sv bd) o uo I fl O' g s) (fun m sk hI=>?_) m h;refine xEEEEAAAAAAAA hI fun gk Ok k frk pk tk Rk Fk zI sI hitk qk=>?_;clear hI h;cases m with
 | zero=>exact (Uaa qk).elim
 | succ m =>
  refine bndL qk fun r e2 qk=>wpAny_mono (wpAny_toks_of pk (Upe hh Rk (VR.tr tk hs hW o ho) hitk e2 (fun r s₁=>0 < s₁.toks->_) _ (fun w u h' tk' hr hwu hit' sb p'=>?_) fun h' hr hb p'=>?_)) (fun w0 w0 x=>x.2 x.1) fun w0 w0 x=>x.2
  ·cases hr;refine xAAAA (Un9 (tk:=tk') Rk Fk zI sI wI hwu sb hit'.live) fun ta Ra Fa hwa=>bndE qk fun fr₂ O₂ e3 qk=>bndE qk fun fl1 O₃ e4 qk=>?_;dsimp only;rw [arm_assign_Name];refine wpAny_bind (wpAny_standAt (wpAny_bindName (Ex.toks (hsv (s:={ sk with heap:=h',toks:=tk' }) Fa Ra hwa e3) p' fun w0 s₂ g₂ p₂ t2' R2' F2'=>?_)));refine Ex.toks (hbd F2' R2' e4) p₂ fun f s₃ g₃ p₃ t₃ R3 hf=>?_;have tw:=t2'.trans t₃;have t':=tk.trans (ta.trans (tw.weak fun b w0 w=>.inl w));cases fl1 with
   | next fr3 =>
    obtain ⟨rfl,F3⟩:=hf;exact ⟨m,Nat.lt_succ_self _,g₃,O₃,k+1,fr3,p₃,t',R3,F3,tw.zk _ zI,tw.notSt hit'.live sI wI,hit'.keep fun ob' e=>tw.keep I ob' e sI wI,qk⟩
   | ret v =>
    obtain ⟨u',rfl,hu'⟩:=hf;cases qk;exact r1 _ _ _ t' R3 ⟨u',rfl,hu'⟩
  ·cases hr;cases qk;skip;rw [arm_execs_nil];exact wpAny_pure (r2 gk sk frk h' tk Rk Fk zI sI rfl hb)
theorem Uoa{o:V}{uo:Value}{ob:Obj}(R:Rel C g O s.heap)(ho:VR g s.heap o uo)(hit:ItAt (s.heap.push ob) s.heap.objs.size o uo 0):∃ g₂ s₂ I,{ s with heap:=s.heap.push ob }=s₂/\s.heap.objs.size=I/\Tr (fun w0=>False) g s g₂ s₂/\Rel C g₂ O s₂.heap /\
  VR g₂ s₂.heap o uo/\ItAt s₂.heap I o uo 0/\g₂.Z I/\¬ g₂.St I/\s.heap.get? I=none:=by
 have d:=Ubs s.heap;refine xAA (R.zadd (s':={ s with heap:=s.heap.push ob }) (fun a=>a=s.heap.objs.size) (fun b o e=>Heap.get?_push_of_some _ e) (fun a e=>by cases e;exact ⟨d,hit.live,R.low⟩) rfl rfl) fun t₂ R2=>?_;exact ⟨_,_,_,rfl,rfl,t₂,R2,VR.tr' ho R t₂,hit,.inr rfl,fun z=>R.zh _ (R.st _ z) d,d⟩
theorem for_ok(hh:A.handled=none)(ev:EvOk C A cl n){iter:Expr}{x:Str}{px pos:Pos}{body:List Stmt}{sv:V->Fr->M Fr}{bd:Fr->M Fl}{fl:Fl}{m:Nat}{o:V}(hsv:SvOk C A env x sv)(hbd:BdOk C A env body bd)(S:ES sc env)(F:FR g s.heap env fr)(R:Rel C g O s.heap)
  (ns:notSet iter=true) (e1:evalE C.P cl n sc fr iter O=some (o,O₁)) (q:loopF o sv bd m 0 fr O₁=some (fl,O')) :
  Ex C A (Wf env) (exec (.For (.Name x px) iter body [] pos) env) g O' s fun g' h' f=>FlR g' h' env fl f:=by
 have hs:∀ y,foldedSetIterable iter env y=pure y:=fun y=>by cases iter <;> first | rfl | cases ns
 intro pt Q E qq;refine wpAny_For (Ev.toks (ev.ev sc fr iter env g O O₁ s o S F R e1) pt fun uo s₁ g₁ p₁ t₁ R1 huo=>?_) hs;have F1:=F.tr R t₁;have hdraw:∃ k r,drawV o k O₁=some r:=by
  cases m with
  | zero=>exact (Uaa q).elim
  | succ m=>exact bndL q fun r e w0=>⟨0,r,e⟩
 refine Upb R1 huo hdraw _ _ fun ob hit w0=>xEEEAAAAAAAAA (Uoa R1 huo hit) fun g₂ s₂ I e1 e2 t₂ R2 ho hit zI nst dI=>?_;rw [e1,e2];have F2:=F1.tr R1 t₂;have p₂:0 < s₂.toks:=e1▸p₁;have wI:¬ Wf env I:=F1.dead R1 dI;have dI':s.heap.get? I=none:=t₁.dead (fun f=>f) dI;have fin:∀ {g':Gh} {s':Shared},Tr (Wi env I) g₂ s₂ g' s'->Tr (Wf env) g s g' s':=fun {g' s'} t =>
  (t₁.none.trans (t₂.none.trans t)).weak (W':=Wf env) fun b l w=>w.elim id fun e=>by cases e;exact absurd dI' l
 exact Usa hh hsv hbd wI ho R2.st (fun b w=>w.elim (fun w=>(F2.own b w).1) fun e=>by cases e;exact zI) (fun g' s' f t Rf hf=>qq _ _ _ (fin t) Rf hf)
  (fun gk sk fr h' t Rk Fk zk sk' e hb=>xAAA (Uiv (k:=sk.toks) (hh:=h') (fin t) R Rk zk sk' dI' wI hb) fun t Rf kp=>qq _ _ _ t Rf (by cases e;exact ⟨rfl,Fk.giveUp kp wI hb⟩))
  m ⟨g₂,O₁,0,fr,p₂,Tr.refl _ _ _,R2,F2,zI,nst,hit,q⟩
theorem aug_ok(Fa:Facts C)(cf:CF C)(ev:EvOk C A cl n){o e:Expr}{x:Str}{tp p:Pos}{op:Operator}{fl:Fl}(S:ES sc env)(F:FR g s.heap env fr)(R:Rel C g O s.heap)
  (q:bnd (evalE C.P cl n sc fr o) (fun ov=>bnd (attrV C.P ov x) fun a=>bnd (evalE C.P cl n sc fr e) fun b=>bnd (look (augV op a b)) fun v=>bnd (setAttrV C.P ov x v) fun w0=>ret (.next fr)) O=some (fl,O')) :
  Ex C A (Wf env) (exec (.AugAssign (.Attribute o x tp) op e p) env) g O' s fun g' h' f=>FlR g' h' env fl f:=bndE q fun ov O₁ e1 q=>bndE q fun a O₂ e2 q=>bndE q fun b O₃ e3 q=>bndL q fun v e4 q=>bndE q fun w0 O₅ e5 q=>by
 cases q;rw [arm_exec_AugAssign_2];refine Ex.at_ (Ex.bindE (ev.ev sc fr o env g O O₁ s ov S F R e1) fun uo s₁ g₁ t₁ R1 huo=>?_);have F1:=F.tr R t₁;have new:Ev C A (do standAt tp.atName;let old <- getAttr uo x true;let v <- holding [old] (eval e env);standAt p;operate [old,v] (inplaceOp op old v)) g₁ O₃ s₁ (fun g' h' u=>VR g' h' v u):=by
  refine Ev.at_ (Ev.bind (Ulr Fa cf R1 huo e2) fun ua s₂ g₂ t₂ R2 hua=>Ev.bind (Ev.hold (ev.ev sc fr e env g₂ O₂ O₃ s₂ b S (F1.tr R1 t₂) R2 e3)) fun ub s₃ g₃ t₃ R3 hub=>Ev.at_ (Ev.oper ?_));cases op with
  | Sub=>exact ob2S e4 fun x y q1 q2 e=>int2 (T:=fun u w=>EvV C A (inplaceOp .Sub u w) g₃ O₃ s₃ v) q1 q2 (hua.tr' R2 t₃) hub fun t t'=>Ev.same R3 fun Q E q=>PySem.P.isub_int (q _ _ (VR.oInt e))
  | _=>exact (Uaa e4).elim
 refine Ex.bindE (Ev.hold new) fun uv s₂ g₂ t₂ R2 huv=>Ex.at_ (Ex.bindE (Ev.hold (Ugf Fa cf R2 (huo.tr' R1 t₂) huv e5)) fun w0 s₃ g₃ t₃ R3 w0=>?_);exact Ex.rel (Ex.ret R3 ⟨rfl,(F1.tr R1 t₂).tr R2 t₃⟩)
theorem Usp(Fa:Facts C)(cf:CF C)(hh:A.handled=none)(ev:∀ m,EvOk C A cl m)(ih:StOk C A cl sc n){t:Stmt}{fl:Fl}(S:ES sc env)(F:FR g s.heap env fr)(R:Rel C g O s.heap)
  (q:execS C.P cl sc (n+1) fr t O=some (fl,O')):Ex C A (Wf env) (exec t env) g O' s fun g' h' f=>FlR g' h' env fl f:=by
 have hbd:∀ body,BdOk C A env body fun fr=>execSs C.P cl sc n fr body:=fun body {g O O' s fr fl} F R q=>ih.sts fr body env g O O' s fl S F R q;cases t with
 | Expr e p =>
  refine iteM q fun hn q=>bndE q fun v O₁ e1 q=>?_;cases q;intro pt Q E qq;refine wpAny_Expr_any ?_ (by delta interactive;rw [F.kind];rfl) (Uf9 hn);exact Ev.toks ((ev n).ev sc fr e env g O _ s v S F R e1) pt fun w0 s₁ g₁ p₁ t₁ R1 w0=>qq _ _ _ t₁.none R1 ⟨rfl,F.tr R t₁⟩
 | Pass p =>
  cases q;rw [arm_exec_Pass];exact Ex.at_ (Ex.ret R ⟨rfl,F⟩)
 | Return e p =>
  rw [arm_exec_Return];cases e with
  | some e =>
   refine bndE q fun v O₁ e1 q=>?_;cases q;refine Ex.at_ (Ex.of_eq (t':=eval e env >>= fun x=>pure (Flow.ret x)) rfl ?_);exact Ex.bindE ((ev n).ev sc fr e env g O _ s v S F R e1) fun u s₁ g₁ t₁ R1 hu=>Ex.ret R1 ⟨u,rfl,hu⟩
  | none =>
   cases q;exact Ex.at_ (Ex.of_eq (t':=pure (Flow.ret .none)) rfl (Ex.ret R ⟨.none,rfl,rfl⟩))
 | Assign ts e p =>
  rcases Unv ts with ⟨ts,k,tp,rfl⟩ | ⟨t,rfl,ht⟩ | hb
  ·refine iteM q fun hc q=>bndE q fun v O₁ e1 q=>bndO q fun vs e2 q=>bndE q fun fr' O₃ e3 q=>?_;cases q;have hc:=Bool.and_eq_true_iff.mp hc;have hd:=Bool.and_eq_true_iff.mp hc.1;exact Urr Fa cf hh ev S F R hd.1 hd.2 e1 e2 e3
  ·refine bndE (Uua ht q) fun v O₁ e1 q=>bndE q fun fr' O₂ e2 q=>?_;cases q;exact Ul1 Fa cf hh ev S F R e1 e2
  ·exact (Usq hb q).elim
 | AugAssign t op e p =>
  refine obM q fun z hz q1=>xEA (Urv hz) fun tp e=>?_;subst e;exact aug_ok Fa cf (ev n) S F R q1
 | If t a b p =>
  refine bndE q fun c O₁ e1 q=>?_;rw [arm_exec_If];refine Ex.at_ (Ex.bindE ((ev n).test sc fr t env g O O₁ s c S F R e1) fun c' s₁ g₁ t₁ R1 hc=>?_);subst hc;cases c' with
  | true=>exact hbd a (F.tr R t₁) R1 q
  | false=>exact hbd b (F.tr R t₁) R1 q
 | While t a b p =>
  cases b with
  | nil=>exact Ul9 (fun {g O O' s fr b} F R q=>(ev n).test sc fr t env g O O' s b S F R q) (hbd a) F R q
  | cons _ _=>exact (Uaa q).elim
 | For t it a b p =>
  refine obM q fun x hx q1=>xEAA (Urs hx) fun xp e e2=>iteM q1 fun hn q2=>bndE q2 fun o O₁ e1 q3=>?_;subst e;subst e2;exact for_ok hh (ev n) (fun {g O O' s fr fr' v u} F R hv q=>Ug9 S F R hv q) (hbd a) S F R hn e1 q3
 | _=>exact (Uaa q).elim
theorem st_all(Fa:Facts C)(cf:CF C)(hh:A.handled=none)(ev:∀ m,EvOk C A cl m):∀ n,StOk C A cl sc n
 | 0=>⟨fun fr t env g O O' s fl S F R q=>(Uaa q).elim,fun fr t env g O O' s fl S F R q=>(Uaa q).elim⟩
 | n+1=>⟨fun w0 w0 w0 w0 w0 w0 w0 w0 S F R q=>Usp Fa cf hh ev (st_all Fa cf hh ev n) S F R q,fun w0 w0 w0 w0 w0 w0 w0 w0 S F R q=>Uqn (st_all Fa cf hh ev n) S F R q⟩
theorem ev_all(Fa:Facts C)(cf:CF C)(Ro:Room A d)(co:CallOk C A cl):∀ n,EvOk C A cl n
 | 0=>Us2
 | n+1=>Utm Fa cf Ro co (ev_all Fa cf Ro co n) (Ut3 Ro.handled (ev_all Fa cf Ro co n))
end
noncomputable def fdAt(K:Frag)(a:Addr):Option FuncData:=match K.lookup a with
 | some ⟨_,_,.func fd,_⟩=>some fd
 | _=>none
noncomputable def isStmts:FuncBody->Bool
 | .stmts _=>true
 | _=>false
noncomputable def stmtsOf:FuncBody->List Stmt
 | .stmts b=>b
 | _=>[]
noncomputable def argNames(fd:FuncData):List Str:=fd.params.args.map (·.arg)
noncomputable def fnAt(K:Frag)(ds:List V)(a:Addr):Fn:=match fdAt K a with
 | some fd=>⟨argNames fd,ds,stmtsOf fd.body,fd.scope⟩
 | none=>⟨[],[],[],⟨.function,[],false,false,[]⟩⟩
noncomputable def fdOk(K:Frag)(fd:FuncData):Bool :=
 isStmts fd.body&&fd.closure.isEmpty&&fd.globals==mainGlobals&&fd.builtins==builtinsNs&&codeIn K fd.code fd.qualname&&fd.params.posonlyargs.isEmpty&&fd.params.kwonlyargs.isEmpty&&fd.params.vararg.isNone&&fd.params.kwarg.isNone &&
 nodupB (argNames fd)&&!fd.scope.isCoroutine&&!fd.scope.isGenerator&&fd.scope.kind==.function &&
 fd.scope.names.all (fun p=>p.1 != Qdf&&p.1 != Qdg) &&
 (argNames fd).all (fun x=>match fd.scope.names.lookup x with | some .local=>true | some .cell=>true | _=>false)
noncomputable def Binds(K:Frag)(fd:FuncData)(ds:List V):Prop:=(fd.defaults=.none/\ds=[]) \/
 ∃ x t,ds=[.str x]/\sOk x=true/\x.length<=lim/\(∀ us:List Value,us.length=(argNames fd).length->∀ S,peek K S (bindArgs fd ⟨us,[]⟩)=some ((argNames fd).zip us)) /\
  (∀ us:List Value,us.length+1=(argNames fd).length->∀ S,peek K S (bindArgs fd ⟨us,[]⟩)=some ((argNames fd).zip (us++[.str x t])))
structure FnIn(K:Frag)(a:Addr)(f:Fn):Prop where
 ex:∃ fd,fdAt K a=some fd/\fdOk K fd=true/\fd.body=.stmts f.body/\fd.scope=f.scope/\argNames fd=f.params/\Binds K fd f.dflts
theorem FnIn.of{K:Frag}{a:Addr}{ds:List V}(h:(fdAt K a).any (fdOk K)=true)(hb:∀ fd,fdAt K a=some fd->Binds K fd ds):FnIn K a (fnAt K ds a):=by
 cases e:fdAt K a with
 | none=>rw [e] at h;cases h
 | some fd =>
  rw [e] at h;have h:fdOk K fd=true:=h;refine ⟨fd,e,h,?_,?_,?_,?_⟩
  ·delta fnAt;rw [e];delta fdOk at h;simp only [Bool.and_eq_true] at h;have:isStmts fd.body=true:=by rw [h.1.1.1.1.1.1.1.1.1.1.1.1.1.1]
   cases hb:fd.body with
   | stmts b=>simp [stmtsOf,hb]
   | _=>rw [hb] at this;cases this
  ·delta fnAt;rw [e]
  ·delta fnAt;rw [e]
  ·delta fnAt;rw [e];exact hb fd e
theorem Uif:∀ {ps:List Str} {vs:List Value},vs.length=ps.length->ps.Nodup->(∀ n ∈ ps,((ps.zip vs).lookup n).isSome=true)/\ps.filterMap (fun n=>((ps.zip vs).lookup n).map (n,·))=ps.zip vs
 | [],[],_,_=>by simp
 | p::ps,v::vs,hl,hn=>by
  rw [List.nodup_cons] at hn;refine xAA (Uif (ps:=ps) (vs:=vs) (by simpa using hl) hn.2) fun a b=>?_;have ne:∀ n ∈ ps,(n==p)=false:=fun n hm=>beq_eq_false_iff_ne.mpr fun e=>hn.1 (e▸hm);constructor
  ·intro n hm;rw [List.zip_cons_cons,List.lookup_cons];rcases List.mem_cons.mp hm with rfl | hm
   ·simp
   ·rw [ne n hm];exact a n hm
  ·rw [List.zip_cons_cons,List.filterMap_cons];simp only [List.lookup_cons,beq_self_eq_true,Option.map_some]
   congr 1
   have go:∀ l:List Str,(∀ n ∈ l,(n==p)=false)->l.filterMap (fun n=>(match n==p with | true=>some v | false=>(ps.zip vs).lookup n).map (n,·))=l.filterMap (fun n=>((ps.zip vs).lookup n).map (n,·)):=by
    intro l hl;induction l with
    | nil=>rfl
    | cons x l ih=>rw [List.filterMap_cons,List.filterMap_cons,ih (fun n hm=>hl n (List.mem_cons_of_mem _ hm)),hl x List.mem_cons_self]
   exact (go ps ne).trans b
 | [],_::_,hl,_=>by simp at hl
 | _::_,[],hl,_=>by simp at hl
theorem Uto{α:Type}{c:Bool}{l:List Str}{X Y Z W:α}(h:c=false)(h2:l=[])(z:Z=W):(if (c&&true)=true then X else if (!l.isEmpty)=true then Y else Z)=W:=by subst h h2;exact z
theorem Una{fd:FuncData}{vals:List Value}(h1:fd.params.posonlyargs=[])(h2:fd.params.kwonlyargs=[])(h3:fd.params.vararg=none)(h4:fd.params.kwarg=none)(h5:fd.defaults=.none)
  (hl:vals.length=(fd.params.args.map (·.arg)).length) (hn:(fd.params.args.map (·.arg)).Nodup):bindArgs fd ⟨vals,[]⟩=pure ((fd.params.args.map (·.arg)).zip vals):=by
 obtain ⟨nm,qn,⟨po,ar,va,ko,kd,kw,df⟩,bo,sc,gl,cl,dl,kdl,doc,pm,an,co,ct,bu⟩:=fd;cases h1;cases h2;cases h3;cases h4;cases h5;dsimp only at hl hn ⊢;refine xAA (Uif hl hn) fun a b=>?_;have e1:decide (vals.length > (ar.map (·.arg)).length)=false:=decide_eq_false (Nat.not_lt_of_le (Nat.le_of_eq hl));have e2 (k:Nat):((ar.map (·.arg)).take k).filter (fun n=>(((ar.map (·.arg)).zip vals).lookup n).isNone)=[]:=List.filter_eq_nil_iff.mpr fun n hm=>by
  rw [Option.isNone_eq_false_iff.mpr (a n (List.mem_of_mem_take hm))];exact Bool.false_ne_true
 refine Uto (α:=Sem (List (Str×Value))) e1 (e2 _) ?_;dsimp only [Option.getD_none,List.map_nil,List.nil_append];simp only [List.drop_nil,List.zip_nil_right,List.forIn_nil,pure_bind];exact congrArg Sem.pure ((congrArg (List.filterMap (fun n=>Option.map (fun x=>(n,x)) (List.lookup n ((ar.map (·.arg)).zip vals)))) (List.append_nil (ar.map (·.arg)))).trans b)
set_option tactic.hygienic true in
theorem Uft:∀ {ps:List Str} {vs:List V} {ds:List V} {fr:Fr},bindP ps vs ds=some fr->ds=[]\/(∃ d,ds=[d])->(vs.length=ps.length/\fr=ps.zip vs)\/∃ d,ds=[d]/\vs.length+1=ps.length/\fr=ps.zip (vs++[d])
 | [],[],ds,fr,e,_=>by rw [bindP] at e;cases e;exact .inl ⟨rfl,rfl⟩
 | p::ps,v::vs,ds,fr,e,hd=>by
  rw [bindP] at e;split at e
  ·rename_i fr' q;cases e;rcases Uft q hd with ⟨a,rfl⟩ | ⟨d,a,b,rfl⟩
   ·exact .inl ⟨by simp [a],rfl⟩
   ·exact .inr ⟨d,a,by dsimp only [List.length_cons];exact Nat.add_left_inj.mpr b,rfl⟩
  ·cases e
 | p::ps,[],ds,fr,e,hd=>by
  rw [bindP] at e;rcases hd with rfl | ⟨d,rfl⟩
  ·simp at e
  ·have:([d]:List V).drop ([d].length - (ps.length+1))=[d]:=by
    have:[d].length - (ps.length+1)=0:=by simp
    rw [this];rfl
   rw [this] at e;dsimp only at e;split at e
   ·rename_i hl;have:ps=[]:=by
     cases ps with
     | nil=>rfl
     | cons=>dsimp only [List.length_cons,List.length_nil] at hl;omega
    subst this;rw [bindP] at e;cases e;exact .inr ⟨d,rfl,rfl,rfl⟩
   ·cases e
 | [],_::_,ds,fr,e,_=>by rw [bindP] at e;cases e
theorem Uff{kind:Str->Option NameKind}{g:Gh}{h:Heap}:∀ {ps:List Str} {vs:List V} {us:List Value} {m:Str->Option Value},VRs g h vs us->vs.length=ps.length->ps.Nodup->∀ x v,lk x (ps.zip vs)=some v ->
  ∃ u,VR g h v u/\(kind x=some .local->bindL kind (ps.zip us) m x=some u)/\(¬ kind x=some .local->∀ cm,bindC kind (ps.zip us) cm x=some u)
 | [],[],us,m,hv,_,_,x,v,e=>by simp [lk] at e
 | p::ps,w::vs,us,m,hv,hl,hn,x,v,e=>by
  dsimp only [VRs] at hv;refine xEEAAA hv fun u r qz1 hu hr=>?_;subst qz1;rw [List.nodup_cons] at hn;have stay:∀ {us:List Value} {m:Str->Option Value} {ps:List Str},¬ p ∈ ps->bindL kind (ps.zip us) m p=m p/\∀ cm,bindC kind (ps.zip us) cm p=cm p:=by
   intro us m ps;induction ps generalizing us m with
   | nil=>intro _;exact ⟨rfl,fun w0=>rfl⟩
   | cons q ps ih =>
    intro hm;cases us with
    | nil=>exact ⟨rfl,fun w0=>rfl⟩
    | cons y us =>
     have hq:¬ p=q:=fun e=>hm (e▸List.mem_cons_self);have hp:¬ p ∈ ps:=fun e=>hm (List.mem_cons_of_mem _ e);rw [List.zip_cons_cons];unfold bindL bindC;refine ⟨?_,fun cm=>?_⟩
     ·rw [(ih hp).1];split
      ·exact if_neg hq
      ·rfl
     ·rw [(ih (m:=m) hp).2];split
      ·rfl
      ·exact if_neg hq
  rw [List.zip_cons_cons] at e
  by_cases q:p=x
  ·subst q;simp only [lk,beq_self_eq_true,if_true,Option.some.injEq] at e;subst e;refine ⟨u,hu,fun k=>?_,fun k cm=>?_⟩
   ·rw [List.zip_cons_cons];unfold bindL;rw [(stay hn.1).1,if_pos k,if_pos rfl]
   ·rw [List.zip_cons_cons];unfold bindC;rw [(stay (m:=m) hn.1).2,if_neg k,if_pos rfl]
  ·have e2:(p==x)=false:=beq_eq_false_iff_ne.mpr q;simp only [lk,e2,Bool.false_eq_true,if_false] at e;refine xEAAA (Uff (kind:=kind) (m:=if kind p=some .local then (fun y=>if y=p then some u else m y) else m) hr (by simpa using hl) hn.2 x v e) fun u' a b c=>?_;refine ⟨u',a,fun k=>?_,fun k cm=>?_⟩
   ·rw [List.zip_cons_cons];unfold bindL;exact b k
   ·rw [List.zip_cons_cons];unfold bindC;exact c k _
 | [],_::_,_,_,_,hl,_,_,_,_=>by simp at hl
 | _::_,[],_,_,_,hl,_,_,_,_=>by simp at hl
set_option tactic.hygienic true in
theorem Ua2:∀ {l:List (Str×NameKind)} {n:Nat} {acc:List (Str×Addr)} {x:Str},((x,NameKind.cell) ∈ l\/(acc.lookup x).isSome=true)->((cellsFrom n l acc).lookup x).isSome=true
 | [],n,acc,x,h=>by
  rcases h with h | h
  ·cases h
  ·exact h
 | (y,k)::r,n,acc,x,h=>by
  unfold cellsFrom;split
  ·rename_i hk;refine Ua2 ?_;rcases h with h | h
   ·rcases List.mem_cons.mp h with e | h
    ·cases e;right;simp
    ·exact .inl h
   ·right
    rw [List.lookup_cons];split
    ·rfl
    ·exact h
  ·rename_i hk;refine Ua2 ?_;rcases h with h | h
   ·rcases List.mem_cons.mp h with e | h
    ·cases e;simp at hk
    ·exact .inl h
   ·exact .inr h
section
variable {C:Cx}{A:Around}{g g':Gh}{O O₁ O':Store}{s s':Shared}{d:Nat}
noncomputable abbrev FF(C:Cx):Prop:=∀ a f,lkN a C.P.fns=some f->FnIn C.K a f
theorem Ulk{h:Heap}{a:Addr}(e:h.objs.size<=a):h.get? a=none:=by
 cases q:h.get? a with
 | none=>rfl
 | some o=>exact absurd (Heap.lt_size q) (Nat.not_lt.mpr e)
set_option tactic.hygienic true in
theorem Ukj{K:Frag}{a:Addr}{fd:FuncData}(e:fdAt K a=some fd):∃ c d sl,K.lookup a=some ⟨c,d,.func fd,sl⟩:=by
 delta fdAt at e;split at e
 ·rename_i h;cases e;exact ⟨_,_,_,h⟩
 ·cases e
set_option tactic.hygienic true in
theorem Ups(Fa:Facts C)(cf:CF C)(ff:FF C)(hd:A.depth < recursionLimit)(hh:A.handled=none)(Ro:∀ env,Room (A.deeper env) d)(co:∀ env,CallOk C (A.deeper env) (callD C.P d))
  {a:Addr} {args:List V} {us:List Value} {v:V} (R:Rel C g O s.heap) (hv:VRs g s.heap args us) (e:callD C.P (d+1) a args O=some (v,O')) (pt:0 < s.toks) {RR:Result->Shared->Prop}
  (fin:∀ u s' g',Tr (fun w0=>False) g s g' s'->Rel C g' O' s'.heap->VR g' s'.heap v u->RR (.ok (.ret u)) s'):codeAny (model C.prog C.w) A (.call (.ref a) ⟨us,[]⟩) RR s:=by
 rw [callD] at e;obtain ⟨f,hf⟩:∃ f,lkN a C.P.fns=some f:=by
  cases hf:lkN a C.P.fns with
  | none=>rw [hf] at e;exact (Uaa e).elim
  | some f=>exact ⟨f,rfl⟩
 rw [hf] at e;dsimp only at e;obtain ⟨fr,hfr⟩:∃ fr,bindP f.params args f.dflts=some fr:=by
  cases hf:bindP f.params args f.dflts with
  | none=>rw [hf] at e;exact (Uaa e).elim
  | some f=>exact ⟨f,rfl⟩
 rw [hfr] at e;dsimp only at e;refine bndE e fun fl O₁ e1 e=>?_;refine xEAAAAAA ((ff a f hf).ex) fun fd hfd ok hbody hsc hps hbd=>?_;refine xEEEA (Ukj hfd) fun oc od sl hlook=>?_;have X:=Fa.here R;unfold fdOk at ok;simp only [Bool.and_eq_true,beq_iff_eq,Bool.not_eq_true',List.isEmpty_iff,Option.isNone_iff_eq_none,List.all_eq_true] at ok;refine xAA ok fun qz1 hpa=>?_;obtain ⟨⟨⟨⟨⟨⟨⟨⟨⟨⟨⟨⟨⟨_,hclo⟩,hgl⟩,hbi⟩,hcode⟩,hpo⟩,hko⟩,hva⟩,hkw⟩,hnd⟩,hco⟩,hge⟩,hki⟩,hdb⟩:=qz1;have hnd':(argNames fd).Nodup:=Ui1 hnd;obtain ⟨vs',us',rfl,hvs,hlen,hbind⟩:∃ vs' us',fr=(argNames fd).zip vs'/\VRs g s.heap vs' us'/\vs'.length=(argNames fd).length/\BindsTo s fd ⟨us,[]⟩ ((argNames fd).zip us'):=by
  rw [<- hps] at hfr;have hul:=hv.len;rcases hbd with ⟨b1,b2⟩ | ⟨x,t,b2,b3,b4,b5,b6⟩
  ·rw [b2] at hfr;rcases Uft hfr (.inl rfl) with ⟨l,rfl⟩ | ⟨d,z,_⟩
   ·refine ⟨args,us,rfl,hv,l,BindsTo.of_eq (Una hpo hko hva hkw b1 (by rw [hul];exact l) hnd')⟩
   ·cases z
  ·rw [b2] at hfr;rcases Uft hfr (.inr ⟨_,rfl⟩) with ⟨l,rfl⟩ | ⟨d,z,l,rfl⟩
   ·exact ⟨args,us,rfl,hv,l,fun M w0 w0 w0 q=>(Looks.of_peek (M:=M) X (b5 us (by rw [hul];exact l) _)).here q⟩
   ·cases z;exact ⟨args++[.str x],us++[.str x t],rfl,VRs.app hv (VRs.one (VR.mkStr b3 b4)),by simp [l],fun M w0 w0 w0 q=>(Looks.of_peek (M:=M) X (b6 us (by rw [hul];exact l) _)).here q⟩
 refine xAA (Ung (l:=argNames fd) (vs:=vs') hlen) fun z1 z2=>?_;have hlu:us'.length=(argNames fd).length:=by rw [hvs.len];exact hlen
 have hkind:∀ x ∈ (argNames fd).zip us',fd.scope.names.lookup x.1=some .local\/(fd.scope.names.lookup x.1=some .cell/\((cellsFrom (s.heap.objs.size+1) fd.scope.names []).lookup x.1).isSome=true):=fun x hx=>by
  have hm:x.1 ∈ argNames fd:=(List.of_mem_zip hx).1;have:=hpa _ hm;split at this
  ·rename_i q;exact .inl q
  ·rename_i q;exact .inr ⟨q,Ua2 (.inl (mem_of_lookup q))⟩
  ·cases this
 refine codeAny_call_function hd (X _ _ hlook) rfl hco hge hbody (codeRec_of X hcode) (hbind _ _ _ _ ?_);rw [hclo];refine wpAny_mono (wpAny_toks_of pt (wpAny_newFunctionEnv_cells (Q:=fun env s₂=>0 < s₂.toks->s₂.heap.NoLimit/\codeAny (model C.prog C.w) A (.func f.body env) RR s₂) hki hkind fun env he s₂ x p₂=>?_)) (fun w0 w0 x=>x.2 x.1) fun w0 w0 x=>x.2;refine ⟨(R.room Fa).keeps x.toInCall.keep,codeAny_func ?_⟩;have hes:env.scope=fd.scope:=by rw [he];rfl
 have heg:env.globals=mainGlobals:=by rw [he];exact hgl
 have heb:env.builtins=builtinsNs:=by rw [he];exact hbi
 have hec:env.cells=cellsFrom (s.heap.objs.size+1) fd.scope.names []:=by rw [he];rfl
 have hel:env.locals=s.heap.objs.size:=by rw [he];rfl
 refine xEEA x.toInCall.same fun h₂ tk qz1=>?_;subst qz1;have dead:∀ b,Wf env b->s.heap.get? b=none:=fun b w=>by
  rcases w with rfl | ⟨n,w⟩
  ·exact Ulk (Nat.le_of_eq hel.symm)
  ·have:=x.above n b (mem_of_lookup w);rw [hel] at this;exact Ulk (Nat.le_of_lt this)
 obtain ⟨t0,R0⟩:=R.zadd (s':={ s with heap:=h₂,toks:=tk }) (Wf env) x.toInCall.keep (fun b w=>⟨dead b w,by
  rcases w with rfl | ⟨n,w⟩
  ·refine xEEEAA x.toInCall.ns fun w0 w0 w0 q w0=>?_;exact Uak q
  ·refine xEAA (x.cell n b w) fun w0 q w0=>?_;exact Uak q,by
  rcases w with rfl | ⟨n,w⟩
  ·rw [hel];exact R.low
  ·have:=x.above n b (mem_of_lookup w);rw [hel] at this;exact Nat.lt_trans R.low this⟩) rfl rfl
 have nst:∀ b,Wf env b->¬ (g.zadd (Wf env)).St b:=fun b w z=>R.zh b (R.st b z) (dead b w);have hvs':VRs (g.zadd (Wf env)) h₂ vs' us':=VRs.tr' hvs R t0;have S:ES f.scope env:=by
  rw [<- hsc,<- hes];exact ⟨fun w0 h=>h,fun w0 h=>h,fun w0 h=>h⟩
 have F:FR (g.zadd (Wf env)) h₂ env ((argNames fd).zip vs'):=by
  refine ⟨by rw [hes];exact hki,heg,heb,fun p hp=>?_,.inr (.inl rfl),nst _ (.inl rfl),⟨_,x.toInCall.ns,fun y w hy hk=>?_⟩,fun y w hy=>?_,fun y c hc=>?_,fun y hy=>?_,fun y z c h1 h2=>?_⟩
  ·rw [hes] at hp;have:=hdb p hp;simp only [bne_iff_ne,ne_eq] at this;exact ⟨beq_eq_false_iff_ne.mpr this.1,beq_eq_false_iff_ne.mpr this.2⟩
  ·refine xEAAA (Uff (kind:=env.kindOf) (m:=fun w0=>none) hvs' hlen hnd' y w hy) fun u a b w0=>?_;exact ⟨u,b hk,a⟩
  ·by_cases hk:env.kindOf y=some .local
   ·exact .inl hk
   ·refine xEAAA (Uff (kind:=env.kindOf) (m:=fun w0=>none) hvs' hlen hnd' y w hy) fun u a w0 b=>?_;have hm:y ∈ argNames fd:=by rw [<- z1];exact List.mem_map.mpr ⟨_,lk_mem hy,rfl⟩
    have:=hpa _ hm;have hk':fd.scope.names.lookup y=some .cell:=by
     have e:env.kindOf y=fd.scope.names.lookup y:=by delta Env.kindOf;rw [hes]
     split at this
     ·rename_i q;rw [e,q] at hk;exact absurd rfl hk
     ·rename_i q;exact q
     ·cases this
    refine xEA (Option.isSome_iff_exists.mp (Ua2 (n:=s.heap.objs.size+1) (acc:=[]) (.inl (mem_of_lookup hk')))) fun c hc=>?_;rw [<- hec] at hc;have:=x.cell y c hc;rw [b hk] at this;refine .inr ⟨.inl (by delta Env.kindOf;rw [hes];exact hk'),c,u,hc,this,a⟩
  ·refine ⟨.inr (.inr ⟨y,hc⟩),nst _ (.inr ⟨y,hc⟩),Nat.ne_of_gt (x.above y c (mem_of_lookup hc)),_,x.cell y c hc⟩
  ·have hk':fd.scope.names.lookup y=some .cell:=by unfold Env.kindOf at hy;rw [hes] at hy;exact hy
   rw [hec];exact Option.isSome_iff_exists.mp (Ua2 (n:=s.heap.objs.size+1) (acc:=[]) (.inl (mem_of_lookup hk')))
  ·exact name_of_addr x.apart (mem_of_lookup h1) (mem_of_lookup h2)
 refine (st_all Fa cf (Ro env).handled (ev_all Fa cf (Ro env) (co env)) 60).sts _ f.body env _ O O₁ _ fl S F R0 e1 p₂ _ _ fun fl' s' g' t R' hfl=>?_;have tt:Tr (fun w0=>False) g s g' s':=(t0.none.trans t).weak fun b l w=>l (dead b w);cases fl with
 | next fr' =>
  refine xAA hfl fun qz1 w0=>?_;subst qz1;cases e;exact fin .none s' g' tt R' (by rfl)
 | ret w =>
  refine xEAA hfl fun u qz1 hu=>?_;subst qz1;cases e;exact fin u s' g' tt R' hu
theorem Usj{K:Frag}{a:Addr}{f:Fn}(h:FnIn K a f):keepIn K (.ref a)=true:=by
 refine xEAA h.ex fun fd hfd w0=>?_;refine xEEEA (Ukj hfd) fun oc od sl hlook=>?_;delta keepIn;dsimp only;rw [hlook]
theorem Uk1(A:Around)(C:Addr)(us:List Value):(A.under (.builtin "type.__call__" ⟨.ref C::us,[]⟩)).units<=A.units+5/\(A.under (.builtin "type.__call__" ⟨.ref C::us,[]⟩)).handled=A.handled:=⟨Nat.add_le_add_left (by show _<=5;exact Nat.le_of_ble_eq_true rfl) _,rfl⟩
set_option tactic.hygienic true in
theorem cls_ok(Fa:Facts C)(cf:CF C)(ff:FF C)(Ro:Room A (d+1))(co:∀ (A':Around) (env:Env),Room (A'.deeper env) d->CallOk C (A'.deeper env) (callD C.P d)){a:Addr}{k:Cls}{args:List V}{us:List Value}{v:V}(hk:lkN a C.P.clss=some k)(R:Rel C g O s.heap)(hv:VRs g s.heap args us)
  (e:applyV C.P (callD C.P (d+1)) (.fn a) args O=some (v,O')):EvV C A (call (.ref a) us) g O' s v:=by
 delta applyV at e;dsimp only at e;rw [hk] at e;dsimp only at e;split at e
 case h_2=>cases e
 rename_i l hl;refine bndE e fun w O₁ e1 e=>?_;split at e
 case h_2=>exact (Uaa e).elim
 cases e;have f:=cf a k hk;have X:=Fa.here R;intro pt Q E q;refine wpAny_call ?_;obtain ⟨hh,gg,dd,t,os⟩:=s;refine make_core (makes_of X f.makes) (looks_findIn X f.init) (fun self=>bind_fn X self f.ifn) (.inl rfl) ?_;have hd:hh.get? hh.objs.size=none:=Ubs hh;have gx:((hh.push emptyDict).push (instObj a hh.objs.size)).get? (hh.objs.size+1)=some (instObj a hh.objs.size):=by
  have:=Heap.get?_push_size (hh.push emptyDict) (o:=instObj a hh.objs.size) rfl;rw [Heap.size_push] at this;exact this
 have gd:((hh.push emptyDict).push (instObj a hh.objs.size)).get? hh.objs.size=some emptyDict:=Heap.get?_push_of_some _ (Heap.get?_push_size _ rfl);obtain ⟨t₁,R1⟩:=R.add (s:=⟨hh,gg,dd,t,os⟩) (s':=⟨(hh.push emptyDict).push (instObj a hh.objs.size),gg,dd,t,os⟩) (r:=k.region) (o:=.inst a []) (a:=hh.objs.size+1) (d:=hh.objs.size) hl
  (fun b ob e=>Heap.get?_push_of_some _ (Heap.get?_push_of_some _ e)) hd (Uak gd) R.low rfl rfl fun t=>by
   refine ⟨gx,fun z=>?_,[],0,gd,by rfl,Nat.zero_le _⟩;rcases z with z | z
   ·have:=R.zh _ z;exact this (Ulk (Nat.le_succ _))
   ·exact absurd z (Nat.succ_ne_self _)
 refine xAA (Uk1 A a us) fun u1 u2=>?_;have u3:(A.under (.builtin "type.__call__" ⟨.ref a::us,[]⟩)).depth=A.depth+1:=depth_under_make A a us;have Ro':∀ env,Room ((A.under (.builtin "type.__call__" ⟨.ref a::us,[]⟩)).deeper env) d:=fun env=>by
  have r1:=Ro.depth;have r2:=Ro.units;refine ⟨Ro.handled,?_,?_⟩
  ·show (A.under (.builtin "type.__call__" ⟨.ref a::us,[]⟩)).depth+1+2*d+2 < 1000;exact om306 u3 r1
  ·show (A.under (.builtin "type.__call__" ⟨.ref a::us,[]⟩)).units+3+8*d+200 < 9900;exact om305 u1 r2
 refine Ups (A:=A.under (.builtin "type.__call__" ⟨.ref a::us,[]⟩)) (s:=⟨(hh.push emptyDict).push (instObj a hh.objs.size),gg,dd,t,os⟩) Fa cf ff (by have:=Ro.depth;rw [u3];show _ < 1000;exact om316 this) Ro.handled Ro' (fun env=>co _ env (Ro' env)) (args:=.ref k.region l.length::args) (us:=.ref (hh.objs.size+1)::us) R1 ?_ e1 pt fun u s' g' t' R' hu=>?_
 ·skip;refine ⟨_,_,rfl,?_,VRs.tr' hv R t₁⟩;skip;exact ⟨_,_,rfl,by show (if _ then _ else _)=_;rw [if_pos ⟨rfl,rfl⟩]⟩
 ·dsimp only [VR] at hu;subst hu;refine ⟨rfl,q _ _ _ (t₁.trans t') R' ?_⟩;skip;exact ⟨_,_,rfl,t'.grow _ _ _ (by show (if _ then _ else _)=_;rw [if_pos ⟨rfl,rfl⟩])⟩
theorem Unh(Fa:Facts C)(cf:CF C)(ff:FF C):∀ (d:Nat) (A:Around),Room A d->CallOk C A (callD C.P d)
 | 0,A,Ro=>by
  refine ⟨fun a args us g O O' s v R hv e=>?_,fun a k args us g O O' s v hk R hv e=>?_,fun a args O r e=>?_⟩
  ·rw [callD] at e;exact (Uaa e).elim
  ·unfold applyV at e;dsimp only at e;rw [hk] at e;dsimp only at e;split at e
   ·refine bndE e fun w O₁ e1 e=>?_;rw [callD] at e1;exact (Uaa e1).elim
   ·cases e
  ·rw [callD] at e;exact (Uaa e).elim
 | d+1,A,Ro=>by
  have co:∀ (A':Around) (env:Env),Room (A'.deeper env) d->CallOk C (A'.deeper env) (callD C.P d):=fun A' env r=>Unh Fa cf ff d _ r;have Ro':∀ env,Room (A.deeper env) d:=fun env=>by
   have r1:=Ro.depth;have r2:=Ro.units;refine ⟨Ro.handled,?_,?_⟩
   ·show A.depth+1+2*d+2 < 1000;exact om318 r1
   ·show A.units+3+8*d+200 < 9900;exact om314 r2
  refine ⟨fun a args us g O O' s v R hv e pt Q E q=>?_,fun a k args us g O O' s v hk R hv e=>cls_ok Fa cf ff Ro co hk R hv e,fun a args O r e=>?_⟩
  ·exact wpAny_call (Ups Fa cf ff (by have:=Ro.depth;show _ < 1000;exact om325 this) Ro.handled Ro' (fun env=>co A env (Ro' env)) R hv e pt fun u s' g' t R' hu=>q _ _ _ t R' hu)
  ·rw [callD] at e;cases hf:lkN a C.P.fns with
   | none=>rw [hf] at e;exact (Uaa e).elim
   | some f=>exact Usj (ff a f hf)
end
noncomputable def globOk(K:Frag)(P:Prog):Bool:=P.globs.all (fun p=>nsIn K mainGlobals p.1==some (some (.ref p.2))) &&
 ([(Y "len"),"ord","chr","range","list","tuple"]:List Str).all fun x=>nsIn K mainGlobals x==some none
theorem lk_all{α:Type}{p:Str×α->Bool}{x:Str}{v:α}{l:List (Str×α)}(h:l.all p=true)(e:lk x l=some v):p (x,v)=true:=List.all_eq_true.mp h _ (lk_mem e)
theorem boots:bootBuiltins "len"=some (.builtin "len")/\bootBuiltins "ord"=some (.builtin "ord")/\bootBuiltins "chr"=some (.builtin "chr")/\bootBuiltins "range"=some (.type "range")/\bootBuiltins "list"=some (.type "list")/\bootBuiltins "tuple"=some (.type "tuple"):=by
 refine ⟨?_,?_,?_,?_,?_,?_⟩ <;> decide +kernel
theorem Uqc{p:Program}{loose:List Str}{mean:ExcName->Option Value}{mg mb:Str->Option Value}{prog:Program}{w:World}{h:Heap}{K:Frag}{P:Prog}(big:∃ b,sysModules < b/\h.get? b≠none)
  (T:Top p loose mean mg mb h) (X:K.In h) (hg:globOk K P=true):Facts ⟨prog,w,h,K,P,big⟩:=by
 delta globOk at hg;rw [Bool.and_eq_true] at hg;refine xAAAAAA boots fun b1 b2 b3 b4 b5 b6=>?_;have nn:∀ x ∈ ([(Y "len"),"ord","chr","range","list","tuple"]:List Str),mg x=none:=fun x hx=>mg_none_of X T.g (beq_iff_eq.mp (List.all_eq_true.mp hg.2 x hx));refine ⟨X,T.nolimit,mg,mb,T.g,T.b,fun x a e=>mg_of X T.g (beq_iff_eq.mp (lk_all hg.1 e)),fun x hx w0=>?_,fun x hx w0=>?_⟩
 ·rcases hx with rfl | rfl | rfl
  ·exact ⟨nn _ (by simp),(T.builtins _ (by decide)).trans (b1.trans (by decide +kernel))⟩
  ·exact ⟨nn _ (by simp),(T.builtins _ (by decide)).trans (b2.trans (by decide +kernel))⟩
  ·exact ⟨nn _ (by simp),(T.builtins _ (by decide)).trans (b3.trans (by decide +kernel))⟩
 ·rcases hx with rfl | rfl | rfl
  ·exact ⟨nn _ (by simp),(T.builtins _ (by decide)).trans (b4.trans (by decide +kernel))⟩
  ·exact ⟨nn _ (by simp),(T.builtins _ (by decide)).trans (b5.trans (by decide +kernel))⟩
  ·exact ⟨nn _ (by simp),(T.builtins _ (by decide)).trans (b6.trans (by decide +kernel))⟩
theorem VRs.ints{g:Gh}{h:Heap}:∀ {vs:List Value} {ns:List Int},IntsAre vs ns->VRs g h (ns.map .int) vs
 | _,_,.nil=>by rfl
 | _,_,.cons n t r=>by simp only [List.map_cons,VRs];exact ⟨_,_,rfl,VR.mkInt,VRs.ints r⟩
set_option tactic.hygienic true in
theorem Uq2{p:Program}{loose:List Str}{mean:ExcName->Option Value}{mg mb:Str->Option Value}{prog:Program}{w:World}{K:Frag}{P:Prog}{A:Around}{B:Heap}{s:Shared}{d N:Nat}{a fa:Addr}{vs:List Value}{ns:List Int}{x:Str}
  {name:Str} {scope:Scope} {faV:Addr} {cd:Value} {body:List Stmt} {m:Str->Option Value} {E:Value->Shared->Prop} {Q:Flow->Shared->Prop} {wd:List WData}
  (T:Top p loose mean mg mb B) (X:K.In B) (hg:globOk K P=true) (cf:∀ c k,lkN c P.clss=some k->ClsFacts K c k) (ff:∀ a f,lkN a P.fns=some f->FnIn K a f)
  (hA:A.handled=none) (hAd:A.depth+2*d+2 < 1000) (hAu:A.units+8*d+200 < 9900)
  (hl:B.IsList a vs.toArray) (hwl:Well w.params B (.ref a) (.list wd)) (hI:IntsAre vs ns) (h63:¬ ((63:Nat):Int) < (ns.length:Int)) (F:PyProof.Rows.Fr B B.objs.size s.heap m) (hm:m x=some (.ref a))
  (hfn:lkN fa P.fns=some ⟨[x],[],body,scope⟩) (hkind:scope.kind=.function) (hdb:∀ q ∈ scope.names,(q.1==Qdf)=false/\(q.1==Qdg)=false) (hcell:∀ q ∈ scope.names,q.2≠.cell)
  (hx:scope.names.lookup x=some .local) (pt:0 < s.toks)
  (hlaw:∀ ns:List Int,ns.length<=63->∃ O',callD P (d+1) fa [.lst (ns.map .int)] (List.replicate N [])=some (.bool true,O'))
  (q:∀ s',(∀ b o,B.get? b=some o->s'.heap.get? b=some o)->s'.os=s.os->s'.gens=s.gens->Q (.ret (.bool true)) s') :
  wpAny (model prog w) A (execs body (envOf name scope B.objs.size faV cd)) Q E s:=by
 refine xEA (hlaw ns (by omega)) fun O' e=>?_;have big:∃ b,sysModules < b/\B.get? b≠none:=⟨mainGlobals,by decide,by refine xEEEAA T.g fun w0 w0 w0 q w0=>?_;exact Uak q⟩
 have Fa:Facts ⟨prog,w,B,K,P,big⟩:=Uqc big T X hg;have Ro:Room A d:=⟨hA,hAd,hAu⟩
 rw [callD,hfn] at e;dsimp only at e;have hb:bindP [x] [V.lst (ns.map .int)] []=some [(x,.lst (ns.map .int))]:=rfl;rw [hb] at e;dsimp only at e;refine bndE e fun fl O₁ e1 e=>?_;have hga:∃ n,B.get? a=some (lo vs.toArray n):=by
  refine xEAAEA hl fun o ho hc n hd=>?_;cases hwl with
  | list h1 h2=>rw [h1] at ho;cases ho;cases hd;exact ⟨0,h1⟩
 refine xEA hga fun n hga=>?_;have dL:B.get? B.objs.size=none:=Ubs B;have ns0:=F.ns;have R:Rel ⟨prog,w,B,K,P,big⟩ ⟨fun w0 w0=>none,fun b=>b=B.objs.size⟩ (List.replicate N []) s.heap:=by
  refine ⟨F.keep,fun b z=>?_,fun b z=>?_,fun b qq=>xEEEA qq fun r i a p=>(nomatch p),fun r i w0=>rfl,fun r i o h=>?_,fun r i r' i' a a' d p w0=>nomatch p⟩
  ·subst z;exact ⟨dL,modules_low T.nolimit⟩
  ·subst z;refine xEEEAA ns0 fun w0 w0 w0 q w0=>?_;exact Uak q
  ·unfold Store.get at h;split at h
   ·rename_i l hl;rw [List.getElem?_replicate] at hl;split at hl
    ·cases hl;simp at h
    ·cases hl
   ·cases h
 have hv:VR ⟨fun w0 w0=>none,fun b=>b=B.objs.size⟩ s.heap (.lst (ns.map .int)) (.ref a):=by
  skip;exact ⟨a,vs.toArray,n,rfl,F.keep _ _ hga,(fun z=>by rw [z,dL] at hga;cases hga),VRs.ints hI,by rw [List.length_map];delta lim;omega⟩
 have S:ES scope (envOf name scope B.objs.size faV cd):=⟨fun w0 h=>h,fun w0 h=>h,fun w0 h=>h⟩
 have Fr:FR ⟨fun w0 w0=>none,fun b=>b=B.objs.size⟩ s.heap (envOf name scope B.objs.size faV cd) [(x,.lst (ns.map .int))]:=by
  have only:∀ y v,lk y [(x,V.lst (ns.map .int))]=some v->y=x/\v=.lst (ns.map .int):=fun y v h=>by
   dsimp only [lk] at h;split at h
   ·rename_i hb;cases h;exact ⟨(beq_iff_eq.mp hb).symm,rfl⟩
   ·cases h
  refine ⟨hkind,rfl,rfl,hdb,rfl,fun qq=>xEEEA qq fun r i a p=>(nomatch p),⟨m,ns0,fun y v h w0=>?_⟩,fun y v h=>?_,fun y c h=>(nomatch h),fun y h=>absurd rfl (hcell _ (mem_of_lookup h)),fun y z c h=>nomatch h⟩
  ·refine xAA (only y v h) fun qz1 qz2=>?_;subst qz1;subst qz2;exact ⟨_,hm,hv⟩
  ·refine xAA (only y v h) fun qz1 qz2=>?_;subst qz1;subst qz2;exact .inl hx
 refine (st_all Fa cf hA (ev_all Fa cf Ro (Unh Fa cf ff d A Ro)) 60).sts _ body _ _ _ O₁ s fl S Fr R e1 pt Q E fun f s' g' t R' hf=>?_;cases fl with
 | next fr'=>cases e
 | ret v =>
  refine xEAA hf fun u qz1 hu=>?_;subst qz1;cases e;dsimp only [VR] at hu;subst hu;exact q s' R'.base t.os t.gens
noncomputable def noDflt(fd:FuncData):Bool:=match fd.defaults with
 | .none=>true
 | _=>false
noncomputable def fnsOk(K:Frag)(as:List Addr):Bool:=as.all fun a=>(fdAt K a).any fun fd=>fdOk K fd&&noDflt fd
set_option tactic.hygienic true in
theorem FnIn.plain{K:Frag}{a:Addr}(h:(fdAt K a).any (fun fd=>fdOk K fd&&noDflt fd)=true):FnIn K a (fnAt K [] a):=by
 refine FnIn.of ?_ fun fd e=>?_
 ·cases e:fdAt K a with
  | none=>rw [e] at h;cases h
  | some fd=>rw [e] at h;exact (Bool.and_eq_true _ _▸h:_/\_).1
 ·rw [e] at h;have h:=(Bool.and_eq_true _ _▸h:fdOk K fd=true/\noDflt fd=true).2;unfold noDflt at h;split at h
  ·rename_i hd;exact .inl ⟨hd,rfl⟩
  ·cases h
set_option tactic.hygienic true in
theorem Uo9{K:Frag}{a:Addr}{f:Fn}:∀ {as:List Addr},lkN a (as.map fun a=>(a,fnAt K [] a))=some f->a ∈ as/\f=fnAt K [] a
 | [],e=>by simp [lkN] at e
 | b::as,e=>by
  rw [List.map_cons,lkN] at e;split at e
  ·rename_i h;cases e;have:b=a:=Nat.eq_of_beq_eq_true h;subst this;exact ⟨List.mem_cons_self,rfl⟩
  ·refine xAA (Uo9 e) fun x y=>?_;exact ⟨List.mem_cons_of_mem _ x,y⟩
set_option tactic.hygienic true in
theorem fns_in{K:Frag}{i:Addr}{fi:Fn}{as:List Addr}(h:fnsOk K as=true)(hi:FnIn K i fi):∀ a f,lkN a ((i,fi)::as.map fun a=>(a,fnAt K [] a))=some f->FnIn K a f:=fun a f e=>by
 rw [lkN] at e;split at e
 ·rename_i q;cases e;have:i=a:=Nat.eq_of_beq_eq_true q;subst this;exact hi
 ·refine xAA (Uo9 e) fun x qz1=>?_;subst qz1;exact FnIn.plain (List.all_eq_true.mp h _ x)
set_option tactic.hygienic true in
theorem Upw{α:Type}{a:Nat}{v:α}:∀ {l:List (Nat×α)},lkN a l=some v->(a,v) ∈ l
 | (b,w)::r,e=>by
  rw [lkN] at e;split at e
  ·rename_i q;cases e;have:b=a:=Nat.eq_of_beq_eq_true q;subst this;exact List.mem_cons_self
  ·exact List.mem_cons_of_mem _ (Upw e)
theorem cls_in{K:Frag}{l:List (Addr×Cls)}(h:l.all (fun p=>clsOk K p.1 p.2)=true):∀ c k,lkN c l=some k->ClsFacts K c k:=fun c k e=>by
 have q:clsOk K c k=true:=List.all_eq_true.mp h (c,k) (Upw e);exact Ukt q
theorem FnIn.last{K:Frag}{a:Addr}{x:Str}{t:Tok}{fd:FuncData}(e:fdAt K a=some fd)(h:fdOk K fd=true)(o:sOk x=true)(l:x.length<=lim)
  (h1:∀ us:List Value,us.length=(argNames fd).length->∀ S,peek K S (bindArgs fd ⟨us,[]⟩)=some ((argNames fd).zip us))
  (h2:∀ us:List Value,us.length+1=(argNames fd).length->∀ S,peek K S (bindArgs fd ⟨us,[]⟩)=some ((argNames fd).zip (us++[.str x t]))):FnIn K a (fnAt K [.str x] a):=by
 refine FnIn.of (by rw [e];exact h) fun fd' e'=>?_;rw [e] at e';cases e';exact .inr ⟨x,t,rfl,o,l,h1,h2⟩
theorem len1{us:List Value}{n:Nat}(h:us.length=n+1):∃ a r,us=a::r/\r.length=n:=by
 cases us with
 | nil=>cases h
 | cons a r=>exact ⟨a,r,rfl,Nat.succ.inj h⟩
theorem len3'{us:List Value}(h:us.length=3):∃ a b c,us=[a,b,c]:=by
 refine xEEAA (len1 h) fun a r1 qz1 h1=>?_;subst qz1;refine xEEAA (len1 h1) fun b r2 qz1 h2=>?_;subst qz1;refine xEEAA (len1 h2) fun c r3 qz1 h3=>?_;subst qz1;exact ⟨a,b,c,by rw [List.eq_nil_of_length_eq_zero h3]⟩
theorem len4{us:List Value}(h:us.length=4):∃ a b c d,us=[a,b,c,d]:=by
 refine xEEAA (len1 h) fun a r1 qz1 h1=>?_;subst qz1;refine xEEEA (len3' h1) fun b c d qz1=>?_;subst qz1;exact ⟨a,b,c,d,rfl⟩
theorem len3{us:List Value}(h:us.length+1=4):∃ a b c,us=[a,b,c]:=len3' (Nat.succ.inj h)
theorem Uq9{r:RowW}{cl:Str->Option Addr}{mean:ExcName->Option Value}{args:List WData}{s₁ s':Shared}(hr:r.raises=[])(hp:r.claim.post args (.bool true) args=true)
  (hk:∀ b o,s₁.heap.get? b=some o->s'.heap.get? b=some o) (ho:s'.os=s₁.os) (hg:s'.gens=#[]):GoodW r.claim cl mean args s₁ (.ok (.ret (.bool true))) s' :=
 ⟨.inl ⟨_,.bool true,[],rfl,raisesW_false (fun ct h=>by rw [hr] at h;cases h),.bool true,hp,unshared_nil⟩,hk,ho,hg⟩
end Mine
end
section
open PySem
namespace Mine
noncomputable def constO:Const->Option V
 | .none=>some .none
 | .bool b=>some (.bool b)
 | .int i=>some (.int i)
 | .str s=>if s.cps.all (· < 0x110000)/\s.length<=lim then some (.str s) else none
 | _=>none
set_option tactic.hygienic true in
noncomputable def unFl:Fl->M V
 | .ret v=>ret v
 | .next _=>ret .none
noncomputable def unB:Fl->M Bool
 | .ret (.bool b)=>ret b
 | _=>fail
section
variable (P:Prog)(call:CC)
mutual
noncomputable def evalK:Nat->Scope->Fr->Expr->(V->M Fl)->M Fl
 | 0,_,_,_,_=>fail
 | n+1,sc,fr,e,k=>match e with
  | .Constant c _ _=>ob (constO c) k fail
  | .Name x _=>ob (nameO P sc fr x) k fail
  | .BoolOp op es _=>boolK n sc fr op es k
  | .BinOp l op r _=>evalK n sc fr l fun a=>evalK n sc fr r fun b=>bnd (look (binV op a b)) k
  | .UnaryOp op e _=>match op with
   | .Not=>evalK n sc fr e fun a=>ob (isT a) (fun b=>k (.bool (!b))) fail
   | .USub=>evalK n sc fr e fun a=>ob (negV a) k fail
   | _=>fail
  | .IfExp t a b _=>testK n sc fr t fun c=>if c then evalK n sc fr a k else evalK n sc fr b k
  | .Dict ks vs pos=>if ks.length<=15/\0 < ks.length then pairsK n sc fr ks vs fun es=>bnd (mkDict P pos es) k else fail
  | .List es pos=>evalEsK n sc fr es fun vs=>bnd (mkList P pos vs) k
  | .Tuple es _ _=>evalEsK n sc fr es fun vs=>if vs.length<=lim then k (.tup vs) else fail
  | .ListComp elt gens scope _=>ob (genV gens) (fun d=>if notSet d.2.1&&compOk sc scope d.1 then evalK n sc fr d.2.1 fun o =>
    bnd (compK o (fun v=>bnd (evalK n scope (setK d.1 v (compFr scope fr)) elt fun w=>ret (.ret w)) unFl) (fun v=>ifsE (fun fr' c=>bnd (testK n scope fr' c fun b=>ret (.ret (.bool b))) unB) d.2.2 (setK d.1 v (compFr scope fr))) 200 0 []) k else fail) fail
  | .Compare l ops rs _=>ob (shpV ops rs) (fun s=>ob s.2.2
    (fun t=>if notSet t.2 then evalK n sc fr l fun a=>evalK n sc fr s.2.1 fun b=>bnd (look (cmpV s.1 a b)) fun c =>
     if c then evalK n sc fr t.2 fun d=>bnd (look (cmpV t.1 b d)) fun e=>k (.bool e) else k (.bool false) else fail)
    (evalK n sc fr l fun a=>evalK n sc fr s.2.1 fun b=>bnd (look (cmpV s.1 a b)) fun c=>k (.bool c))) fail
  | .Call f args kws p=>calB (calV f kws)
   (fun o x ap=>if callOk o args ap p then
     (if x==Qcv then evalK n sc fr o fun ov=>bnd (look (methK P ov x)) fun k'=>if isRepl k' then bnd (replV ov args) k else fail
      else evalK n sc fr o fun ov=>bnd (look (methK P ov x)) fun k'=>if isRepl k' then fail else evalEsK n sc fr args fun as=>bnd (methodV call k' ov as) k) else fail)
   (fun f q=>if decide (args.length < 20) then evalK n sc fr (.Name f q) fun fv=>evalEsK n sc fr args fun as=>bnd (applyV P call fv as) k else fail) fail
  | .Attribute o x _=>if plainBase o then evalK n sc fr o fun ov=>bnd (attrV P ov x) k else fail
  | .Subscript o i _=>ob (slcV i) (fun s=>evalK n sc fr o fun ov=>optK n sc fr s.1 fun a=>optK n sc fr s.2.1 fun b=>ob s.2.2
    (fun st=>evalK n sc fr st fun c=>bnd (look (stepV ov a b c)) k) (bnd (look (sliceV ov a b)) k))
   (evalK n sc fr o fun ov=>evalK n sc fr i fun iv=>bnd (look (itemV ov iv)) k)
  | _=>fail

noncomputable def optK:Nat->Scope->Fr->Option Expr->(Option V->M Fl)->M Fl
 | 0,_,_,_,_=>fail
 | _+1,_,_,none,k=>k none
 | n+1,sc,fr,some e,k=>evalK n sc fr e fun v=>k (some v)

noncomputable def evalEsK:Nat->Scope->Fr->List Expr->(List V->M Fl)->M Fl
 | 0,_,_,_,_=>fail
 | _+1,_,_,[],k=>k []
 | n+1,sc,fr,e::r,k=>evalK n sc fr e fun v=>evalEsK n sc fr r fun vs=>k (v::vs)

noncomputable def pairsK:Nat->Scope->Fr->List (Option Expr)->List Expr->(List (Str×V)->M Fl)->M Fl
 | 0,_,_,_,_,_=>fail
 | _+1,_,_,[],[],k=>k []
 | n+1,sc,fr,some q::ks,e::r,k=>evalK n sc fr q fun
  | .str x=>evalK n sc fr e fun v=>pairsK n sc fr ks r fun vs=>k ((x,v)::vs)
  | _=>fail
 | _+1,_,_,_,_,_=>fail

noncomputable def boolK:Nat->Scope->Fr->BoolOp->List Expr->(V->M Fl)->M Fl
 | 0,_,_,_,_,_=>fail
 | n+1,sc,fr,_,[e],k=>evalK n sc fr e k
 | n+1,sc,fr,op,e::r,k=>evalK n sc fr e fun v=>ob (isT v) (fun b=>match op with
   | .And=>cond b (boolK n sc fr op r k) (k v)
   | .Or=>cond b (k v) (boolK n sc fr op r k)) fail
 | _+1,_,_,_,_,_=>fail

noncomputable def testK:Nat->Scope->Fr->Expr->(Bool->M Fl)->M Fl
 | 0,_,_,_,_=>fail
 | n+1,sc,fr,e,k=>tstB (tstV e) (fun e=>testK n sc fr e fun b=>k (!b)) (fun op es=>testsK n sc fr op es k)
  (fun l s=>ob s.2.2
   (fun t=>if notSet t.2 then evalK n sc fr l fun a=>evalK n sc fr s.2.1 fun b=>bnd (look (cmpV s.1 a b)) fun c =>
    if c then evalK n sc fr t.2 fun d=>bnd (look (cmpV t.1 b d)) k else k false else fail)
   (evalK n sc fr l fun a=>evalK n sc fr s.2.1 fun b=>bnd (look (cmpV s.1 a b)) k))
  (evalK n sc fr e fun v=>ob (isT v) k fail) fail

noncomputable def testsK:Nat->Scope->Fr->BoolOp->List Expr->(Bool->M Fl)->M Fl
 | 0,_,_,_,_,_=>fail
 | _+1,_,_,op,[],k=>k (op==.And)
 | n+1,sc,fr,op,e::r,k=>testK n sc fr e fun b=>match op with
  | .And=>cond b (testsK n sc fr op r k) (k false)
  | .Or=>cond b (k true) (testsK n sc fr op r k)
end
variable (sc:Scope)
noncomputable def storeK(n:Nat)(fr:Fr)(v:V)(t:Expr)(k:Fr->M Fl):M Fl:=match t with
 | .Name x _=>if setOk sc x then k (setK x v fr) else fail
 | .Attribute o x _=>evalK P call n sc fr o fun ov=>bnd (setAttrV P ov x v) fun w0=>k fr
 | .Subscript o i _=>evalK P call n sc fr o fun ov=>evalK P call n sc fr i fun iv=>bnd (setItemV ov iv v) fun w0=>k fr
 | _=>fail
noncomputable def storesK(n:Nat):Fr->List V->List Expr->(Fr->M Fl)->M Fl
 | fr,vs,[],k=>match vs with
  | []=>k fr
  | _::_=>fail
 | fr,vs,t::ts,k=>match vs with
  | v::vs=>storeK P call sc n fr v t fun fr'=>storesK n fr' vs ts k
  | []=>fail
termination_by structural _ _ ts=>ts
noncomputable def execK:Nat->Fr->List Stmt->(Fr->M Fl)->M Fl
 | 0,_,_,_=>fail
 | _+1,fr,[],k=>k fr
 | 1,_,_::_,_=>fail
 | n+2,fr,s::r,k=>match s with
  | .Expr e _=>if notComp e then evalK P call n sc fr e fun w0=>execK (n+1) fr r k else fail
  | .Pass _=>execK (n+1) fr r k
  | .Return e _=>match e with
   | some e=>evalK P call n sc fr e fun v=>ret (.ret v)
   | none=>ret (.ret .none)
  | .Assign ts e _=>tgtB (tgtV ts)
   (fun ts=>if tupOk e&&nodupB (names ts)&&decide (ts.length < 20) then evalK P call n sc fr e fun v=>ob (tupV v) (fun vs=>storesK P call sc n fr vs ts fun fr'=>execK (n+1) fr' r k) fail else fail)
   (fun t=>evalK P call n sc fr e fun v=>storeK P call sc n fr v t fun fr'=>execK (n+1) fr' r k) fail
  | .AugAssign t op e _=>ob (augT t) (fun z=>evalK P call n sc fr z.1 fun ov=>bnd (attrV P ov z.2) fun a=>evalK P call n sc fr e fun b =>
    bnd (look (augV op a b)) fun v=>bnd (setAttrV P ov z.2 v) fun w0=>execK (n+1) fr r k) fail
  | .If t a b _=>testK P call n sc fr t fun c=>if c then execK n fr a (fun fr'=>execK (n+1) fr' r k) else execK n fr b (fun fr'=>execK (n+1) fr' r k)
  | .While t a b _=>match b with
   | []=>bnd (loopW (fun fr=>bnd (testK P call n sc fr t fun b=>ret (.ret (.bool b))) unB) (fun fr=>execK n fr a fun fr'=>ret (.next fr')) 5000 fr) (goOn fun fr'=>execK (n+1) fr' r k)
   | _=>fail
  | .For t it a b _=>ob (forV t b) (fun x=>if notSet it then evalK P call n sc fr it fun o =>
    bnd (loopF o (fun v fr=>setVar sc x v fr) (fun fr=>execK n fr a fun fr'=>ret (.next fr')) 5000 0 fr) (goOn fun fr'=>execK (n+1) fr' r k) else fail) fail
  | _=>fail
end
noncomputable def bodyK(P:Prog)(call:CC)(f:Fn)(args:List V):M Fl:=match bindP f.params args f.dflts with
 | some fr=>execK P call f.scope 60 fr f.body fun fr=>ret (.next fr)
 | none=>fail
noncomputable def callK(P:Prog):Nat->CC
 | 0,_,_=>fail
 | d+1,a,args=>match lkN a P.fns with
  | some f=>bnd (bodyK P (callK P d) f args) unFl
  | none=>fail
noncomputable def Le{α:Type}(m m':M α):Prop:=∀ O r,m O=some r->m' O=some r
section
variable {α β γ:Type}
theorem Le.rfl{m:M α}:Le m m:=fun w0 w0 h=>h
theorem Le.trans{a b c:M α}(x:Le a b)(y:Le b c):Le a c:=fun O r h=>y O r (x O r h)
theorem Le.bnd{m m':M α}{k k':α->M β}(x:Le m m')(y:∀ a,Le (k a) (k' a)):Le (bnd m k) (bnd m' k'):=fun O r h=>by
 refine bndE h fun a O₁ h1 h2=>?_;delta Mine.bnd;rw [x O _ h1];exact y a _ _ h2
theorem Le.fail{m:M α}:Le (fail:M α) m:=fun w0 w0 h=>(Unw h).elim
theorem Uam(m:M α)(k:α->M β)(l:β->M γ):bnd (bnd m k) l=bnd m fun a=>bnd (k a) l:=by
 funext O
 delta bnd;cases m O with
 | none=>simp
 | some r=>simp
theorem Ukf(m:M α):bnd m ret=m:=by
 funext O
 delta bnd ret;cases m O with
 | none=>simp
 | some r=>simp
theorem Le.ite{c:Prop}[Decidable c]{a b a' b':M α}(x:Le a a')(y:Le b b'):Le (if c then a else b) (if c then a' else b'):=by split <;> assumption
end
section
variable {P:Prog}{call call':CC}(hc:∀ a args,Le (call a args) (call' a args))
include hc
theorem Uo3(f:V)(args:List V):Le (applyV P call f args) (applyV P call' f args):=by
 delta applyV;split
 ·exact Le.rfl
 ·split
  ·intro O r h;dsimp only at h ⊢;split at h
   ·exact Le.bnd (hc _ _) (fun w0=>Le.rfl) _ _ h
   ·cases h
  ·exact hc _ _
 ·exact Le.rfl
theorem Uma(k:MK)(o:V)(args:List V):Le (methodV call k o args) (methodV call' k o args):=by
 delta methodV;split
 ·exact hc _ _
 ·exact Le.rfl
end
section
variable {α β γ:Type}
theorem Le.unFl{X:M Fl}{m:M V}(h:Le X (Mine.bnd m fun w=>ret (.ret w))):Le (Mine.bnd X Mine.unFl) m:=by
 refine (Le.bnd h fun w0=>Le.rfl).trans ?_;rw [Uam];have:(fun a=>Mine.bnd (ret (Fl.ret a)) Mine.unFl)=(ret:V->M V):=by funext a;rfl
 rw [this,Ukf];exact Le.rfl
theorem Le.unB{X:M Fl}{m:M Bool}(h:Le X (Mine.bnd m fun b=>ret (.ret (.bool b)))):Le (Mine.bnd X Mine.unB) m:=by
 refine (Le.bnd h fun w0=>Le.rfl).trans ?_;rw [Uam];have:(fun a=>Mine.bnd (ret (Fl.ret (.bool a))) Mine.unB)=(ret:Bool->M Bool):=by funext a;rfl
 rw [this,Ukf];exact Le.rfl
theorem Le.bb{m:M α}{n:α->M γ}{k:γ->M β}{Z:M β}{Y:α->M β}(h:Le Z (Mine.bnd m Y))(y:∀ a,Le (Y a) (Mine.bnd (n a) k)):Le Z (Mine.bnd (Mine.bnd m n) k):=by
 rw [Uam];exact h.trans (Le.bnd Le.rfl y)
theorem Le.b1{m:M α}{k k':α->M β}(y:∀ a,Le (k a) (k' a)):Le (Mine.bnd m k) (Mine.bnd m k'):=Le.bnd Le.rfl y
theorem Le.bl{m:M α}{n:α->M γ}{k:γ->M β}{Y:α->M β}(y:∀ a,Le (Y a) (Mine.bnd (n a) k)):Le (Mine.bnd m Y) (Mine.bnd (Mine.bnd m n) k):=Le.bb Le.rfl y
theorem Le.re{a:α}{k:α->M β}:Le (k a) (Mine.bnd (ret a) k):=Le.rfl
theorem Le.it{c:Prop}[Decidable c]{a b:M β}{a' b':M α}{k:α->M β}(x:Le a (Mine.bnd a' k))(y:Le b (Mine.bnd b' k)):Le (if c then a else b) (Mine.bnd (if c then a' else b') k):=by split <;> assumption
theorem Le.itf{c:Prop}[Decidable c]{a:M β}{a':M α}{k:α->M β}(x:c->Le a (Mine.bnd a' k)):Le (if c then a else Mine.fail) (Mine.bnd (if c then a' else Mine.fail) k):=by
 split
 ·exact x (by assumption)
 ·exact Le.fail
theorem Le.li{x:Option α}{k Z:α->M β}(h:∀ a,Le (Z a) (k a)):Le (ob x Z Mine.fail) (Mine.bnd (lift x) k):=by
 cases x with
 | none=>exact Le.fail
 | some a=>exact h a
theorem Un1(c:Const):constV c=lift (constO c):=by
 cases c <;> try rfl
 delta constV constO;dsimp only;split <;> rfl
theorem Um0{o:V}{elt elt':V->M V}{test test':V->M Bool}(h1:∀ v,Le (elt v) (elt' v))(h2:∀ v,Le (test v) (test' v)):∀ n k acc,Le (compK o elt test n k acc) (compK o elt' test' n k acc)
 | 0,_,_=>Le.rfl
 | n+1,k,acc=>Le.bnd Le.rfl fun r=>by
  cases r with
  | none=>exact Le.rfl
  | some v=>exact Le.bnd (h2 _) fun b=>Le.ite (Le.bnd (h1 _) fun w=>Le.ite (Um0 h1 h2 n _ _) Le.rfl) (Um0 h1 h2 n _ _)
end
section
variable {P:Prog}{call call':CC}
structure EvK(P:Prog)(call call':CC)(n:Nat):Prop where
 ev:∀ sc fr e k,Le (evalK P call n sc fr e k) (bnd (evalE P call' n sc fr e) k)
 opt:∀ sc fr e k,Le (optK P call n sc fr e k) (bnd (optE P call' n sc fr e) k)
 evs:∀ sc fr e k,Le (evalEsK P call n sc fr e k) (bnd (evalEs P call' n sc fr e) k)
 pairs:∀ sc fr ks e k,Le (pairsK P call n sc fr ks e k) (bnd (pairsE P call' n sc fr ks e) k)
 bool:∀ sc fr op e k,Le (boolK P call n sc fr op e k) (bnd (boolE P call' n sc fr op e) k)
 test:∀ sc fr e k,Le (testK P call n sc fr e k) (bnd (testE P call' n sc fr e) k)
 tests:∀ sc fr op e k,Le (testsK P call n sc fr op e k) (bnd (testsE P call' n sc fr op e) k)
variable {n:Nat}{sc:Scope}{fr:Fr}
theorem Usg{c:Const}{k:V->M Fl}:Le (ob (constO c) k Mine.fail) (bnd (constV c) k):=by
 rw [Un1];exact Le.li fun w0=>Le.rfl
theorem k_comp(ih:EvK P call call' n){d:Str×Expr×List Expr}{elt:Expr}{scope:Scope}{k:V->M Fl}:Le (if notSet d.2.1&&compOk sc scope d.1 then evalK P call n sc fr d.2.1 fun o =>
    bnd (compK o (fun v=>bnd (evalK P call n scope (setK d.1 v (compFr scope fr)) elt fun w=>ret (.ret w)) unFl) (fun v=>ifsE (fun fr' c=>bnd (testK P call n scope fr' c fun b=>ret (.ret (.bool b))) unB) d.2.2 (setK d.1 v (compFr scope fr))) 200 0 []) k else fail)
  (bnd (if notSet d.2.1&&compOk sc scope d.1 then bnd (evalE P call' n sc fr d.2.1) fun o =>
    compK o (fun v=>evalE P call' n scope (setK d.1 v (compFr scope fr)) elt) (fun v=>ifsE (fun fr' c=>testE P call' n scope fr' c) d.2.2 (setK d.1 v (compFr scope fr))) 200 0 [] else fail) k):=by
 refine Le.itf fun w0=>Le.bb (ih.ev _ _ _ _) fun o=>Le.bnd (Um0 (fun v=>(ih.ev _ _ _ _).unFl) (fun v=>?_) _ _ _) fun w0=>Le.rfl;delta ifsE;rcases d.2.2 with _ | ⟨c,_ | _⟩
 ·exact Le.rfl
 ·exact (ih.test _ _ _ _).unB
 ·exact Le.fail
theorem k_cmp(ih:EvK P call call' n){s:Shp}{l:Expr}{k:V->M Fl}:Le (ob s.2.2
    (fun t=>if notSet t.2 then evalK P call n sc fr l fun a=>evalK P call n sc fr s.2.1 fun b=>bnd (look (cmpV s.1 a b)) fun c =>
     if c then evalK P call n sc fr t.2 fun d=>bnd (look (cmpV t.1 b d)) fun e=>k (.bool e) else k (.bool false) else fail)
    (evalK P call n sc fr l fun a=>evalK P call n sc fr s.2.1 fun b=>bnd (look (cmpV s.1 a b)) fun c=>k (.bool c)))
  (bnd (bnd (evalE P call' n sc fr l) fun a=>bnd (evalE P call' n sc fr s.2.1) fun b=>bnd (look (cmpV s.1 a b)) fun c=>ob s.2.2
   (fun t=>if c then (if notSet t.2 then bnd (evalE P call' n sc fr t.2) fun d=>bnd (look (cmpV t.1 b d)) fun e=>ret (.bool e) else fail) else (if notSet t.2 then ret (.bool false) else fail)) (ret (.bool c))) k):=by
 rcases s with ⟨op,r,_ | ⟨op2,r2⟩⟩
 ·exact Le.bb (ih.ev _ _ _ _) fun a=>Le.bb (ih.ev _ _ _ _) fun b=>Le.bl fun c=>Le.rfl
 ·show Le (if notSet r2=true then _ else Mine.fail) (bnd (bnd _ fun a=>bnd _ fun b=>bnd _ fun c=>if c=true then (if notSet r2=true then _ else Mine.fail) else (if notSet r2=true then _ else Mine.fail)) k)
  generalize notSet r2=z
  cases z with
  | false=>exact Le.fail
  | true=>exact Le.bb (ih.ev _ _ _ _) fun a=>Le.bb (ih.ev _ _ _ _) fun b=>Le.bl fun c=>Le.it (Le.bb (ih.ev _ _ _ _) fun d=>Le.bl fun e=>Le.rfl) Le.rfl
theorem k_tcmp(ih:EvK P call call' n){s:Shp}{l:Expr}{k:Bool->M Fl}:Le (ob s.2.2
   (fun t=>if notSet t.2 then evalK P call n sc fr l fun a=>evalK P call n sc fr s.2.1 fun b=>bnd (look (cmpV s.1 a b)) fun c =>
    if c then evalK P call n sc fr t.2 fun d=>bnd (look (cmpV t.1 b d)) k else k false else fail)
   (evalK P call n sc fr l fun a=>evalK P call n sc fr s.2.1 fun b=>bnd (look (cmpV s.1 a b)) k))
  (bnd (bnd (evalE P call' n sc fr l) fun a=>bnd (evalE P call' n sc fr s.2.1) fun b=>bnd (look (cmpV s.1 a b)) fun c=>ob s.2.2
   (fun t=>if c then (if notSet t.2 then bnd (evalE P call' n sc fr t.2) fun d=>look (cmpV t.1 b d) else fail) else (if notSet t.2 then ret false else fail)) (ret c)) k):=by
 rcases s with ⟨op,r,_ | ⟨op2,r2⟩⟩
 ·exact Le.bb (ih.ev _ _ _ _) fun a=>Le.bb (ih.ev _ _ _ _) fun b=>Le.bl fun c=>Le.rfl
 ·show Le (if notSet r2=true then _ else Mine.fail) (bnd (bnd _ fun a=>bnd _ fun b=>bnd _ fun c=>if c=true then (if notSet r2=true then _ else Mine.fail) else (if notSet r2=true then _ else Mine.fail)) k)
  generalize notSet r2=z
  cases z with
  | false=>exact Le.fail
  | true=>exact Le.bb (ih.ev _ _ _ _) fun a=>Le.bb (ih.ev _ _ _ _) fun b=>Le.bl fun c=>Le.it (Le.bb (ih.ev _ _ _ _) fun d=>Le.rfl) Le.rfl
theorem k_meth(hc:∀ a args,Le (call a args) (call' a args))(ih:EvK P call call' n){o:Expr}{x:Str}{args:List Expr}{c:Prop}[Decidable c]{k:V->M Fl}:Le (if c then
     (if x==Qcv then evalK P call n sc fr o fun ov=>bnd (look (methK P ov x)) fun k'=>if isRepl k' then bnd (replV ov args) k else fail
      else evalK P call n sc fr o fun ov=>bnd (look (methK P ov x)) fun k'=>if isRepl k' then fail else evalEsK P call n sc fr args fun as=>bnd (methodV call k' ov as) k) else fail)
  (bnd (if c then bnd (evalE P call' n sc fr o) fun ov=>bnd (look (methK P ov x)) fun k=>if isRepl k then replV ov args else bnd (evalEs P call' n sc fr args) fun as=>methodV call' k ov as else fail) k):=by
 refine Le.itf fun w0=>?_;cases x==Qcv with
 | true=>exact Le.bb (ih.ev _ _ _ _) fun ov=>Le.bl fun q=>Le.it Le.rfl Le.fail
 | false=>exact Le.bb (ih.ev _ _ _ _) fun ov=>Le.bl fun q=>Le.it Le.fail (Le.bb (ih.evs _ _ _ _) fun as=>Le.bnd (Uma hc _ _ _) fun w0=>Le.rfl)
theorem k_name(hc:∀ a args,Le (call a args) (call' a args))(ih:EvK P call call' n){e:Expr}{args:List Expr}{c:Prop}[Decidable c]{k:V->M Fl}:Le (if c then evalK P call n sc fr e fun fv=>evalEsK P call n sc fr args fun as=>bnd (applyV P call fv as) k else fail)
  (bnd (if c then bnd (evalE P call' n sc fr e) fun fv=>bnd (evalEs P call' n sc fr args) fun as=>applyV P call' fv as else fail) k) :=
 Le.itf fun w0=>Le.bb (ih.ev _ _ _ _) fun fv=>Le.bb (ih.evs _ _ _ _) fun as=>Le.bnd (Uo3 hc _ _) fun w0=>Le.rfl
theorem k_slc(ih:EvK P call call' n){o:Expr}{s:Option Expr×Option Expr×Option Expr}{k:V->M Fl}:Le (evalK P call n sc fr o fun ov=>optK P call n sc fr s.1 fun a=>optK P call n sc fr s.2.1 fun b=>ob s.2.2
    (fun st=>evalK P call n sc fr st fun c=>bnd (look (stepV ov a b c)) k) (bnd (look (sliceV ov a b)) k))
  (bnd (bnd (evalE P call' n sc fr o) fun ov=>bnd (optE P call' n sc fr s.1) fun a=>bnd (optE P call' n sc fr s.2.1) fun b=>ob s.2.2
    (fun st=>bnd (evalE P call' n sc fr st) fun c=>look (stepV ov a b c)) (look (sliceV ov a b))) k):=by
 refine Le.bb (ih.ev _ _ _ _) fun ov=>Le.bb (ih.opt _ _ _ _) fun a=>Le.bb (ih.opt _ _ _ _) fun b=>?_;cases s.2.2 with
 | none=>exact Le.rfl
 | some st=>exact Le.bb (ih.ev _ _ _ _) fun c=>Le.rfl
theorem k_ev(hc:∀ a args,Le (call a args) (call' a args))(ih:EvK P call call' n)(e:Expr)(k:V->M Fl):Le (evalK P call (n+1) sc fr e k) (bnd (evalE P call' (n+1) sc fr e) k):=by
 cases e with
 | Constant c q p=>exact Usg
 | Name x p=>exact Le.li fun w0=>Le.rfl
 | BoolOp op es p=>exact ih.bool _ _ _ _ _
 | BinOp l op r p=>exact Le.bb (ih.ev _ _ _ _) fun a=>Le.bb (ih.ev _ _ _ _) fun b=>Le.rfl
 | UnaryOp op e p=>cases op with
  | Not=>exact Le.bb (ih.ev _ _ _ _) fun a=>Le.bb (Le.li fun w0=>Le.rfl) fun b=>Le.re
  | USub=>exact Le.bb (ih.ev _ _ _ _) fun a=>Le.li fun w0=>Le.rfl
  | _=>exact Le.fail
 | IfExp t a b p=>exact Le.bb (ih.test _ _ _ _) fun c=>Le.it (ih.ev _ _ _ _) (ih.ev _ _ _ _)
 | Dict ks vs p=>exact Le.itf fun w0=>Le.bb (ih.pairs _ _ _ _ _) fun w0=>Le.rfl
 | List es p=>exact Le.bb (ih.evs _ _ _ _) fun w0=>Le.rfl
 | Tuple es q p=>exact Le.bb (ih.evs _ _ _ _) fun vs=>Le.itf fun w0=>Le.re
 | ListComp elt gens scope p=>exact Le.bb (Le.li fun w0=>Le.rfl) fun d=>k_comp ih
 | Compare l ops rs p=>exact Le.bb (Le.li fun w0=>Le.rfl) fun s=>k_cmp ih
 | Call f args kws p =>
  show Le (calB (calV f kws) _ _ _) (bnd (calB (calV f kws) _ _ _) k);cases calV f kws with
  | m o x ap=>exact k_meth hc ih
  | n f q=>exact k_name hc ih
  | bad=>exact Le.fail
 | Attribute o x p=>exact Le.itf fun w0=>Le.bb (ih.ev _ _ _ _) fun w0=>Le.rfl
 | Subscript o i p =>
  show Le (ob (slcV i) _ _) (bnd (ob (slcV i) _ _) k);cases slcV i with
  | some s=>exact k_slc ih
  | none=>exact Le.bb (ih.ev _ _ _ _) fun w0=>Le.bb (ih.ev _ _ _ _) fun w0=>Le.rfl
 | _=>exact Le.fail
theorem Ush(ih:EvK P call call' n):∀ (ks:List (Option Expr)) (es:List Expr) (k:List (Str×V)->M Fl),Le (pairsK P call (n+1) sc fr ks es k) (bnd (pairsE P call' (n+1) sc fr ks es) k)
 | [],[],k=>Le.re
 | some q::ks,e::r,k=>Le.bb (ih.ev _ _ _ _) fun v=>match v with
  | .str x=>Le.bb (ih.ev _ _ _ _) fun w0=>Le.bb (ih.pairs _ _ _ _ _) fun w0=>Le.re
  | .none=>Le.fail | .bool _=>Le.fail | .int _=>Le.fail | .tup _=>Le.fail | .lst _=>Le.fail | .rng ..=>Le.fail | .ref ..=>Le.fail | .fn _=>Le.fail | .bi _=>Le.fail
 | [],_::_,k=>Le.fail
 | some _::_,[],k=>Le.fail
 | none::_,[],k=>Le.fail
 | none::_,_::_,k=>Le.fail
theorem k_bool(ih:EvK P call call' n)(op:BoolOp):∀ (es:List Expr) (k:V->M Fl),Le (boolK P call (n+1) sc fr op es k) (bnd (boolE P call' (n+1) sc fr op es) k)
 | [],k=>Le.fail
 | [e],k=>ih.ev _ _ _ _
 | e::e2::r,k=>Le.bb (ih.ev _ _ _ _) fun v=>by
  cases h:isT v with
  | none=>exact Le.fail
  | some b =>
   cases op <;> cases b
   ·exact Le.re
   ·exact ih.bool _ _ _ _ _
   ·exact ih.bool _ _ _ _ _
   ·exact Le.re
theorem k_test(ih:EvK P call call' n)(e:Expr)(k:Bool->M Fl):Le (testK P call (n+1) sc fr e k) (bnd (testE P call' (n+1) sc fr e) k):=by
 show Le (tstB (tstV e) _ _ _ _ _) (bnd (tstB (tstV e) _ _ _ _ _) k);cases tstV e with
 | no e=>exact Le.bb (ih.test _ _ _ _) fun w0=>Le.re
 | bool op es=>exact ih.tests _ _ _ _ _
 | bad=>exact Le.fail
 | cmp l s=>exact k_tcmp ih
 | plain=>exact Le.bb (ih.ev _ _ _ _) fun v=>Le.li fun w0=>Le.rfl
theorem Ut4(ih:EvK P call call' n)(op:BoolOp):∀ (es:List Expr) (k:Bool->M Fl),Le (testsK P call (n+1) sc fr op es k) (bnd (testsE P call' (n+1) sc fr op es) k)
 | [],k=>Le.re
 | e::r,k=>Le.bb (ih.test _ _ _ _) fun b=>by
  cases op <;> cases b
  ·exact Le.re
  ·exact ih.tests _ _ _ _ _
  ·exact ih.tests _ _ _ _ _
  ·exact Le.re
theorem evK(hc:∀ a args,Le (call a args) (call' a args)):∀ n,EvK P call call' n
 | 0=>⟨fun w0 w0 w0 w0=>Le.fail,fun w0 w0 w0 w0=>Le.fail,fun w0 w0 w0 w0=>Le.fail,fun w0 w0 w0 w0 w0=>Le.fail,fun w0 w0 w0 w0 w0=>Le.fail,fun w0 w0 w0 w0=>Le.fail,fun w0 w0 w0 w0 w0=>Le.fail⟩
 | n+1=>by
  have ih:=evK hc n;refine ⟨fun sc fr e k=>k_ev hc ih e k,fun sc fr e k=>?_,fun sc fr es k=>?_,fun sc fr ks es k=>Ush ih ks es k,fun sc fr op es k=>k_bool ih op es k,fun sc fr e k=>k_test ih e k,fun sc fr op es k=>Ut4 ih op es k⟩
  ·cases e with
   | none=>exact Le.re
   | some e=>exact Le.bb (ih.ev _ _ _ _) fun w0=>Le.re
  ·cases es with
   | nil=>exact Le.re
   | cons e r=>exact Le.bb (ih.ev _ _ _ _) fun w0=>Le.bb (ih.evs _ _ _ _) fun w0=>Le.re
end
section
variable {P:Prog}{call call':CC}{sc:Scope}
theorem Ums(hc:∀ a args,Le (call a args) (call' a args)){n:Nat}{fr:Fr}{v:V}{t:Expr}{k:Fr->M Fl}:Le (storeK P call sc n fr v t k) (bnd (assignE P call' sc n fr v t) k):=by
 have ih:=evK (P:=P) hc n;cases t with
 | Name x _=>exact Le.itf fun w0=>Le.re
 | Attribute o x _=>exact Le.bb (ih.ev _ _ _ _) fun ov=>Le.bl fun w0=>Le.re
 | Subscript o i _=>exact Le.bb (ih.ev _ _ _ _) fun ov=>Le.bb (ih.ev _ _ _ _) fun iv=>Le.bl fun w0=>Le.re
 | _=>exact Le.fail
theorem Uki(hc:∀ a args,Le (call a args) (call' a args)){n:Nat}:∀ {ts:List Expr} {fr:Fr} {vs:List V} {k:Fr->M Fl},Le (storesK P call sc n fr vs ts k) (bnd (assignEs P call' sc n fr vs ts) k)
 | [],fr,[],k=>Le.re
 | [],fr,_::_,k=>Le.fail
 | t::ts,fr,[],k=>Le.fail
 | t::ts,fr,v::vs,k=>by
  show Le (storeK P call sc n fr v t fun fr'=>storesK P call sc n fr' vs ts k) _;exact Le.bb (Ums hc) fun fr'=>Uki hc
theorem Unn{t t':Fr->M Bool}{b b':Fr->M Fl}(h1:∀ fr,Le (t fr) (t' fr))(h2:∀ fr,Le (b fr) (b' fr)):∀ n fr,Le (loopW t b n fr) (loopW t' b' n fr)
 | 0,fr=>by exact Le.fail
 | n+1,fr=>by
  show Le (bnd (t fr) fun c=>if c=true then _ else _) (bnd (t' fr) fun c=>if c=true then _ else _);refine Le.bnd (h1 _) fun c=>Le.ite (Le.bnd (h2 _) fun fl=>?_) Le.rfl;cases fl with
  | next fr'=>exact Unn h1 h2 n fr'
  | ret v=>exact Le.rfl
theorem Um4{o:V}{s:V->Fr->M Fr}{b b':Fr->M Fl}(h2:∀ fr,Le (b fr) (b' fr)):∀ n k fr,Le (loopF o s b n k fr) (loopF o s b' n k fr)
 | 0,k,fr=>by exact Le.fail
 | n+1,k,fr=>by
  refine Le.bnd Le.rfl fun r=>?_;cases r with
  | none=>exact Le.rfl
  | some v =>
   refine Le.bnd Le.rfl fun fr₁=>Le.bnd (h2 _) fun fl=>?_;cases fl with
   | next fr'=>exact Um4 h2 n _ fr'
   | ret v=>exact Le.rfl
theorem Le.seq{X m:M Fl}{f k:Fr->M Fl}(h:Le X (Mine.bnd m (goOn fun fr'=>Mine.bnd (f fr') (goOn k)))):Le X (Mine.bnd (Mine.bnd m (goOn f)) (goOn k)):=by
 rw [Uam];have:(fun a=>Mine.bnd (goOn f a) (goOn k))=goOn fun fr'=>Mine.bnd (f fr') (goOn k):=by
  funext fl;cases fl <;> rfl
 rw [this];exact h
theorem Umw:(goOn fun fr'=>ret (.next fr'))=(ret:Fl->M Fl):=by
 funext fl;cases fl <;> rfl
theorem x_stmt(hc:∀ a args,Le (call a args) (call' a args)){n:Nat}(ex:∀ fr ss k,Le (execK P call sc n fr ss k) (bnd (execSs P call' sc n fr ss) (goOn k))){fr:Fr}{s:Stmt}{r:List Stmt}{k G:Fr->M Fl}
  (rest:∀ fr',Le (execK P call sc (n+1) fr' r k) (G fr')):Le (execK P call sc (n+2) fr (s::r) k) (bnd (execS P call' sc (n+1) fr s) (goOn G)):=by
 have ih:=evK (P:=P) hc n;have goes:∀ (fl:Fl),Le (goOn (fun fr'=>execK P call sc (n+1) fr' r k) fl) (goOn G fl):=fun fl=>by
  cases fl with
  | next fr'=>exact rest fr'
  | ret v=>exact Le.rfl
 have body:∀ fr ss,Le (execK P call sc n fr ss fun fr'=>ret (.next fr')) (execSs P call' sc n fr ss):=fun fr ss=>by
  have:=ex fr ss (fun fr'=>ret (.next fr'));rw [Umw,Ukf] at this;exact this
 cases s with
 | Expr e p=>exact Le.itf fun w0=>Le.bb (ih.ev _ _ _ _) fun w0=>rest fr
 | Pass p=>exact rest fr
 | Return e p=>cases e with
  | none=>exact Le.re
  | some e=>exact Le.bb (ih.ev _ _ _ _) fun w0=>Le.re
 | Assign ts e p =>
  show Le (tgtB (tgtV ts) _ _ _) (bnd (tgtB (tgtV ts) _ _ _) _);cases tgtV ts with
  | tup ts=>exact Le.itf fun w0=>Le.bb (ih.ev _ _ _ _) fun v=>Le.bb (Le.li fun w0=>Le.rfl) fun vs=>Le.bb (Uki hc) fun fr'=>rest fr'
  | one t=>exact Le.bb (ih.ev _ _ _ _) fun v=>Le.bb (Ums hc) fun fr'=>rest fr'
  | bad=>exact Le.fail
 | AugAssign t op e p =>
  show Le (ob (augT t) _ _) (bnd (ob (augT t) _ _) _);cases augT t with
  | none=>exact Le.fail
  | some z=>exact Le.bb (ih.ev _ _ _ _) fun ov=>Le.bl fun a=>Le.bb (ih.ev _ _ _ _) fun b=>Le.bl fun v=>Le.bl fun w0=>rest fr
 | If t a b p=>exact Le.bb (ih.test _ _ _ _) fun c=>Le.it ((ex fr a _).trans (Le.bnd Le.rfl goes)) ((ex fr b _).trans (Le.bnd Le.rfl goes))
 | While t a b p=>cases b with
  | nil=>exact Le.bnd (Unn (fun fr=>(ih.test _ _ _ _).unB) (fun fr=>body fr a) _ _) goes
  | cons _ _=>exact Le.fail
 | For t it a b p =>
  show Le (ob (forV t b) _ _) (bnd (ob (forV t b) _ _) _);cases forV t b with
  | none=>exact Le.fail
  | some x=>exact Le.itf fun w0=>Le.bb (ih.ev _ _ _ _) fun o=>Le.bnd (Um4 (fun fr=>body fr a) _ _ _) goes
 | _=>exact Le.fail
theorem Ul5(hc:∀ a args,Le (call a args) (call' a args)):∀ n fr ss k,Le (execK P call sc n fr ss k) (bnd (execSs P call' sc n fr ss) (goOn k))
 | 0,fr,ss,k=>Le.fail
 | 1,fr,[],k=>Le.re
 | n+2,fr,[],k=>Le.re
 | 1,fr,s::r,k=>Le.fail
 | n+2,fr,s::r,k=>Le.seq (x_stmt hc (Ul5 hc n) fun fr'=>Ul5 hc (n+1) fr' r k)
theorem Unc:∀ d a args,Le (callK P d a args) (callD P d a args)
 | 0,a,args=>Le.fail
 | d+1,a,args=>by
  rw [callK,callD];cases lkN a P.fns with
  | none=>exact Le.fail
  | some f =>
   dsimp only;delta bodyK;cases bindP f.params args f.dflts with
   | none=>exact Le.fail
   | some fr =>
    have h:=Ul5 (P:=P) (sc:=f.scope) (Unc d) 60 fr f.body (fun fr=>ret (.next fr));rw [Umw,Ukf] at h;refine Le.bnd h fun fl=>?_;cases fl <;> exact Le.rfl
end
end Mine
end
section
open PySem PySem.W
namespace Mine
noncomputable def newL(r:Nat)(vs:List V):M V:=fun O=>match O[r]? with
 | some l=>some (.ref r l.length,O.add r (.list vs))
 | none=>none
noncomputable def newD(r:Nat)(es:List (Str×V)):M V:=fun O=>match O[r]? with
 | some l=>some (.ref r l.length,O.add r (.dict es))
 | none=>none
noncomputable def replS(o:V)(a b:Str):M V:=replV o [.Constant (.str a) 0 ⟨0,0,0,0⟩,.Constant (.str b) 0 ⟨0,0,0,0⟩]
noncomputable def stAt(ss:List Stmt)(i:Nat):Stmt:=match ss.drop i with
 | s::_=>s
 | []=>.Pass ⟨0,0,0,0⟩
noncomputable def inner:Stmt->List Stmt
 | .If _ a _ _=>a
 | .While _ a _ _=>a
 | .For _ _ a _ _=>a
 | _=>[]
noncomputable def others:Stmt->List Stmt
 | .If _ _ b _=>b
 | _=>[]
noncomputable def testE':Stmt->Expr
 | .While t _ _ _=>t
 | _=>.Constant .none 0 ⟨0,0,0,0⟩
noncomputable def setL(sc:Scope)(x:Str)(v:V)(fr:Fr):M Fr:=setVar sc x v fr
noncomputable def turnL(P:Prog)(c:CC)(sc:Scope)(n:Nat)(s:Stmt)(fr:Fr):M Fl:=execK P c sc n fr (inner s) fun fr'=>ret (.next fr')
noncomputable def testL(P:Prog)(c:CC)(sc:Scope)(n:Nat)(s:Stmt)(fr:Fr):M Bool:=bnd (testK P c n sc fr (testE' s) fun b=>ret (.ret (.bool b))) unB
end Mine
end
section
open PySem PySem.Calls PyProof.Rows PySem.W
namespace Mine
theorem Utk{tb:String->Option Builtin}{p:Program}{w:World}{n:Nat}{ann:Option Value}(s:Shared)(c:Code)(pos q:Pos):topRun tb p w n ann 2 s ⟨doneF .next,c,pos,[topFrame q]⟩=some s:=by
 cases s;rfl
noncomputable def bootS(w:World)(os:OsState):Shared:=⟨boot_heap w.params,#[],boot_drawn,boot_toks,os⟩
noncomputable def lookOk(p:Program)(h:Heap)(s:Shared):Bool:=staticsOk (importedModules p.main.body) h s.heap&&namesBound p s.heap&&gensDone s&&laidKept h s.heap
noncomputable abbrev SegT:=(String->Option Builtin)->Program->World->Nat->Option Value->Nat->Nat->SharedT->Thread->Option (Flow×SharedT×Code×Pos)
section
variable {p q:Program}{loose:List Str}{Xt:Shared->Bool}{α:Type}{Yf:Shared->α}{Ya:World->α}{N m n:Nat}{ann:Option Value}{env:Env}{c:Code}{pos pos' q0:Pos}{Sa:World->OsState->Shared}{Sb:World->OsState->SharedT}
theorem sh_eq{s:Shared}{a:Heap}{b:Array GenState}{c:Drawn}{d:Nat}(h:(s.heap,s.gens,s.drawn,s.toks)=(a,b,c,d)):s=⟨a,b,c,d,s.os⟩:=by cases s;cases h;rfl
theorem Uq5{w:World}{os:OsState}{r:SharedT}{p1:Pos}(pre:topGo treeTable p w m ann 12 (bootS w os) (topStub p)=some (Sa w os,⟨denote treeTable (.body (behindTheImports p) env),c,pos,[topFrame q0]⟩))
  (blk:segRun treeTable p w m ann 1 1 (Sa w os) (blockOf (behindTheImports p) env c pos [topFrame q0])=some (.next,(Sb w os).abs,c,pos'))
  (er:segRunT treeTable p w m ann 1 n (Sb w os) (piecesOf (behindTheImports p) env c pos' [topFrame q0])=some (.next,r,c,p1)) (le:Nat.ble (12+(1+(n+2))) N=true):topRun treeTable p w m ann N (bootS w os) (topStub p)=some r.abs:=by
 have a1:topRun treeTable p w m ann (n+2) (Sb w os).abs (restOf (behindTheImports p++[]) env c pos' [topFrame q0])=some r.abs:=piece_app (segRun_of er) (Utk r.abs c p1 q0);rw [List.append_nil] at a1;exact Nat.add_sub_cancel' (Nat.le_of_ble_eq_true le)▸topRun_mono (N - (12+(1+(n+2)))) _ _ _ _ (go_top pre (piece_block blk a1))
theorem Uud{w:World}{s r:Shared}(z1:s.heap.isNs mainGlobals=true)(zg:(s.gens.size==0)=true)(h:topRun treeTable p w s.heap.objs.size (s.heap.nsMap mainGlobals "__annotations__") N s (topStub p)=some r)(l:lookOk p s.heap r=true):topFrom treeTable p w N s=some r:=by
 delta topFrom;rw [z1,zg,h];show (match lookOk p s.heap r with | true=>some r | false=>none)=_;rw [l]
theorem Usn(o:∀ w:World,(fencedOpening treeTable p w N).map (fun s=>(s.heap,s.gens,s.drawn,s.toks))=some (boot_heap w.params,#[],boot_drawn,boot_toks))
  (sz:∀ w:World,((boot_heap w.params).isNs mainGlobals,(boot_heap w.params).objs.size,(boot_heap w.params).nsMap mainGlobals "__annotations__")=(true,m,ann))
  (pre:∀ w os,topGo treeTable p w m ann 12 (bootS w os) (topStub p)=some (Sa w os,⟨denote treeTable (.body (behindTheImports p) env),c,pos,[topFrame q0]⟩))
  (blk:∀ w os,segRun treeTable p w m ann 1 1 (Sa w os) (blockOf (behindTheImports p) env c pos [topFrame q0])=some (.next,(Sb w os).abs,c,pos'))
  (run:∀ w os,(segRunT treeTable p w m ann 1 n (Sb w os) (piecesOf (behindTheImports p) env c pos' [topFrame q0])).map (fun r=>(r.1,r.2.2.1,lookOk p (boot_heap w.params) r.2.1.abs,openSeen q loose (importedModules p.main.body) Xt true r.2.1.abs,Yf r.2.1.abs)) =
   some (.next,c,true,openGood q loose,Ya w)) (le:Nat.ble (12+(1+(n+2))) N=true):LeftO p q loose Xt Yf Ya N:=fun w =>
 xEAA (Option.map_eq_some_iff.mp (o w)) fun s0 e eo=>xEAA (Option.map_eq_some_iff.mp (run w s0.os)) fun r er r1=>by
  have z:=sz w;have t:=Uq5 (pre w s0.os) (blk w s0.os) (er.trans (congrArg some (Prod.ext (congrArg (·.1) r1) (Prod.ext rfl (Prod.ext (congrArg (·.2.1) r1) rfl))))) le;have z2:(boot_heap w.params).objs.size=m:=congrArg (fun x=>x.2.1) z;have z3:(boot_heap w.params).nsMap mainGlobals "__annotations__"=ann:=congrArg (fun x=>x.2.2) z;have t:=Uud (s:=bootS w s0.os) (congrArg (fun x=>x.1) z) rfl (by rw [show (bootS w s0.os).heap=boot_heap w.params from rfl,z2,z3];exact t) (congrArg (fun x=>x.2.2.1) r1);delta openEnds;rw [e,sh_eq eo];exact (congrArg (Option.map _) t).trans (congrArg some (congrArg (fun x=>x.2.2.2) r1))
noncomputable def RunS{β:Type}(gd:β)(sr:SegT)(tt:String->Option Builtin)(osn:Program->List Str->List Str->(Shared->Bool)->Bool->Shared->β)(p q:Program)(loose:List Str)(Xt:Shared->Bool)(Yf:Shared->α)(Ya:World->α)(m n:Nat)(ann:Option Value)(env:Env)(c:Code)(pos q0:Pos)(Sb:World->OsState->SharedT):Prop :=
 ∀ w,(fun os=>(sr tt p w m ann 1 n (Sb w os) (piecesOf (behindTheImports p) env c pos [topFrame q0])).map (fun r=>(r.1,r.2.2.1,lookOk p (boot_heap w.params) r.2.1.abs,osn q loose (importedModules p.main.body) Xt true r.2.1.abs,Yf r.2.1.abs))) =
   fun w0=>some (Flow.next,c,true,gd,Ya w)
theorem run_of(h:RunS (openGood q loose) PySem.W.Fast.tw10110043849684766642 PySem.W.Fast.tw14364793385576792824 PySem.W.Fast.tw4187177175401517315 p q loose Xt Yf Ya m n ann env c pos q0 Sb):∀ w os,(segRunT treeTable p w m ann 1 n (Sb w os) (piecesOf (behindTheImports p) env c pos [topFrame q0])).map (fun r=>(r.1,r.2.2.1,lookOk p (boot_heap w.params) r.2.1.abs,openSeen q loose (importedModules p.main.body) Xt true r.2.1.abs,Yf r.2.1.abs)) =
   some (.next,c,true,openGood q loose,Ya w):=by
 rw [<- PySem.W.Fast.te10110043849684766642,<- PySem.W.Fast.te14364793385576792824,<- PySem.W.Fast.te4187177175401517315] at h;exact fun w os=>congrFun (h w) os
end
noncomputable section
noncomputable abbrev prg:Program:=PySem.Challenge.rw_nt0611_03.row.toRowW.1
noncomputable def tp(k:Nat):Stmt:=(prg.main.body[k]?).getD (.Pass default)
noncomputable def mt(k j:Nat):Stmt:=match tp k with
 | .ClassDef _ _ _ b _ _ _ _ _ _ _=>(b[j]?).getD (.Pass default)
 | s=>s
noncomputable def vw:Program:=view prg [0,2,3,5,6,7,8,9,10,11,13,14,16,18,19,20,21,22,23,24,25,26,27,28,29,30,31,33,35,36,37,38,39,41,42,43,44,45,46,47,48,49,50,51,52,53,54,55]
noncomputable def fo(n q:String)(s:Stmt)(d:Value)(mo:String)(t c:Nat):Obj:=match s with
 | .FunctionDef _ a b _ _ _ sc _ _ _=>⟨.type "function",none,.func ⟨Y n,Y q,a,.stmts b,sc,3,[],d,.none,.none,.str (Y mo) t,none,.ref c,.none,0⟩,#[]⟩
 | _=>default
noncomputable def co(n q:String)(t a b c d e:Nat)(l:List Value)(u:Nat):Obj:=⟨.type "code",none,.fields (([.str (Y n) t,.str (Y q) (t+1),.str Qdh (t+2),.int a 0,.int b 0,.int c 0,.int d 0,.int e 0]:List Value)++l++[Value.str Qdh u]).toArray,#[]⟩
noncomputable def ck(n q:String)(t a b r u:Nat):Obj:=co n q t a b 0 0 3 [.ref r,.bool true,.int 181 0,.ref (r+1),.none,.ref (r+2),.ref (r+3),.ref (r+4),.int u 0,.int a 0] (u+1)
noncomputable def dc(P:Params)(c:Value)(n:Nat)(l:List (String×Nat×Value)):Obj:=⟨c,none,.dict (l.map fun e=>⟨PyData.keyHash P (Y e.1),.str (Y e.1) e.2.1,e.2.2⟩).toArray n,#[]⟩
noncomputable def K(P:Params):Frag:=[
(3,dc P (.type "dict") 57 [("__name__",165,.str (Y "law_nt0611_03") 788),("__doc__",166,.none),("__package__",167,.none),("__loader__",168,.builtin "__main__.__loader__#opaque"),("__spec__",169,.none),("__annotations__",170,.ref 6),("__builtins__",171,.ref 4),("__file__",173,.str Qdh 172),("__cached__",174,.none),("_wall",193,.ref 21),("HtmlFault",224,.ref 38),("Misused",240,.ref 51),("is_blank",249,.ref 60),("is_upper",256,.ref 67),("is_letter",263,.ref 74),("lower",270,.ref 81),("is_surrogate",277,.ref 88),("is_noncharacter",284,.ref 95),("is_control",291,.ref 102),("input_error",300,.ref 109),("Stream",355,.ref 147),("Tokenizer",558,.ref 310),("finish_tag",567,.ref 321),("cut_tag",574,.ref 328),("leave_name",581,.ref 335),("begin_reference",588,.ref 342),("before_attr_name_state",596,.ref 349),("attr_name_state",604,.ref 356),("after_attr_name_state",612,.ref 363),("before_attr_value_state",620,.ref 370),("quoted_value",629,.ref 377),("double_quoted_state",636,.ref 384),("single_quoted_state",643,.ref 391),("unquoted_state",651,.ref 398),("after_quoted_state",659,.ref 405),("attr_states",665,.ref 412),("Draft",747,.ref 464),("tag_open_state",757,.ref 475),("end_tag_open_state",765,.ref 482),("tag_name_state",773,.ref 489),("self_closing_state",781,.ref 496),("tag_states",787,.ref 503),("_law_number",797,.ref 510),("_law_text",803,.ref 515),("_law_pieces",815,.ref 522),("_law_newlines",822,.ref 529),("_law_tags",833,.ref 536),("_law_names",843,.ref 543),("_law_values",854,.ref 550),("_law_mark",861,.ref 557),("_law_token",867,.ref 562),("_law_give",875,.ref 569),("_law_put",884,.ref 576),("_law_deed",890,.ref 581),("_law_go",904,.ref 588),("_law_told",912,.ref 595),("law",933,.ref 602)]),
(20,ck "_wall" "_wall" 187 1 1 15 191),
(21,fo "_wall" "_wall" (tp 0) (.none) "__main__" 164 20),
(34,ck "__init__" "HtmlFault.__init__" 208 7 2 29 213),
(35,fo "__init__" "HtmlFault.__init__" (mt 2 0) (.none) "htmltree.faults" 194 34),
(37,dc P (.type "dict") 3 [("__module__",203,.str (Y "htmltree.faults") 194),("__firstlineno__",207,.int 5 206),("__init__",215,.ref 35),("__static_attributes__",217,.ref 36),("__weakref__",219,.ref 39),("__doc__",220,.none)]),
(38,{ cls:=.type "type",data:=.cls { name:=Y "HtmlFault",bases:=[.type "Exception"],mro:=[.ref 38,.type "Exception",.type "BaseException",.type "object"],ns:=37,qualname:=Y "HtmlFault",subclasses:=[.ref 51] },slots:=#[some (.ref 22),none,some (.str (Y "HtmlFault") 196),some (.str (Y "HtmlFault") 204),some (.builtin "Exception.__new__"),some (.bool true)] }),
(50,dc P (.type "dict") 2 [("__module__",232,.str (Y "htmltree.faults") 194),("__firstlineno__",236,.int 10 235),("__static_attributes__",237,.ref 49),("__doc__",238,.none)]),
(51,{ cls:=.type "type",data:=.cls { name:=Y "Misused",bases:=[.ref 38],mro:=[.ref 51,.ref 38,.type "Exception",.type "BaseException",.type "object"],ns:=50,qualname:=Y "Misused" },slots:=#[some (.ref 42),none,some (.str (Y "Misused") 225),some (.str (Y "Misused") 233),some (.builtin "Exception.__new__"),some (.bool true)] }),
(59,ck "is_blank" "is_blank" 243 13 1 54 247),
(60,fo "is_blank" "is_blank" (tp 5) (.none) "htmltree.signs" 241 59),
(66,ck "is_upper" "is_upper" 250 15 1 61 254),
(67,fo "is_upper" "is_upper" (tp 6) (.none) "htmltree.signs" 241 66),
(73,ck "is_letter" "is_letter" 257 17 1 68 261),
(74,fo "is_letter" "is_letter" (tp 7) (.none) "htmltree.signs" 241 73),
(80,ck "lower" "lower" 264 19 1 75 268),
(81,fo "lower" "lower" (tp 8) (.none) "htmltree.signs" 241 80),
(87,ck "is_surrogate" "is_surrogate" 271 23 1 82 275),
(88,fo "is_surrogate" "is_surrogate" (tp 9) (.none) "htmltree.signs" 241 87),
(94,ck "is_noncharacter" "is_noncharacter" 278 25 1 89 282),
(95,fo "is_noncharacter" "is_noncharacter" (tp 10) (.none) "htmltree.signs" 241 94),
(101,ck "is_control" "is_control" 285 27 1 96 289),
(102,fo "is_control" "is_control" (tp 11) (.none) "htmltree.signs" 241 101),
(108,ck "input_error" "input_error" 294 30 1 103 298),
(109,fo "input_error" "input_error" (tp 13) (.none) "htmltree.stream" 292 108),
(122,ck "__init__" "Stream.__init__" 313 40 1 117 317),
(123,fo "__init__" "Stream.__init__" (mt 14 0) (.none) "htmltree.stream" 292 122),
(129,ck "feed" "Stream.feed" 320 46 2 124 327),
(130,fo "feed" "Stream.feed" (mt 14 1) (.none) "htmltree.stream" 292 129),
(136,ck "end" "Stream.end" 330 59 1 131 334),
(137,fo "end" "Stream.end" (mt 14 2) (.none) "htmltree.stream" 292 136),
(143,ck "many" "Stream.many" 337 62 1 138 341),
(144,fo "many" "Stream.many" (mt 14 3) (.none) "htmltree.stream" 292 143),
(146,dc P (.type "dict") 4 [("__module__",308,.str (Y "htmltree.stream") 292),("__firstlineno__",312,.int 38 311),("__init__",319,.ref 123),("feed",329,.ref 130),("end",336,.ref 137),("many",343,.ref 144),("__static_attributes__",348,.ref 145),("__dict__",350,.ref 148),("__weakref__",352,.ref 149),("__doc__",353,.none)]),
(147,{ cls:=.type "type",data:=.cls { name:=Y "Stream",bases:=[.type "object"],mro:=[.ref 147,.type "object"],ns:=146,qualname:=Y "Stream" },slots:=#[none,none,some (.str (Y "Stream") 301),some (.str (Y "Stream") 309),some (.builtin "object.__new__"),some (.bool true)] }),
(159,{ cls:=.type "tuple",data:=.seq #[.str Qaw 370,.str Qa 371] }),
(165,ck "__init__" "Tokenizer.__init__" 372 67 4 160 379),
(166,fo "__init__" "Tokenizer.__init__" (mt 16 0) (.ref 159) "htmltree.tokenizer" 356 165),
(172,ck "feed" "Tokenizer.feed" 382 83 2 167 387),
(173,fo "feed" "Tokenizer.feed" (mt 16 1) (.none) "htmltree.tokenizer" 356 172),
(179,ck "end" "Tokenizer.end" 390 87 1 174 394),
(180,fo "end" "Tokenizer.end" (mt 16 2) (.none) "htmltree.tokenizer" 356 179),
(186,ck "next" "Tokenizer.next" 397 91 1 181 402),
(187,fo "next" "Tokenizer.next" (mt 16 3) (.none) "htmltree.tokenizer" 356 186),
(193,ck "to" "Tokenizer.to" 405 98 2 188 410),
(194,fo "to" "Tokenizer.to" (mt 16 4) (.none) "htmltree.tokenizer" 356 193),
(200,ck "again" "Tokenizer.again" 413 101 2 195 418),
(201,fo "again" "Tokenizer.again" (mt 16 5) (.none) "htmltree.tokenizer" 356 200),
(207,ck "error" "Tokenizer.error" 421 105 2 202 426),
(208,fo "error" "Tokenizer.error" (mt 16 6) (.none) "htmltree.tokenizer" 356 207),
(214,ck "emit" "Tokenizer.emit" 429 108 2 209 434),
(215,fo "emit" "Tokenizer.emit" (mt 16 7) (.none) "htmltree.tokenizer" 356 214),
(221,ck "emit_sign" "Tokenizer.emit_sign" 437 113 2 216 442),
(222,fo "emit_sign" "Tokenizer.emit_sign" (mt 16 8) (.none) "htmltree.tokenizer" 356 221),
(228,ck "emit_text" "Tokenizer.emit_text" 445 116 2 223 451),
(229,fo "emit_text" "Tokenizer.emit_text" (mt 16 9) (.none) "htmltree.tokenizer" 356 228),
(235,ck "emit_draft" "Tokenizer.emit_draft" 454 120 1 230 459),
(236,fo "emit_draft" "Tokenizer.emit_draft" (mt 16 10) (.none) "htmltree.tokenizer" 356 235),
(242,ck "emit_eof" "Tokenizer.emit_eof" 462 130 1 237 466),
(243,fo "emit_eof" "Tokenizer.emit_eof" (mt 16 11) (.none) "htmltree.tokenizer" 356 242),
(249,ck "is_apt" "Tokenizer.is_apt" 469 134 1 244 473),
(250,fo "is_apt" "Tokenizer.is_apt" (mt 16 12) (.none) "htmltree.tokenizer" 356 249),
(251,{ cls:=.type "tuple",data:=.seq #[.bool false] }),
(257,ck "looks" "Tokenizer.looks" 476 137 3 252 482),
(258,fo "looks" "Tokenizer.looks" (mt 16 13) (.ref 251) "htmltree.tokenizer" 356 257),
(264,ck "take" "Tokenizer.take" 485 140 2 259 490),
(265,fo "take" "Tokenizer.take" (mt 16 14) (.none) "htmltree.tokenizer" 356 264),
(271,ck "wait" "Tokenizer.wait" 493 143 1 266 497),
(272,fo "wait" "Tokenizer.wait" (mt 16 15) (.none) "htmltree.tokenizer" 356 271),
(278,ck "in_value" "Tokenizer.in_value" 500 146 1 273 504),
(279,fo "in_value" "Tokenizer.in_value" (mt 16 16) (.none) "htmltree.tokenizer" 356 278),
(285,ck "flush" "Tokenizer.flush" 507 149 1 280 511),
(286,fo "flush" "Tokenizer.flush" (mt 16 17) (.none) "htmltree.tokenizer" 356 285),
(292,ck "step" "Tokenizer.step" 514 156 1 287 520),
(293,fo "step" "Tokenizer.step" (mt 16 18) (.none) "htmltree.tokenizer" 356 292),
(299,ck "is_ready" "Tokenizer.is_ready" 523 166 1 294 527),
(300,fo "is_ready" "Tokenizer.is_ready" (mt 16 19) (.none) "htmltree.tokenizer" 356 299),
(306,ck "run" "Tokenizer.run" 530 171 1 301 534),
(307,fo "run" "Tokenizer.run" (mt 16 20) (.none) "htmltree.tokenizer" 356 306),
(309,dc P (.type "dict") 4 [("__module__",365,.str (Y "htmltree.tokenizer") 356),("__firstlineno__",369,.int 65 368),("__init__",381,.ref 166),("feed",389,.ref 173),("end",396,.ref 180),("next",404,.ref 187),("to",412,.ref 194),("again",420,.ref 201),("error",428,.ref 208),("emit",436,.ref 215),("emit_sign",444,.ref 222),("emit_text",453,.ref 229),("emit_draft",461,.ref 236),("emit_eof",468,.ref 243),("is_apt",475,.ref 250),("looks",484,.ref 258),("take",492,.ref 265),("wait",499,.ref 272),("in_value",506,.ref 279),("flush",513,.ref 286),("step",522,.ref 293),("is_ready",529,.ref 300),("run",536,.ref 307),("__static_attributes__",551,.ref 308),("__dict__",553,.ref 311),("__weakref__",555,.ref 312),("__doc__",556,.none)]),
(310,{ cls:=.type "type",data:=.cls { name:=Y "Tokenizer",bases:=[.type "object"],mro:=[.ref 310,.type "object"],ns:=309,qualname:=Y "Tokenizer" },slots:=#[none,none,some (.str (Y "Tokenizer") 358),some (.str (Y "Tokenizer") 366),some (.builtin "object.__new__"),some (.bool true)] }),
(320,ck "finish_tag" "finish_tag" 561 176 1 315 565),
(321,fo "finish_tag" "finish_tag" (tp 18) (.none) "htmltree.attrstates" 559 320),
(327,ck "cut_tag" "cut_tag" 568 179 1 322 572),
(328,fo "cut_tag" "cut_tag" (tp 19) (.none) "htmltree.attrstates" 559 327),
(334,ck "leave_name" "leave_name" 575 182 1 329 579),
(335,fo "leave_name" "leave_name" (tp 20) (.none) "htmltree.attrstates" 559 334),
(341,ck "begin_reference" "begin_reference" 582 185 1 336 586),
(342,fo "begin_reference" "begin_reference" (tp 21) (.none) "htmltree.attrstates" 559 341),
(348,ck "before_attr_name_state" "before_attr_name_state" 589 188 1 343 594),
(349,fo "before_attr_name_state" "before_attr_name_state" (tp 22) (.none) "htmltree.attrstates" 559 348),
(355,ck "attr_name_state" "attr_name_state" 597 202 1 350 602),
(356,fo "attr_name_state" "attr_name_state" (tp 23) (.none) "htmltree.attrstates" 559 355),
(362,ck "after_attr_name_state" "after_attr_name_state" 605 217 1 357 610),
(363,fo "after_attr_name_state" "after_attr_name_state" (tp 24) (.none) "htmltree.attrstates" 559 362),
(369,ck "before_attr_value_state" "before_attr_value_state" 613 232 1 364 618),
(370,fo "before_attr_value_state" "before_attr_value_state" (tp 25) (.none) "htmltree.attrstates" 559 369),
(376,ck "quoted_value" "quoted_value" 621 245 2 371 627),
(377,fo "quoted_value" "quoted_value" (tp 26) (.none) "htmltree.attrstates" 559 376),
(383,ck "double_quoted_state" "double_quoted_state" 630 258 1 378 634),
(384,fo "double_quoted_state" "double_quoted_state" (tp 27) (.none) "htmltree.attrstates" 559 383),
(390,ck "single_quoted_state" "single_quoted_state" 637 260 1 385 641),
(391,fo "single_quoted_state" "single_quoted_state" (tp 28) (.none) "htmltree.attrstates" 559 390),
(397,ck "unquoted_state" "unquoted_state" 644 262 1 392 649),
(398,fo "unquoted_state" "unquoted_state" (tp 29) (.none) "htmltree.attrstates" 559 397),
(404,ck "after_quoted_state" "after_quoted_state" 652 279 1 399 657),
(405,fo "after_quoted_state" "after_quoted_state" (tp 30) (.none) "htmltree.attrstates" 559 404),
(411,ck "attr_states" "attr_states" 660 292 0 406 663),
(412,fo "attr_states" "attr_states" (tp 31) (.none) "htmltree.attrstates" 559 411),
(425,ck "__init__" "Draft.__init__" 680 297 3 420 686),
(426,fo "__init__" "Draft.__init__" (mt 33 0) (.none) "htmltree.tokens" 666 425),
(432,ck "begin_attr" "Draft.begin_attr" 689 307 1 427 693),
(433,fo "begin_attr" "Draft.begin_attr" (mt 33 1) (.none) "htmltree.tokens" 666 432),
(439,ck "add_name" "Draft.add_name" 696 310 2 434 702),
(440,fo "add_name" "Draft.add_name" (mt 33 2) (.none) "htmltree.tokens" 666 439),
(446,ck "add_value" "Draft.add_value" 705 314 2 441 711),
(447,fo "add_value" "Draft.add_value" (mt 33 3) (.none) "htmltree.tokens" 666 446),
(453,ck "check_attr" "Draft.check_attr" 714 318 1 448 720),
(454,fo "check_attr" "Draft.check_attr" (mt 33 4) (.none) "htmltree.tokens" 666 453),
(460,ck "token" "Draft.token" 723 326 1 455 729),
(461,fo "token" "Draft.token" (mt 33 5) (.none) "htmltree.tokens" 666 460),
(463,dc P (.type "dict") 4 [("__module__",675,.str (Y "htmltree.tokens") 666),("__firstlineno__",679,.int 295 678),("__init__",688,.ref 426),("begin_attr",695,.ref 433),("add_name",704,.ref 440),("add_value",713,.ref 447),("check_attr",722,.ref 454),("token",731,.ref 461),("__static_attributes__",740,.ref 462),("__dict__",742,.ref 465),("__weakref__",744,.ref 466),("__doc__",745,.none)]),
(464,{ cls:=.type "type",data:=.cls { name:=Y "Draft",bases:=[.type "object"],mro:=[.ref 464,.type "object"],ns:=463,qualname:=Y "Draft" },slots:=#[none,none,some (.str (Y "Draft") 668),some (.str (Y "Draft") 676),some (.builtin "object.__new__"),some (.bool true)] }),
(474,ck "tag_open_state" "tag_open_state" 750 337 1 469 755),
(475,fo "tag_open_state" "tag_open_state" (tp 35) (.none) "htmltree.tagstates" 748 474),
(481,ck "end_tag_open_state" "end_tag_open_state" 758 358 1 476 763),
(482,fo "end_tag_open_state" "end_tag_open_state" (tp 36) (.none) "htmltree.tagstates" 748 481),
(488,ck "tag_name_state" "tag_name_state" 766 374 1 483 771),
(489,fo "tag_name_state" "tag_name_state" (tp 37) (.none) "htmltree.tagstates" 748 488),
(495,ck "self_closing_state" "self_closing_state" 774 391 1 490 779),
(496,fo "self_closing_state" "self_closing_state" (tp 38) (.none) "htmltree.tagstates" 748 495),
(502,ck "tag_states" "tag_states" 782 403 0 497 785),
(503,fo "tag_states" "tag_states" (tp 39) (.none) "htmltree.tagstates" 748 502),
(509,ck "_law_number" "_law_number" 790 406 2 504 795),
(510,fo "_law_number" "_law_number" (tp 41) (.none) "law_nt0611_03" 788 509),
(514,co "_law_text" "_law_text" 798 408 1 0 0 3 [.ref 511,.bool true,.int 181 0,.ref 512,.none,.none,.none,.ref 513,.int 801 0,.int 408 0] 802),
(515,fo "_law_text" "_law_text" (tp 42) (.none) "law_nt0611_03" 788 514),
(521,ck "_law_pieces" "_law_pieces" 804 413 2 516 813),
(522,fo "_law_pieces" "_law_pieces" (tp 43) (.none) "law_nt0611_03" 788 521),
(528,ck "_law_newlines" "_law_newlines" 816 420 1 523 820),
(529,fo "_law_newlines" "_law_newlines" (tp 44) (.none) "law_nt0611_03" 788 528),
(535,ck "_law_tags" "_law_tags" 823 422 0 530 831),
(536,fo "_law_tags" "_law_tags" (tp 45) (.none) "law_nt0611_03" 788 535),
(542,ck "_law_names" "_law_names" 834 434 0 537 841),
(543,fo "_law_names" "_law_names" (tp 46) (.none) "law_nt0611_03" 788 542),
(549,ck "_law_values" "_law_values" 844 444 0 544 852),
(550,fo "_law_values" "_law_values" (tp 47) (.none) "law_nt0611_03" 788 549),
(556,ck "_law_mark" "_law_mark" 855 456 1 551 859),
(557,fo "_law_mark" "_law_mark" (tp 48) (.none) "law_nt0611_03" 788 556),
(561,co "_law_token" "_law_token" 862 460 1 0 0 3 [.ref 558,.bool true,.int 181 0,.ref 559,.none,.none,.none,.ref 560,.int 865 0,.int 460 0] 866),
(562,fo "_law_token" "_law_token" (tp 49) (.none) "law_nt0611_03" 788 561),
(568,ck "_law_give" "_law_give" 868 466 1 563 873),
(569,fo "_law_give" "_law_give" (tp 50) (.none) "law_nt0611_03" 788 568),
(575,ck "_law_put" "_law_put" 876 476 2 570 882),
(576,fo "_law_put" "_law_put" (tp 51) (.none) "law_nt0611_03" 788 575),
(580,co "_law_deed" "_law_deed" 885 481 3 0 0 3 [.ref 577,.bool true,.int 181 0,.ref 578,.none,.none,.none,.ref 579,.int 888 0,.int 481 0] 889),
(581,fo "_law_deed" "_law_deed" (tp 52) (.none) "law_nt0611_03" 788 580),
(587,ck "_law_go" "_law_go" 891 503 3 582 902),
(588,fo "_law_go" "_law_go" (tp 53) (.none) "law_nt0611_03" 788 587),
(594,ck "_law_told" "_law_told" 905 519 1 589 910),
(595,fo "_law_told" "_law_told" (tp 54) (.none) "law_nt0611_03" 788 594),
(601,ck "law" "law" 913 522 1 596 931),
(602,fo "law" "law" (tp 55) (.none) "law_nt0611_03" 788 601)]
noncomputable def kas:List Addr:=[3,20,21,34,35,37,38,50,51,59,60,66,67,73,74,80,81,87,88,94,95,101,102,108,109,122,123,129,130,136,137,143,144,146,147,159,165,166,172,173,179,180,186,187,193,194,200,201,207,208,214,215,221,222,228,229,235,236,242,243,249,250,251,257,258,264,265,271,272,278,279,285,286,292,293,299,300,306,307,309,310,320,321,327,328,334,335,341,342,348,349,355,356,362,363,369,370,376,377,383,384,390,391,397,398,404,405,411,412,425,426,432,433,439,440,446,447,453,454,460,461,463,464,474,475,481,482,488,489,495,496,502,503,509,510,514,515,521,522,528,529,535,536,542,543,549,550,556,557,561,562,568,569,575,576,580,581,587,588,594,595,601,602]
noncomputable def o15(P:Params):List Obj:=[boot_o_0 P,boot_o_1 P,boot_o_2 P,boot_o_3 P,boot_o_4 P,boot_o_5 P,boot_o_6 P,boot_o_7 P,boot_o_8 P,boot_o_9 P,boot_o_10 P,⟨.type "tuple",none,.seq #[],#[]⟩,⟨.none,none,.fields #[],#[]⟩,
 ⟨.type "code",none,.fields #[.str (Y "<module>") 182,.str (Y "<module>") 183,.str Qdh 184,.int 1 0,.int 0 0,.int 0 0,.int 0 0,.int 0 0,.ref 11,.bool false,.int 181 0,.ref 12,.none,.none,.none,.none,.int 185 0,.int 1 0,.str Qdh 186],#[]⟩,
 ⟨.type "frame",none,.plain,#[some (.ref 13),some (.ref 3),some (.ref 3),none,some (.str (Y "__main__") 164),none,some (.ref 0)]⟩]
noncomputable def ev0:Env:={ scope:=prg.main.scope,locals:=mainNs,globals:=mainNs,cells:=[],code:=.ref 13,frame:=some 14 }
noncomputable def p0:Pos:={ line:=0,col:=0,endLine:=0,endCol:=0 }
noncomputable def sa(w:World)(os:OsState):Shared:=⟨⟨⟨o15 w.params⟩,{}⟩,#[],{},187,os⟩
noncomputable def sb(w:World)(os:OsState):SharedT:=⟨((o15 w.params).zipIdx).foldl (fun t x=>t.ins x.2 x.1) .nil,15,{},#[],{},187,os⟩
noncomputable def hk:Hook:=kHook K kas (fun w0=>by kernel_rfl)
noncomputable def xt(s:Shared):Bool:=xlAt vw [] s&&recOk (RowW.records PySem.Challenge.rw_nt0611_03.row.toRowW) s
theorem h_open:∀ w:World,(fencedOpening treeTable prg w 10100).map (fun s=>(s.heap,s.gens,s.drawn,s.toks))=some (boot_heap w.params,#[],boot_drawn,boot_toks):=boot_open (by kernel_rfl) (by decide) (fun w0=>by kernel_rfl)
theorem h_size:∀ w:World,((boot_heap w.params).isNs mainGlobals,(boot_heap w.params).objs.size,(boot_heap w.params).nsMap mainGlobals "__annotations__")=(true,11,some (.ref 6)):=fun w0=>by kernel_rfl
theorem h_pre:∀ w os,topGo treeTable prg w 11 (some (.ref 6)) 12 (bootS w os) (topStub prg)=some (sa w os,⟨denote treeTable (.body (behindTheImports prg) ev0),.body (behindTheImports prg) ev0,p0,[topFrame p0]⟩):=fun w0 w0=>by kernel_rfl
theorem h_blk:∀ w os,segRun treeTable prg w 11 (some (.ref 6)) 1 1 (sa w os) (blockOf (behindTheImports prg) ev0 (.body (behindTheImports prg) ev0) p0 [topFrame p0])=some (.next,(sb w os).abs,.body (behindTheImports prg) ev0,p0):=fun w0 w0=>by kernel_rfl
theorem h_run:RunS (openGood vw []) PySem.W.Fast.tw10110043849684766642 PySem.W.Fast.tw14364793385576792824 PySem.W.Fast.tw4187177175401517315 prg vw [] xt hk.obs hk.val 11 5000 (some (.ref 6)) ev0 (.body (behindTheImports prg) ev0) p0 p0 sb:=fun w0=>by kernel_rfl
theorem left:LeftO prg vw [] xt hk.obs hk.val 10100:=Usn h_open h_size h_pre h_blk (run_of h_run) (by decide)
end
noncomputable def fnAddrs:List Addr:=[60,67,74,81,88,95,102,109,123,130,137,173,180,187,194,201,208,215,222,229,236,243,293,300,307,321,328,335,342,349,356,363,370,377,384,391,398,405,412,426,433,440,447,454,461,475,482,489,496,503,510,515,522,529,536,543,550,557,562,569,576,581,588,595,602]
noncomputable def clsL:List (Addr×Cls):=[
 (464,⟨0,[(Y "__init__",426),(Qcw,433),(Qcl,440),(Qcm,447),(Qdo,454),(Qal,461)],[Qah,Y "name",Y "text",Y "public",Y "system",Y "is_quirks",Y "is_closing",Y "attrs"],426⟩),
 (147,⟨1,[(Y "__init__",123),(Qbz,130),(Qar,137)],[Qaq,Y "is_closed",Y "is_return",Y "errors"],123⟩),
 (310,⟨2,[(Y "__init__",166),(Qbz,173),(Qar,180),(Qbd,187),(Qam,194),(Qax,201),(Qai,208),(Y "emit",215),(Qdi,222),(Qdp,229),(Qcx,236),(Qca,243),(Y "step",293),(Qdq,300),(Qcb,307)],[Qn,Y "stream",Y "at",Y "state",Y "back",Y "out",Y "errors",Y "draft",Y "buffer",Y "code",Y "last",Y "is_foreign",Y "is_waiting",Y "is_done"],166⟩)]
noncomputable def globL:List (Str×Addr):=[(Y "is_blank",60),(Y "is_upper",67),(Y "is_letter",74),(Y "lower",81),(Y "is_surrogate",88),(Y "is_noncharacter",95),(Y "is_control",102),(Y "input_error",109),(Y "finish_tag",321),(Y "cut_tag",328),(Y "leave_name",335),(Y "begin_reference",342),(Y "before_attr_name_state",349),(Y "attr_name_state",356),(Y "after_attr_name_state",363),(Y "before_attr_value_state",370),(Y "quoted_value",377),(Y "double_quoted_state",384),(Y "single_quoted_state",391),(Y "unquoted_state",398),(Y "after_quoted_state",405),(Y "attr_states",412),(Y "tag_open_state",475),(Y "end_tag_open_state",482),(Y "tag_name_state",489),(Y "self_closing_state",496),(Y "tag_states",503),(Y "_law_number",510),(Y "_law_text",515),(Y "_law_pieces",522),(Y "_law_newlines",529),(Y "_law_tags",536),(Y "_law_names",543),(Y "_law_values",550),(Y "_law_mark",557),(Y "_law_token",562),(Y "_law_give",569),(Y "_law_put",576),(Y "_law_deed",581),(Y "_law_go",588),(Y "_law_told",595),(Y "law",602),(Y "Draft",464),(Y "Stream",147),(Y "Tokenizer",310)]
noncomputable def siteF(l c:Nat):Option Nat:=(([(293,11,3),(404,11,3),(305,21,4),(308,26,5),(331,15,6),(41,21,7),(44,22,8),(73,19,9),(74,22,10),(414,18,11),(424,15,12),(427,15,12),(429,11,12),(431,14,12),(433,11,13),(436,13,12),(438,11,12),(441,12,12),(443,11,13),(446,13,12),(449,12,12),(451,11,12),(452,12,12),(455,11,13),(477,12,14),(479,15,14),(484,45,15),(529,11,16),(530,16,14),(529,44,17),(529,58,18),(529,83,15),(529,96,19),(531,12,20)]:List (Nat×Nat×Nat)).find? fun x=>Nat.beq x.1 l&&Nat.beq x.2.1 c).map (·.2.2)
noncomputable def initA:Addr:=166
noncomputable def lawA:Addr:=602
noncomputable def P(p:Params):Prog:={ fns:=(initA,fnAt (K p) [.str ""] initA)::fnAddrs.map (fun a=>(a,fnAt (K p) [] a)),clss:=clsL,globs:=globL,site:=siteF }
theorem fns_ok(p:Params):fnsOk (K p) fnAddrs=true:=by kernel_rfl
theorem cls_ok'(p:Params):clsL.all (fun q=>clsOk (K p) q.1 q.2)=true:=by kernel_rfl
theorem Us7(p:Params):globOk (K p) (P p)=true:=by kernel_rfl
noncomputable def fdI(p:Params):FuncData:=(fdAt (K p) initA).getD default
noncomputable def dflTok(K:Frag)(fd:FuncData):Tok:=match fd.defaults with
 | .ref T=>match K.lookup T with
  | some ⟨_,_,.seq its _,_⟩=>match its.toList with
   | [_,.str _ t]=>t
   | _=>0
  | _=>0
 | _=>0
theorem fdI_is(p:Params):fdAt (K p) initA=some (fdI p):=by kernel_rfl
theorem Upr(p:Params):(argNames (fdI p)).length=4:=by kernel_rfl
theorem bind4(p:Params)(a b c d:Value)(S:Setting):peek (K p) S (bindArgs (fdI p) ⟨[a,b,c,d],[]⟩)=some ((argNames (fdI p)).zip [a,b,c,d]):=by kernel_rfl
theorem bind3(p:Params)(a b c:Value)(S:Setting):peek (K p) S (bindArgs (fdI p) ⟨[a,b,c],[]⟩)=some ((argNames (fdI p)).zip [a,b,c,.str "" (dflTok (K p) (fdI p))]):=by kernel_rfl
theorem fdI_ok(p:Params):fdOk (K p) (fdI p)=true:=by kernel_rfl
theorem Usm(p:Params):FnIn (K p) initA (fnAt (K p) [.str ""] initA):=by
 refine FnIn.last (t:=dflTok (K p) (fdI p)) (fdI_is p) (fdI_ok p) (by decide +kernel) (by decide +kernel) (fun us h S=>?_) fun us h S=>?_
 ·obtain ⟨a,b,c,d,rfl⟩:=len4 (h.trans (Upr p));exact bind4 p a b c d S
 ·obtain ⟨a,b,c,rfl⟩:=len3 (h.trans (Upr p));exact bind3 p a b c S
noncomputable def LawOk:Prop:=∀ (p:Params) (ns:List Int),ns.length<=63->∃ O',callD (P p) 20 lawA [.lst (ns.map .int)] (List.replicate 24 [])=some (.bool true,O')
theorem all_ff(p:Params):∀ a f,lkN a (P p).fns=some f->FnIn (K p) a f:=fns_in (fns_ok p) (Usm p)
theorem all_cf(p:Params):∀ c k,lkN c (P p).clss=some k->ClsFacts (K p) c k:=cls_in (cls_ok' p)
theorem h_said:OpenLaw.wellSaid PySem.Challenge.rw_nt0611_03=true:=by first | decide +kernel | k_qdec
set_option maxHeartbeats 8000000 in
theorem h_walk(hlaw:LawOk):PySem.Challenge.rw_nt0611_03.Holds:=by
 w_on
 refine holds_law h_said fun said=>?_;refine holds_open (q:=vw) (loose:=[]) (Xt:=xt) (XP:=XL vw []) (Yf:=hk.obs) (Ya:=hk.val) (YP:=hk.says) (N:=10100) left hk.of hk.keeps (fun s e=>xl_of s (Bool.and_eq_true_iff.mp e).1) XL.keeps (by rfl) (by rfl) (by rfl) (fun s e=>recFacts_of (Bool.and_eq_true_iff.mp e).2) (by rfl) (by first | assumption | decide +kernel) (by decide +kernel) ⟨rfl,rfl,rfl,rfl,rfl,by decide +kernel⟩ ?hw ?hc
 case hw=>w_witness2
 w_strict (
  intro w s₀ s₁ mg mb G Y fa o pm cd doc dV kV ho hd hcd hD hmg hg args vals as hpre hlay hrd hwl hlo;have KX:(K w.params).In s₁.heap:=Y;have X:=(Ground.X G).1;have V:=(Ground.X G).2;refine Ground.open G ?_;intro T B D TE TW
  try (refine guard_noD D (by decide +kernel) ?_;clear D)
  obtain ⟨_,_,M⟩:=bmod_of_top T;have TA:=at_of_top T
  try (obtain ⟨_,_,he,B0⟩:=based_of_top T rfl hmg ho hd;have he':cd=_:=he;subst he';clear he)
  clear hmg
  wrow_args hpre hlay hrd hwl hlo
  refine enter_call ?_
  w_top on
  try refine codeAny_mono ?_ (fun w0 w0 g=>GoodW.toG g)
  have K0:=below_caller (Top.heap T)
  w_call any ho hd hcd hD T F
  clear hd TA
  k_drop
  rename Top _ _ _ _ _ _=>hT
  rename IntsAre _ _=>hI
  rename Frag.In _ _=>hX
  rename Well _ _ _ _=>hW
  rename Heap.IsList _ _ _=>hL
  rename ¬ _ < _=>h63
  rename Shared.gens _=#[]=>hgens
  rename PyProof.Rows.Fr _ _ _ _=>F
  refine Uq2 (d:=19) (N:=24) (fa:=lawA) (x:="script") (P:=P w.params) hT (show (K w.params).In _ from hX) (Us7 _) (all_cf _) (all_ff _) ?k1 ?k2 ?k3 hL hW hI h63 F ?k4 ?k5 ?k6 ?k7 ?k8 ?k9 ?k10 (hlaw _) ?k11
  case k1=>exact rfl
  case k2=>(show callerA.depth+1+2*19+2 < 1000;decide)
  case k3=>(show callerA.units+3+8*19+200 < 9900;decide)
  case k4=>kernel_rfl
  case k5=>kernel_rfl
  case k6=>exact rfl
  case k7=>decide +kernel
  case k8=>decide +kernel
  case k9=>kernel_rfl
  case k10=>exact Nat.succ_pos _
  case k11 =>
   intro s' hk ho hg;exact Uq9 rfl (by kernel_rfl) hk ho (hg.trans hgens))
theorem fin(hlaw:LawOk):PySem.Challenge.rw_nt0611_03.Holds:=h_walk hlaw
end Mine
end
section
open PySem PySem.W
namespace Mine
noncomputable section
variable (p:Params)(c:CC)
noncomputable abbrev mc(p:Params)(c:CC)(o:V)(x:Str)(l:List V)(k:V->M Fl):M Fl:=bnd (look (methK (P p) o x)) fun m=>if isRepl m then fail else bnd (methodV c m o l) k
noncomputable abbrev a_is_blank:Addr:=60
noncomputable abbrev a_is_upper:Addr:=67
noncomputable abbrev a_is_letter:Addr:=74
noncomputable abbrev a_lower:Addr:=81
noncomputable abbrev a_input_error:Addr:=109
noncomputable abbrev a_Stream_init:Addr:=123
noncomputable abbrev a_Stream_feed:Addr:=130
noncomputable abbrev a_Stream_end:Addr:=137
noncomputable abbrev a_Tokenizer_init:Addr:=166
noncomputable abbrev a_Tokenizer_feed:Addr:=173
noncomputable abbrev a_Tokenizer_end:Addr:=180
noncomputable abbrev a_Tokenizer_next:Addr:=187
noncomputable abbrev a_Tokenizer_to:Addr:=194
noncomputable abbrev a_Tokenizer_again:Addr:=201
noncomputable abbrev a_Tokenizer_error:Addr:=208
noncomputable abbrev a_Tokenizer_emit:Addr:=215
noncomputable abbrev a_Tokenizer_emit_sign:Addr:=222
noncomputable abbrev a_Tokenizer_emit_text:Addr:=229
noncomputable abbrev a_Tokenizer_emit_draft:Addr:=236
noncomputable abbrev a_Tokenizer_emit_eof:Addr:=243
noncomputable abbrev a_Tokenizer_step:Addr:=293
noncomputable abbrev a_Tokenizer_is_ready:Addr:=300
noncomputable abbrev a_Tokenizer_run:Addr:=307
noncomputable abbrev a_finish_tag:Addr:=321
noncomputable abbrev a_cut_tag:Addr:=328
noncomputable abbrev a_leave_name:Addr:=335
noncomputable abbrev a_begin_reference:Addr:=342
noncomputable abbrev a_before_attr_name_state:Addr:=349
noncomputable abbrev a_attr_name_state:Addr:=356
noncomputable abbrev a_after_attr_name_state:Addr:=363
noncomputable abbrev a_before_attr_value_state:Addr:=370
noncomputable abbrev a_quoted_value:Addr:=377
noncomputable abbrev a_double_quoted_state:Addr:=384
noncomputable abbrev a_single_quoted_state:Addr:=391
noncomputable abbrev a_unquoted_state:Addr:=398
noncomputable abbrev a_after_quoted_state:Addr:=405
noncomputable abbrev a_attr_states:Addr:=412
noncomputable abbrev a_Draft_init:Addr:=426
noncomputable abbrev a_Draft_begin_attr:Addr:=433
noncomputable abbrev a_Draft_add_name:Addr:=440
noncomputable abbrev a_Draft_add_value:Addr:=447
noncomputable abbrev a_Draft_check_attr:Addr:=454
noncomputable abbrev a_Draft_token:Addr:=461
noncomputable abbrev a_tag_open_state:Addr:=475
noncomputable abbrev a_end_tag_open_state:Addr:=482
noncomputable abbrev a_tag_name_state:Addr:=489
noncomputable abbrev a_self_closing_state:Addr:=496
noncomputable abbrev a_tag_states:Addr:=503
noncomputable abbrev a__law_number:Addr:=510
noncomputable abbrev a__law_text:Addr:=515
noncomputable abbrev a__law_pieces:Addr:=522
noncomputable abbrev a__law_newlines:Addr:=529
noncomputable abbrev a__law_tags:Addr:=536
noncomputable abbrev a__law_names:Addr:=543
noncomputable abbrev a__law_values:Addr:=550
noncomputable abbrev a__law_mark:Addr:=557
noncomputable abbrev a__law_token:Addr:=562
noncomputable abbrev a__law_give:Addr:=569
noncomputable abbrev a__law_put:Addr:=576
noncomputable abbrev a__law_deed:Addr:=581
noncomputable abbrev a__law_go:Addr:=588
noncomputable abbrev a__law_told:Addr:=595
noncomputable abbrev a_law:Addr:=602
noncomputable abbrev c_Draft:Addr:=464
noncomputable abbrev c_Stream:Addr:=147
noncomputable abbrev c_Tokenizer:Addr:=310
noncomputable def F_is_blank(p:Params)(c:CC)(vc:V):M Fl :=
bnd (look (cmpV .In vc (.tup [(.str (Y "\x09")),(.str Qap),(.str (Y "\x0c")),(.str (Y " "))]))) fun x1 =>
ret (.ret (.bool x1))
theorem Ulq(d:Nat)(vc:V):callK (P p) (d+1) a_is_blank [vc]=bnd (F_is_blank p (callK (P p) d) vc) unFl:=by kernel_rfl
noncomputable def F_is_upper(p:Params)(c:CC)(vc:V):M Fl :=
bnd (look (cmpV .LtE (.str Qba) vc)) fun x1 =>
(if x1 then
bnd (look (cmpV .LtE vc (.str Qbl))) fun x2 =>
ret (.ret (.bool x2))
else
ret (.ret (.bool false)))
theorem Uly(d:Nat)(vc:V):callK (P p) (d+1) a_is_upper [vc]=bnd (F_is_upper p (callK (P p) d) vc) unFl:=by kernel_rfl
noncomputable def F_is_letter(p:Params)(c:CC)(vc:V):M Fl :=
bnd (look (cmpV .LtE (.str Qbh) vc)) fun x1 =>
(if x1 then
bnd (look (cmpV .LtE vc (.str Qcc))) fun x2 =>
(cond x2
(ret (.ret (.bool x2)))
(bnd (look (cmpV .LtE (.str Qba) vc)) fun x3 =>
(if x3 then
bnd (look (cmpV .LtE vc (.str Qbl))) fun x4 =>
ret (.ret (.bool x4))
else
ret (.ret (.bool false)))))
else
bnd (look (cmpV .LtE (.str Qba) vc)) fun x5 =>
(if x5 then
bnd (look (cmpV .LtE vc (.str Qbl))) fun x6 =>
ret (.ret (.bool x6))
else
ret (.ret (.bool false))))
theorem Uku(d:Nat)(vc:V):callK (P p) (d+1) a_is_letter [vc]=bnd (F_is_letter p (callK (P p) d) vc) unFl:=by kernel_rfl
def fd_lower:Fn:=fnAt (K p) [] a_lower
def sc_lower:Scope:=(fd_lower p).scope
def bo_lower:List Stmt:=(fd_lower p).body
def J_lower_0(fr:Fr):M Fl:=execK (P p) c (sc_lower p) 59 fr ((bo_lower p).drop 1) (fun fr=>ret (.next fr))
noncomputable def J_lower_0_T0(p:Params)(c:CC)(vc:V):M Fl :=
ret (.ret vc)
theorem Uid(vc:V):J_lower_0 p c [(Qf,vc)]=J_lower_0_T0 p c vc:=by kernel_rfl
def F_lower(vc:V):M Fl :=
bnd (c a_is_upper [vc]) fun x1 =>
(match isT x1 with
| some x2=>(if x2 then
bnd (builtinV .ord [vc]) fun x3 =>
bnd (look (binV .Add x3 (.int 32))) fun x4 =>
bnd (builtinV .chr [x4]) fun x5 =>
ret (.ret x5)
else
J_lower_0 p c [(Qf,vc)])
| none=>fail)
theorem Uts(d:Nat)(vc:V):callK (P p) (d+1) a_lower [vc]=bnd (F_lower p (callK (P p) d) vc) unFl:=by kernel_rfl
noncomputable def F_Stream_init(p:Params)(c:CC)(vself:V):M Fl :=
bnd (newL 7 []) fun x1 =>
bnd (setAttrV (P p) vself Qaq x1) fun w0 =>
bnd (setAttrV (P p) vself Qbi (.bool false)) fun w0 =>
bnd (setAttrV (P p) vself Qbf (.bool false)) fun w0 =>
bnd (newL 8 []) fun x2 =>
bnd (setAttrV (P p) vself Qab x2) fun w0 =>
ret (.next [(Qe,vself)])
theorem Uia(d:Nat)(vself:V):callK (P p) (d+1) a_Stream_init [vself]=bnd (F_Stream_init p (callK (P p) d) vself) unFl:=by kernel_rfl
def fd_Stream_feed:Fn:=fnAt (K p) [] a_Stream_feed
def sc_Stream_feed:Scope:=(fd_Stream_feed p).scope
def bo_Stream_feed:List Stmt:=(fd_Stream_feed p).body
def st_Stream_feed_l0:Stmt:=(stAt (bo_Stream_feed p) 1)
def J_Stream_feed_0(fr:Fr):M Fl:=execK (P p) c (sc_Stream_feed p) 59 fr ((bo_Stream_feed p).drop 1) (fun fr=>ret (.next fr))
def J_Stream_feed_1(fr:Fr):M Fl:=execK (P p) c (sc_Stream_feed p) 58 fr ((bo_Stream_feed p).drop 2) (fun fr=>ret (.next fr))
def J_Stream_feed_2(fr:Fr):M Fl:=execK (P p) c (sc_Stream_feed p) 56 fr ((inner (st_Stream_feed_l0 p)).drop 1) (fun fr=>ret (.next fr))
def J_Stream_feed_3(fr:Fr):M Fl:=execK (P p) c (sc_Stream_feed p) 51 fr ((inner (stAt (others (stAt (inner (st_Stream_feed_l0 p)) 0)) 0)).drop 2) (J_Stream_feed_2 p c)
def J_Stream_feed_0_T0(vself vtext:V):M Fl :=
bnd (loopF vtext (setL (sc_Stream_feed p) Qf) (turnL (P p) c (sc_Stream_feed p) 57 (st_Stream_feed_l0 p)) 5000 0 [(Qe,vself),(Qc,vtext)]) (goOn (J_Stream_feed_1 p c))
theorem Udf(vself vtext:V):J_Stream_feed_0 p c [(Qe,vself),(Qc,vtext)]=J_Stream_feed_0_T0 p c vself vtext:=by kernel_rfl
def T_Stream_feed_l0_0(vself vtext vc:V):M Fl :=
bnd (look (cmpV .Eq vc (.str Qcd))) fun x3 =>
(if x3 then
bnd (attrV (P p) vself Qaq) fun x4 =>
mc p c x4 Qx [(.str Qap)] fun x6 =>
J_Stream_feed_2 p c [(Qe,vself),(Qc,vtext),(Qf,vc)]
else
bnd (look (cmpV .NotEq vc (.str Qap))) fun x7 =>
(cond x7
(bnd (builtinV .ord [vc]) fun x8 =>
bnd (c a_input_error [x8]) fun x9 =>
bnd (look (cmpV .NotEq x9 (.str Qa))) fun x10 =>
(if x10 then
bnd (attrV (P p) vself Qab) fun x11 =>
bnd (look (methK (P p) x11 Qx)) fun x12 =>
if isRepl x12 then fail else bnd (attrV (P p) vself Qaq) fun x13 =>
bnd (builtinV .len [x13]) fun x14 =>
bnd (methodV c x12 x11 [(.tup [x9,x14])]) fun x15 =>
J_Stream_feed_3 p c [(Qe,vself),(Qc,vtext),(Qf,vc),(Qaf,x9)]
else
J_Stream_feed_3 p c [(Qe,vself),(Qc,vtext),(Qf,vc),(Qaf,x9)]))
(bnd (attrV (P p) vself Qbf) fun x16 =>
(match isT x16 with
| some x17=>(cond (!x17)
(bnd (builtinV .ord [vc]) fun x18 =>
bnd (c a_input_error [x18]) fun x19 =>
bnd (look (cmpV .NotEq x19 (.str Qa))) fun x20 =>
(if x20 then
bnd (attrV (P p) vself Qab) fun x21 =>
bnd (look (methK (P p) x21 Qx)) fun x22 =>
if isRepl x22 then fail else bnd (attrV (P p) vself Qaq) fun x23 =>
bnd (builtinV .len [x23]) fun x24 =>
bnd (methodV c x22 x21 [(.tup [x19,x24])]) fun x25 =>
J_Stream_feed_3 p c [(Qe,vself),(Qc,vtext),(Qf,vc),(Qaf,x19)]
else
J_Stream_feed_3 p c [(Qe,vself),(Qc,vtext),(Qf,vc),(Qaf,x19)]))
(J_Stream_feed_2 p c [(Qe,vself),(Qc,vtext),(Qf,vc)]))
| none=>fail))))
theorem Ua8(vself vtext vc:V):turnL (P p) c (sc_Stream_feed p) 57 (st_Stream_feed_l0 p) [(Qe,vself),(Qc,vtext),(Qf,vc)]=T_Stream_feed_l0_0 p c vself vtext vc:=by kernel_rfl
def T_Stream_feed_l0_1(vself vtext vc vcode:V):M Fl :=
bnd (look (cmpV .Eq vc (.str Qcd))) fun x26 =>
(if x26 then
bnd (attrV (P p) vself Qaq) fun x27 =>
mc p c x27 Qx [(.str Qap)] fun x29 =>
J_Stream_feed_2 p c [(Qe,vself),(Qc,vtext),(Qf,vc),(Qaf,vcode)]
else
bnd (look (cmpV .NotEq vc (.str Qap))) fun x30 =>
(cond x30
(bnd (builtinV .ord [vc]) fun x31 =>
bnd (c a_input_error [x31]) fun x32 =>
bnd (look (cmpV .NotEq x32 (.str Qa))) fun x33 =>
(if x33 then
bnd (attrV (P p) vself Qab) fun x34 =>
bnd (look (methK (P p) x34 Qx)) fun x35 =>
if isRepl x35 then fail else bnd (attrV (P p) vself Qaq) fun x36 =>
bnd (builtinV .len [x36]) fun x37 =>
bnd (methodV c x35 x34 [(.tup [x32,x37])]) fun x38 =>
J_Stream_feed_3 p c [(Qe,vself),(Qc,vtext),(Qf,vc),(Qaf,x32)]
else
J_Stream_feed_3 p c [(Qe,vself),(Qc,vtext),(Qf,vc),(Qaf,x32)]))
(bnd (attrV (P p) vself Qbf) fun x39 =>
(match isT x39 with
| some x40=>(cond (!x40)
(bnd (builtinV .ord [vc]) fun x41 =>
bnd (c a_input_error [x41]) fun x42 =>
bnd (look (cmpV .NotEq x42 (.str Qa))) fun x43 =>
(if x43 then
bnd (attrV (P p) vself Qab) fun x44 =>
bnd (look (methK (P p) x44 Qx)) fun x45 =>
if isRepl x45 then fail else bnd (attrV (P p) vself Qaq) fun x46 =>
bnd (builtinV .len [x46]) fun x47 =>
bnd (methodV c x45 x44 [(.tup [x42,x47])]) fun x48 =>
J_Stream_feed_3 p c [(Qe,vself),(Qc,vtext),(Qf,vc),(Qaf,x42)]
else
J_Stream_feed_3 p c [(Qe,vself),(Qc,vtext),(Qf,vc),(Qaf,x42)]))
(J_Stream_feed_2 p c [(Qe,vself),(Qc,vtext),(Qf,vc),(Qaf,vcode)]))
| none=>fail))))
theorem Ucs(vself vtext vc vcode:V):turnL (P p) c (sc_Stream_feed p) 57 (st_Stream_feed_l0 p) [(Qe,vself),(Qc,vtext),(Qf,vc),(Qaf,vcode)]=T_Stream_feed_l0_1 p c vself vtext vc vcode:=by kernel_rfl
noncomputable def J_Stream_feed_1_T0(p:Params)(c:CC)(vself vtext:V):M Fl :=
ret (.next [(Qe,vself),(Qc,vtext)])
theorem Uds(vself vtext:V):J_Stream_feed_1 p c [(Qe,vself),(Qc,vtext)]=J_Stream_feed_1_T0 p c vself vtext:=by kernel_rfl
noncomputable def J_Stream_feed_1_T1(p:Params)(c:CC)(vself vtext vc:V):M Fl :=
ret (.next [(Qe,vself),(Qc,vtext),(Qf,vc)])
theorem Udi(vself vtext vc:V):J_Stream_feed_1 p c [(Qe,vself),(Qc,vtext),(Qf,vc)]=J_Stream_feed_1_T1 p c vself vtext vc:=by kernel_rfl
noncomputable def J_Stream_feed_1_T2(p:Params)(c:CC)(vself vtext vc vcode:V):M Fl :=
ret (.next [(Qe,vself),(Qc,vtext),(Qf,vc),(Qaf,vcode)])
theorem Ud2(vself vtext vc vcode:V):J_Stream_feed_1 p c [(Qe,vself),(Qc,vtext),(Qf,vc),(Qaf,vcode)]=J_Stream_feed_1_T2 p c vself vtext vc vcode:=by kernel_rfl
noncomputable def J_Stream_feed_2_T0(p:Params)(c:CC)(vself vtext vc:V):M Fl :=
bnd (look (cmpV .Eq vc (.str Qcd))) fun x49 =>
bnd (setAttrV (P p) vself Qbf (.bool x49)) fun w0 =>
ret (.next [(Qe,vself),(Qc,vtext),(Qf,vc)])
theorem Udh(vself vtext vc:V):J_Stream_feed_2 p c [(Qe,vself),(Qc,vtext),(Qf,vc)]=J_Stream_feed_2_T0 p c vself vtext vc:=by kernel_rfl
noncomputable def J_Stream_feed_2_T1(p:Params)(c:CC)(vself vtext vc vcode:V):M Fl :=
bnd (look (cmpV .Eq vc (.str Qcd))) fun x50 =>
bnd (setAttrV (P p) vself Qbf (.bool x50)) fun w0 =>
ret (.next [(Qe,vself),(Qc,vtext),(Qf,vc),(Qaf,vcode)])
theorem Udb(vself vtext vc vcode:V):J_Stream_feed_2 p c [(Qe,vself),(Qc,vtext),(Qf,vc),(Qaf,vcode)]=J_Stream_feed_2_T1 p c vself vtext vc vcode:=by kernel_rfl
def J_Stream_feed_3_T0(vself vtext vc vcode:V):M Fl :=
bnd (attrV (P p) vself Qaq) fun x51 =>
mc p c x51 Qx [vc] fun x53 =>
J_Stream_feed_2 p c [(Qe,vself),(Qc,vtext),(Qf,vc),(Qaf,vcode)]
theorem Ud1(vself vtext vc vcode:V):J_Stream_feed_3 p c [(Qe,vself),(Qc,vtext),(Qf,vc),(Qaf,vcode)]=J_Stream_feed_3_T0 p c vself vtext vc vcode:=by kernel_rfl
def F_Stream_feed(vself vtext:V):M Fl :=
bnd (attrV (P p) vself Qbi) fun x1 =>
(match isT x1 with
| some x2=>(if x2 then
fail
else
J_Stream_feed_0 p c [(Qe,vself),(Qc,vtext)])
| none=>fail)
theorem Uhw(d:Nat)(vself vtext:V):callK (P p) (d+1) a_Stream_feed [vself,vtext]=bnd (F_Stream_feed p (callK (P p) d) vself vtext) unFl:=by kernel_rfl
noncomputable def F_Stream_end(p:Params)(c:CC)(vself:V):M Fl :=
bnd (setAttrV (P p) vself Qbi (.bool true)) fun w0 =>
ret (.next [(Qe,vself)])
theorem Ui6(d:Nat)(vself:V):callK (P p) (d+1) a_Stream_end [vself]=bnd (F_Stream_end p (callK (P p) d) vself) unFl:=by kernel_rfl
def F_Tokenizer_init(vself vstates vstate vlast:V):M Fl :=
bnd (setAttrV (P p) vself Qn vstates) fun w0 =>
bnd (applyV (P p) c (.fn c_Stream) []) fun x1 =>
bnd (setAttrV (P p) vself Qbj x1) fun w0 =>
bnd (setAttrV (P p) vself Qt (.int 0)) fun w0 =>
bnd (setAttrV (P p) vself Qy vstate) fun w0 =>
bnd (setAttrV (P p) vself Qbe (.str Qaw)) fun w0 =>
bnd (newL 9 []) fun x2 =>
bnd (setAttrV (P p) vself Qau x2) fun w0 =>
bnd (newL 10 []) fun x3 =>
bnd (setAttrV (P p) vself Qab x3) fun w0 =>
bnd (setAttrV (P p) vself Qp .none) fun w0 =>
bnd (setAttrV (P p) vself (Y "buffer") (.str Qa)) fun w0 =>
bnd (setAttrV (P p) vself Qaf (.int 0)) fun w0 =>
bnd (setAttrV (P p) vself Qi vlast) fun w0 =>
bnd (setAttrV (P p) vself (Y "is_foreign") (.bool false)) fun w0 =>
bnd (setAttrV (P p) vself Qbq (.bool false)) fun w0 =>
bnd (setAttrV (P p) vself Qce (.bool false)) fun w0 =>
ret (.next [(Qe,vself),(Qn,vstates),(Qy,vstate),(Qi,vlast)])
theorem Ufd(d:Nat)(vself vstates vstate vlast:V):callK (P p) (d+1) a_Tokenizer_init [vself,vstates,vstate,vlast]=bnd (F_Tokenizer_init p (callK (P p) d) vself vstates vstate vlast) unFl:=by kernel_rfl
def F_Tokenizer_feed(vself vtext:V):M Fl :=
bnd (attrV (P p) vself Qbj) fun x1 =>
mc p c x1 Qbz [vtext] fun x3 =>
bnd (setAttrV (P p) vself Qbq (.bool false)) fun w0 =>
ret (.next [(Qe,vself),(Qc,vtext)])
theorem Ufk(d:Nat)(vself vtext:V):callK (P p) (d+1) a_Tokenizer_feed [vself,vtext]=bnd (F_Tokenizer_feed p (callK (P p) d) vself vtext) unFl:=by kernel_rfl
def F_Tokenizer_end(vself:V):M Fl :=
bnd (attrV (P p) vself Qbj) fun x1 =>
mc p c x1 Qar [] fun x3 =>
bnd (setAttrV (P p) vself Qbq (.bool false)) fun w0 =>
ret (.next [(Qe,vself)])
theorem Uf3(d:Nat)(vself:V):callK (P p) (d+1) a_Tokenizer_end [vself]=bnd (F_Tokenizer_end p (callK (P p) d) vself) unFl:=by kernel_rfl
def fd_Tokenizer_next:Fn:=fnAt (K p) [] a_Tokenizer_next
def sc_Tokenizer_next:Scope:=(fd_Tokenizer_next p).scope
def bo_Tokenizer_next:List Stmt:=(fd_Tokenizer_next p).body
def J_Tokenizer_next_0(fr:Fr):M Fl:=execK (P p) c (sc_Tokenizer_next p) 57 fr ((bo_Tokenizer_next p).drop 3) (fun fr=>ret (.next fr))
noncomputable def J_Tokenizer_next_0_T0(p:Params)(c:CC)(vself vat:V):M Fl :=
ret (.ret (.str Qa))
theorem Ucm(vself vat:V):J_Tokenizer_next_0 p c [(Qe,vself),(Qt,vat)]=J_Tokenizer_next_0_T0 p c vself vat:=by kernel_rfl
def F_Tokenizer_next(vself:V):M Fl :=
bnd (attrV (P p) vself Qt) fun x1 =>
bnd (look (binV .Add x1 (.int 1))) fun x2 =>
bnd (setAttrV (P p) vself Qt x2) fun w0 =>
bnd (attrV (P p) vself Qbj) fun x3 =>
bnd (attrV (P p) x3 Qaq) fun x4 =>
bnd (builtinV .len [x4]) fun x5 =>
bnd (look (cmpV .Lt x1 x5)) fun x6 =>
(if x6 then
bnd (attrV (P p) vself Qbj) fun x7 =>
bnd (attrV (P p) x7 Qaq) fun x8 =>
bnd (look (itemV x8 x1)) fun x9 =>
ret (.ret x9)
else
J_Tokenizer_next_0 p c [(Qe,vself),(Qt,x1)])
theorem Ue5(d:Nat)(vself:V):callK (P p) (d+1) a_Tokenizer_next [vself]=bnd (F_Tokenizer_next p (callK (P p) d) vself) unFl:=by kernel_rfl
noncomputable def F_Tokenizer_to(p:Params)(c:CC)(vself vstate:V):M Fl :=
bnd (setAttrV (P p) vself Qy vstate) fun w0 =>
ret (.next [(Qe,vself),(Qy,vstate)])
theorem Uha(d:Nat)(vself vstate:V):callK (P p) (d+1) a_Tokenizer_to [vself,vstate]=bnd (F_Tokenizer_to p (callK (P p) d) vself vstate) unFl:=by kernel_rfl
noncomputable def F_Tokenizer_again(p:Params)(c:CC)(vself vstate:V):M Fl :=
bnd (attrV (P p) vself Qt) fun x1 =>
bnd (look (augV .Sub x1 (.int 1))) fun x2 =>
bnd (setAttrV (P p) vself Qt x2) fun w0 =>
bnd (setAttrV (P p) vself Qy vstate) fun w0 =>
ret (.next [(Qe,vself),(Qy,vstate)])
theorem Uer(d:Nat)(vself vstate:V):callK (P p) (d+1) a_Tokenizer_again [vself,vstate]=bnd (F_Tokenizer_again p (callK (P p) d) vself vstate) unFl:=by kernel_rfl
def F_Tokenizer_error(vself vcode:V):M Fl :=
bnd (attrV (P p) vself Qab) fun x1 =>
bnd (look (methK (P p) x1 Qx)) fun x2 =>
if isRepl x2 then fail else bnd (attrV (P p) vself Qt) fun x3 =>
bnd (look (binV .Sub x3 (.int 1))) fun x4 =>
bnd (methodV c x2 x1 [(.tup [vcode,x4])]) fun x5 =>
ret (.next [(Qe,vself),(Qaf,vcode)])
theorem Ueo(d:Nat)(vself vcode:V):callK (P p) (d+1) a_Tokenizer_error [vself,vcode]=bnd (F_Tokenizer_error p (callK (P p) d) vself vcode) unFl:=by kernel_rfl
def fd_Tokenizer_emit:Fn:=fnAt (K p) [] a_Tokenizer_emit
def sc_Tokenizer_emit:Scope:=(fd_Tokenizer_emit p).scope
def bo_Tokenizer_emit:List Stmt:=(fd_Tokenizer_emit p).body
def J_Tokenizer_emit_0(fr:Fr):M Fl:=execK (P p) c (sc_Tokenizer_emit p) 59 fr ((bo_Tokenizer_emit p).drop 1) (fun fr=>ret (.next fr))
def J_Tokenizer_emit_0_T0(vself vtoken:V):M Fl :=
bnd (attrV (P p) vself Qau) fun x4 =>
mc p c x4 Qx [vtoken] fun x6 =>
ret (.next [(Qe,vself),(Qal,vtoken)])
theorem Ua4(vself vtoken:V):J_Tokenizer_emit_0 p c [(Qe,vself),(Qal,vtoken)]=J_Tokenizer_emit_0_T0 p c vself vtoken:=by kernel_rfl
def F_Tokenizer_emit(vself vtoken:V):M Fl :=
bnd (look (itemV vtoken (.int 0))) fun x1 =>
bnd (look (cmpV .Eq x1 (.str Qcn))) fun x2 =>
(if x2 then
bnd (look (itemV vtoken (.int 1))) fun x3 =>
bnd (setAttrV (P p) vself Qi x3) fun w0 =>
J_Tokenizer_emit_0 p c [(Qe,vself),(Qal,vtoken)]
else
J_Tokenizer_emit_0 p c [(Qe,vself),(Qal,vtoken)])
theorem Ufg(d:Nat)(vself vtoken:V):callK (P p) (d+1) a_Tokenizer_emit [vself,vtoken]=bnd (F_Tokenizer_emit p (callK (P p) d) vself vtoken) unFl:=by kernel_rfl
def F_Tokenizer_emit_sign(vself vsign:V):M Fl :=
bnd (attrV (P p) vself Qau) fun x1 =>
mc p c x1 Qx [(.tup [(.str Qcf),vsign])] fun x3 =>
ret (.next [(Qe,vself),(Qg,vsign)])
theorem Ucw(d:Nat)(vself vsign:V):callK (P p) (d+1) a_Tokenizer_emit_sign [vself,vsign]=bnd (F_Tokenizer_emit_sign p (callK (P p) d) vself vsign) unFl:=by kernel_rfl
def fd_Tokenizer_emit_text:Fn:=fnAt (K p) [] a_Tokenizer_emit_text
def sc_Tokenizer_emit_text:Scope:=(fd_Tokenizer_emit_text p).scope
def bo_Tokenizer_emit_text:List Stmt:=(fd_Tokenizer_emit_text p).body
def st_Tokenizer_emit_text_l0:Stmt:=(stAt (bo_Tokenizer_emit_text p) 0)
def J_Tokenizer_emit_text_0(fr:Fr):M Fl:=execK (P p) c (sc_Tokenizer_emit_text p) 59 fr ((bo_Tokenizer_emit_text p).drop 1) (fun fr=>ret (.next fr))
def T_Tokenizer_emit_text_l0_0(vself vtext vsign:V):M Fl :=
bnd (attrV (P p) vself Qau) fun x1 =>
mc p c x1 Qx [(.tup [(.str Qcf),vsign])] fun x3 =>
ret (.next [(Qe,vself),(Qc,vtext),(Qg,vsign)])
theorem Ubb(vself vtext vsign:V):turnL (P p) c (sc_Tokenizer_emit_text p) 58 (st_Tokenizer_emit_text_l0 p) [(Qe,vself),(Qc,vtext),(Qg,vsign)]=T_Tokenizer_emit_text_l0_0 p c vself vtext vsign:=by kernel_rfl
noncomputable def J_Tokenizer_emit_text_0_T0(p:Params)(c:CC)(vself vtext:V):M Fl :=
ret (.next [(Qe,vself),(Qc,vtext)])
theorem Ubn(vself vtext:V):J_Tokenizer_emit_text_0 p c [(Qe,vself),(Qc,vtext)]=J_Tokenizer_emit_text_0_T0 p c vself vtext:=by kernel_rfl
noncomputable def J_Tokenizer_emit_text_0_T1(p:Params)(c:CC)(vself vtext vsign:V):M Fl :=
ret (.next [(Qe,vself),(Qc,vtext),(Qg,vsign)])
theorem Ubm(vself vtext vsign:V):J_Tokenizer_emit_text_0 p c [(Qe,vself),(Qc,vtext),(Qg,vsign)]=J_Tokenizer_emit_text_0_T1 p c vself vtext vsign:=by kernel_rfl
def F_Tokenizer_emit_text(vself vtext:V):M Fl :=
bnd (loopF vtext (setL (sc_Tokenizer_emit_text p) Qg) (turnL (P p) c (sc_Tokenizer_emit_text p) 58 (st_Tokenizer_emit_text_l0 p)) 5000 0 [(Qe,vself),(Qc,vtext)]) (goOn (J_Tokenizer_emit_text_0 p c))
theorem Ucv(d:Nat)(vself vtext:V):callK (P p) (d+1) a_Tokenizer_emit_text [vself,vtext]=bnd (F_Tokenizer_emit_text p (callK (P p) d) vself vtext) unFl:=by kernel_rfl
def fd_Tokenizer_emit_draft:Fn:=fnAt (K p) [] a_Tokenizer_emit_draft
def sc_Tokenizer_emit_draft:Scope:=(fd_Tokenizer_emit_draft p).scope
def bo_Tokenizer_emit_draft:List Stmt:=(fd_Tokenizer_emit_draft p).body
def J_Tokenizer_emit_draft_0(fr:Fr):M Fl:=execK (P p) c (sc_Tokenizer_emit_draft p) 58 fr ((bo_Tokenizer_emit_draft p).drop 2) (fun fr=>ret (.next fr))
def J_Tokenizer_emit_draft_1(fr:Fr):M Fl:=execK (P p) c (sc_Tokenizer_emit_draft p) 56 fr ((inner (stAt (bo_Tokenizer_emit_draft p) 1)).drop 1) (J_Tokenizer_emit_draft_0 p c)
def J_Tokenizer_emit_draft_0_T0(vself vdraft:V):M Fl :=
bnd (setAttrV (P p) vself Qp .none) fun w0 =>
bnd (look (methK (P p) vself (Y "emit"))) fun x9 =>
if isRepl x9 then fail else mc p c vdraft Qal [] fun x11 =>
bnd (methodV c x9 vself [x11]) fun x12 =>
ret (.next [(Qe,vself),(Qp,vdraft)])
theorem Ubl(vself vdraft:V):J_Tokenizer_emit_draft_0 p c [(Qe,vself),(Qp,vdraft)]=J_Tokenizer_emit_draft_0_T0 p c vself vdraft:=by kernel_rfl
def J_Tokenizer_emit_draft_1_T0(vself vdraft:V):M Fl :=
bnd (attrV (P p) vdraft Qbm) fun x13 =>
(match isT x13 with
| some x14=>(if x14 then
mc p c vself Qai [(.str (Y "end-tag-with-trailing-solidus"))] fun x16 =>
J_Tokenizer_emit_draft_0 p c [(Qe,vself),(Qp,vdraft)]
else
J_Tokenizer_emit_draft_0 p c [(Qe,vself),(Qp,vdraft)])
| none=>fail)
theorem Ubh(vself vdraft:V):J_Tokenizer_emit_draft_1 p c [(Qe,vself),(Qp,vdraft)]=J_Tokenizer_emit_draft_1_T0 p c vself vdraft:=by kernel_rfl
def F_Tokenizer_emit_draft(vself:V):M Fl :=
bnd (attrV (P p) vself Qp) fun x1 =>
bnd (attrV (P p) x1 Qah) fun x2 =>
bnd (look (cmpV .Eq x2 (.str Qar))) fun x3 =>
(if x3 then
bnd (attrV (P p) x1 Qbb) fun x4 =>
bnd (builtinV .len [x4]) fun x5 =>
bnd (look (cmpV .Gt x5 (.int 0))) fun x6 =>
(if x6 then
mc p c vself Qai [(.str (Y "end-tag-with-attributes"))] fun x8 =>
J_Tokenizer_emit_draft_1 p c [(Qe,vself),(Qp,x1)]
else
J_Tokenizer_emit_draft_1 p c [(Qe,vself),(Qp,x1)])
else
J_Tokenizer_emit_draft_0 p c [(Qe,vself),(Qp,x1)])
theorem Ucj(d:Nat)(vself:V):callK (P p) (d+1) a_Tokenizer_emit_draft [vself]=bnd (F_Tokenizer_emit_draft p (callK (P p) d) vself) unFl:=by kernel_rfl
def F_Tokenizer_emit_eof(vself:V):M Fl :=
bnd (attrV (P p) vself Qau) fun x1 =>
mc p c x1 Qx [(.tup [(.str (Y "eof"))])] fun x3 =>
bnd (setAttrV (P p) vself Qce (.bool true)) fun w0 =>
ret (.next [(Qe,vself)])
theorem Uc2(d:Nat)(vself:V):callK (P p) (d+1) a_Tokenizer_emit_eof [vself]=bnd (F_Tokenizer_emit_eof p (callK (P p) d) vself) unFl:=by kernel_rfl
def fd_Tokenizer_step:Fn:=fnAt (K p) [] a_Tokenizer_step
def sc_Tokenizer_step:Scope:=(fd_Tokenizer_step p).scope
def bo_Tokenizer_step:List Stmt:=(fd_Tokenizer_step p).body
def J_Tokenizer_step_0(fr:Fr):M Fl:=execK (P p) c (sc_Tokenizer_step p) 59 fr ((bo_Tokenizer_step p).drop 1) (fun fr=>ret (.next fr))
def J_Tokenizer_step_0_T0(vself:V):M Fl :=
bnd (setAttrV (P p) vself Qbq (.bool false)) fun w0 =>
bnd (attrV (P p) vself Qt) fun x4 =>
bnd (attrV (P p) vself Qn) fun x5 =>
bnd (attrV (P p) vself Qy) fun x6 =>
bnd (look (itemV x5 x6)) fun x7 =>
bnd (applyV (P p) c x7 [vself]) fun x8 =>
bnd (attrV (P p) vself Qbq) fun x9 =>
(match isT x9 with
| some x10=>(if x10 then
bnd (setAttrV (P p) vself Qt x4) fun w0 =>
ret (.next [(Qe,vself),(Ql,x4),(Y "rule",x7)])
else
ret (.next [(Qe,vself),(Ql,x4),(Y "rule",x7)]))
| none=>fail)
theorem Uci(vself:V):J_Tokenizer_step_0 p c [(Qe,vself)]=J_Tokenizer_step_0_T0 p c vself:=by kernel_rfl
def F_Tokenizer_step(vself:V):M Fl :=
bnd (attrV (P p) vself Qy) fun x1 =>
bnd (attrV (P p) vself Qn) fun x2 =>
bnd (look (cmpV .NotIn x1 x2)) fun x3 =>
(if x3 then
fail
else
J_Tokenizer_step_0 p c [(Qe,vself)])
theorem Ue7(d:Nat)(vself:V):callK (P p) (d+1) a_Tokenizer_step [vself]=bnd (F_Tokenizer_step p (callK (P p) d) vself) unFl:=by kernel_rfl
def fd_Tokenizer_is_ready:Fn:=fnAt (K p) [] a_Tokenizer_is_ready
def sc_Tokenizer_is_ready:Scope:=(fd_Tokenizer_is_ready p).scope
def bo_Tokenizer_is_ready:List Stmt:=(fd_Tokenizer_is_ready p).body
def J_Tokenizer_is_ready_0(fr:Fr):M Fl:=execK (P p) c (sc_Tokenizer_is_ready p) 59 fr ((bo_Tokenizer_is_ready p).drop 1) (fun fr=>ret (.next fr))
noncomputable def J_Tokenizer_is_ready_0_T0(p:Params)(c:CC)(vself:V):M Fl :=
bnd (attrV (P p) vself Qbj) fun x8 =>
bnd (attrV (P p) x8 Qbi) fun x9 =>
(match isT x9 with
| some x10=>(cond x10
(ret (.ret x9))
(bnd (attrV (P p) vself Qt) fun x11 =>
bnd (attrV (P p) vself Qbj) fun x12 =>
bnd (attrV (P p) x12 Qaq) fun x13 =>
bnd (builtinV .len [x13]) fun x14 =>
bnd (look (cmpV .Lt x11 x14)) fun x15 =>
ret (.ret (.bool x15))))
| none=>fail)
theorem Ubv(vself:V):J_Tokenizer_is_ready_0 p c [(Qe,vself)]=J_Tokenizer_is_ready_0_T0 p c vself:=by kernel_rfl
def F_Tokenizer_is_ready(vself:V):M Fl :=
bnd (attrV (P p) vself Qce) fun x1 =>
(match isT x1 with
| some x2=>(cond x2
(ret (.ret (.bool false)))
(bnd (attrV (P p) vself Qbq) fun x3 =>
(match isT x3 with
| some x4=>(cond x4
(ret (.ret (.bool false)))
(bnd (attrV (P p) vself Qy) fun x5 =>
bnd (attrV (P p) vself Qn) fun x6 =>
bnd (look (cmpV .NotIn x5 x6)) fun x7 =>
(cond x7
(ret (.ret (.bool false)))
(J_Tokenizer_is_ready_0 p c [(Qe,vself)]))))
| none=>fail)))
| none=>fail)
theorem Uc3(d:Nat)(vself:V):callK (P p) (d+1) a_Tokenizer_is_ready [vself]=bnd (F_Tokenizer_is_ready p (callK (P p) d) vself) unFl:=by kernel_rfl
def fd_Tokenizer_run:Fn:=fnAt (K p) [] a_Tokenizer_run
def sc_Tokenizer_run:Scope:=(fd_Tokenizer_run p).scope
def bo_Tokenizer_run:List Stmt:=(fd_Tokenizer_run p).body
def st_Tokenizer_run_l0:Stmt:=(stAt (bo_Tokenizer_run p) 0)
def J_Tokenizer_run_0(fr:Fr):M Fl:=execK (P p) c (sc_Tokenizer_run p) 59 fr ((bo_Tokenizer_run p).drop 1) (fun fr=>ret (.next fr))
def T_Tokenizer_run_l0_0(vself:V):M Fl :=
mc p c vself (Y "step") [] fun x2 =>
ret (.next [(Qe,vself)])
theorem Uce(vself:V):turnL (P p) c (sc_Tokenizer_run p) 58 (st_Tokenizer_run_l0 p) [(Qe,vself)]=T_Tokenizer_run_l0_0 p c vself:=by kernel_rfl
def Q_Tokenizer_run_l0_0(vself:V):M Bool :=
bnd (mc p c vself Qdq [] fun x4 =>
(match isT x4 with
| some x5=>ret (.ret (.bool x5))
| none=>fail)) unB
theorem Uch(vself:V):testL (P p) c (sc_Tokenizer_run p) 58 (st_Tokenizer_run_l0 p) [(Qe,vself)]=Q_Tokenizer_run_l0_0 p c vself:=by kernel_rfl
noncomputable def J_Tokenizer_run_0_T0(p:Params)(c:CC)(vself:V):M Fl :=
bnd (attrV (P p) vself Qce) fun x6 =>
ret (.ret x6)
theorem Ucr(vself:V):J_Tokenizer_run_0 p c [(Qe,vself)]=J_Tokenizer_run_0_T0 p c vself:=by kernel_rfl
def F_Tokenizer_run(vself:V):M Fl :=
bnd (loopW (testL (P p) c (sc_Tokenizer_run p) 58 (st_Tokenizer_run_l0 p)) (turnL (P p) c (sc_Tokenizer_run p) 58 (st_Tokenizer_run_l0 p)) 5000 [(Qe,vself)]) (goOn (J_Tokenizer_run_0 p c))
theorem Uf2(d:Nat)(vself:V):callK (P p) (d+1) a_Tokenizer_run [vself]=bnd (F_Tokenizer_run p (callK (P p) d) vself) unFl:=by kernel_rfl
def F_finish_tag(vt:V):M Fl :=
mc p c vt Qam [(.str Qaw)] fun x2 =>
mc p c vt Qcx [] fun x4 =>
ret (.next [(Qd,vt)])
theorem Uii(d:Nat)(vt:V):callK (P p) (d+1) a_finish_tag [vt]=bnd (F_finish_tag p (callK (P p) d) vt) unFl:=by kernel_rfl
def F_cut_tag(vt:V):M Fl :=
mc p c vt Qai [(.str Qcg)] fun x2 =>
mc p c vt Qca [] fun x4 =>
ret (.next [(Qd,vt)])
theorem Uoq(d:Nat)(vt:V):callK (P p) (d+1) a_cut_tag [vt]=bnd (F_cut_tag p (callK (P p) d) vt) unFl:=by kernel_rfl
def F_leave_name(vt:V):M Fl :=
bnd (attrV (P p) vt Qp) fun x1 =>
mc p c x1 Qdo [] fun x3 =>
(match isT x3 with
| some x4=>(if (!x4) then
mc p c vt Qai [(.str (Y "duplicate-attribute"))] fun x6 =>
ret (.next [(Qd,vt)])
else
ret (.next [(Qd,vt)]))
| none=>fail)
theorem Ui4(d:Nat)(vt:V):callK (P p) (d+1) a_leave_name [vt]=bnd (F_leave_name p (callK (P p) d) vt) unFl:=by kernel_rfl
def F_begin_reference(vt:V):M Fl :=
bnd (attrV (P p) vt Qy) fun x1 =>
bnd (setAttrV (P p) vt Qbe x1) fun w0 =>
mc p c vt Qam [(.str (Y "character reference"))] fun x3 =>
ret (.next [(Qd,vt)])
theorem Ueq(d:Nat)(vt:V):callK (P p) (d+1) a_begin_reference [vt]=bnd (F_begin_reference p (callK (P p) d) vt) unFl:=by kernel_rfl
def fd_before_attr_name_state:Fn:=fnAt (K p) [] a_before_attr_name_state
def sc_before_attr_name_state:Scope:=(fd_before_attr_name_state p).scope
def bo_before_attr_name_state:List Stmt:=(fd_before_attr_name_state p).body
def J_before_attr_name_state_0(fr:Fr):M Fl:=execK (P p) c (sc_before_attr_name_state p) 58 fr ((bo_before_attr_name_state p).drop 2) (fun fr=>ret (.next fr))
def J_before_attr_name_state_0_T0(vt vc:V):M Fl :=
bnd (look (cmpV .In vc (.tup [(.str Qaj),(.str Qas),(.str Qa)]))) fun x5 =>
(if x5 then
mc p c vt Qax [(.str Qbk)] fun x7 =>
ret (.next [(Qd,vt),(Qf,vc)])
else
bnd (look (cmpV .Eq vc (.str Qbr))) fun x8 =>
(if x8 then
mc p c vt Qai [(.str (Y "unexpected-equals-sign-before-attribute-name"))] fun x10 =>
bnd (attrV (P p) vt Qp) fun x11 =>
mc p c x11 Qcw [] fun x13 =>
bnd (attrV (P p) vt Qp) fun x14 =>
mc p c x14 Qcl [vc] fun x16 =>
mc p c vt Qam [(.str Qac)] fun x18 =>
ret (.next [(Qd,vt),(Qf,vc)])
else
bnd (attrV (P p) vt Qp) fun x19 =>
mc p c x19 Qcw [] fun x21 =>
mc p c vt Qax [(.str Qac)] fun x23 =>
ret (.next [(Qd,vt),(Qf,vc)])))
theorem Ua7(vt vc:V):J_before_attr_name_state_0 p c [(Qd,vt),(Qf,vc)]=J_before_attr_name_state_0_T0 p c vt vc:=by kernel_rfl
def F_before_attr_name_state(vt:V):M Fl :=
mc p c vt Qbd [] fun x2 =>
bnd (c a_is_blank [x2]) fun x3 =>
(match isT x3 with
| some x4=>(if x4 then
ret (.ret .none)
else
J_before_attr_name_state_0 p c [(Qd,vt),(Qf,x2)])
| none=>fail)
theorem Ub4(d:Nat)(vt:V):callK (P p) (d+1) a_before_attr_name_state [vt]=bnd (F_before_attr_name_state p (callK (P p) d) vt) unFl:=by kernel_rfl
def fd_attr_name_state:Fn:=fnAt (K p) [] a_attr_name_state
def sc_attr_name_state:Scope:=(fd_attr_name_state p).scope
def bo_attr_name_state:List Stmt:=(fd_attr_name_state p).body
def J_attr_name_state_0(fr:Fr):M Fl:=execK (P p) c (sc_attr_name_state p) 52 fr ((others (stAt (others (stAt (others (stAt (bo_attr_name_state p) 1)) 0)) 0)).drop 1) (fun fr=>ret (.next fr))
def J_attr_name_state_0_T0(vt vc:V):M Fl :=
bnd (attrV (P p) vt Qp) fun x25 =>
bnd (look (methK (P p) x25 Qcl)) fun x26 =>
if isRepl x26 then fail else bnd (c a_lower [vc]) fun x27 =>
bnd (methodV c x26 x25 [x27]) fun x28 =>
ret (.next [(Qd,vt),(Qf,vc)])
theorem Ucf(vt vc:V):J_attr_name_state_0 p c [(Qd,vt),(Qf,vc)]=J_attr_name_state_0_T0 p c vt vc:=by kernel_rfl
def F_attr_name_state(vt:V):M Fl :=
mc p c vt Qbd [] fun x2 =>
bnd (c a_is_blank [x2]) fun x3 =>
(match isT x3 with
| some x4=>(cond x4
(bnd (c a_leave_name [vt]) fun x5 =>
mc p c vt Qax [(.str Qbk)] fun x7 =>
ret (.next [(Qd,vt),(Qf,x2)]))
(bnd (look (cmpV .In x2 (.tup [(.str Qaj),(.str Qas),(.str Qa)]))) fun x8 =>
(cond x8
(bnd (c a_leave_name [vt]) fun x9 =>
mc p c vt Qax [(.str Qbk)] fun x11 =>
ret (.next [(Qd,vt),(Qf,x2)]))
(bnd (look (cmpV .Eq x2 (.str Qbr))) fun x12 =>
(if x12 then
bnd (c a_leave_name [vt]) fun x13 =>
mc p c vt Qam [(.str Qbu)] fun x15 =>
ret (.next [(Qd,vt),(Qf,x2)])
else
bnd (look (cmpV .Eq x2 (.str Qak))) fun x16 =>
(if x16 then
mc p c vt Qai [(.str Qco)] fun x18 =>
bnd (attrV (P p) vt Qp) fun x19 =>
mc p c x19 Qcl [(.str Qbs)] fun x21 =>
ret (.next [(Qd,vt),(Qf,x2)])
else
bnd (look (cmpV .In x2 (.tup [(.str Qbv),(.str Qcp),(.str Qan)]))) fun x22 =>
(if x22 then
mc p c vt Qai [(.str (Y "unexpected-character-in-attribute-name"))] fun x24 =>
J_attr_name_state_0 p c [(Qd,vt),(Qf,x2)]
else
J_attr_name_state_0 p c [(Qd,vt),(Qf,x2)])))))))
| none=>fail)
theorem Uev(d:Nat)(vt:V):callK (P p) (d+1) a_attr_name_state [vt]=bnd (F_attr_name_state p (callK (P p) d) vt) unFl:=by kernel_rfl
def fd_after_attr_name_state:Fn:=fnAt (K p) [] a_after_attr_name_state
def sc_after_attr_name_state:Scope:=(fd_after_attr_name_state p).scope
def bo_after_attr_name_state:List Stmt:=(fd_after_attr_name_state p).body
def J_after_attr_name_state_0(fr:Fr):M Fl:=execK (P p) c (sc_after_attr_name_state p) 58 fr ((bo_after_attr_name_state p).drop 2) (fun fr=>ret (.next fr))
def J_after_attr_name_state_0_T0(vt vc:V):M Fl :=
bnd (look (cmpV .Eq vc (.str Qaj))) fun x5 =>
(if x5 then
mc p c vt Qam [(.str Qbc)] fun x7 =>
ret (.next [(Qd,vt),(Qf,vc)])
else
bnd (look (cmpV .Eq vc (.str Qbr))) fun x8 =>
(if x8 then
mc p c vt Qam [(.str Qbu)] fun x10 =>
ret (.next [(Qd,vt),(Qf,vc)])
else
bnd (look (cmpV .Eq vc (.str Qas))) fun x11 =>
(if x11 then
bnd (c a_finish_tag [vt]) fun x12 =>
ret (.next [(Qd,vt),(Qf,vc)])
else
bnd (look (cmpV .Eq vc (.str Qa))) fun x13 =>
(if x13 then
bnd (c a_cut_tag [vt]) fun x14 =>
ret (.next [(Qd,vt),(Qf,vc)])
else
bnd (attrV (P p) vt Qp) fun x15 =>
mc p c x15 Qcw [] fun x17 =>
mc p c vt Qax [(.str Qac)] fun x19 =>
ret (.next [(Qd,vt),(Qf,vc)])))))
theorem Uba(vt vc:V):J_after_attr_name_state_0 p c [(Qd,vt),(Qf,vc)]=J_after_attr_name_state_0_T0 p c vt vc:=by kernel_rfl
def F_after_attr_name_state(vt:V):M Fl :=
mc p c vt Qbd [] fun x2 =>
bnd (c a_is_blank [x2]) fun x3 =>
(match isT x3 with
| some x4=>(if x4 then
ret (.ret .none)
else
J_after_attr_name_state_0 p c [(Qd,vt),(Qf,x2)])
| none=>fail)
theorem Ucg(d:Nat)(vt:V):callK (P p) (d+1) a_after_attr_name_state [vt]=bnd (F_after_attr_name_state p (callK (P p) d) vt) unFl:=by kernel_rfl
def fd_before_attr_value_state:Fn:=fnAt (K p) [] a_before_attr_value_state
def sc_before_attr_value_state:Scope:=(fd_before_attr_value_state p).scope
def bo_before_attr_value_state:List Stmt:=(fd_before_attr_value_state p).body
def J_before_attr_value_state_0(fr:Fr):M Fl:=execK (P p) c (sc_before_attr_value_state p) 58 fr ((bo_before_attr_value_state p).drop 2) (fun fr=>ret (.next fr))
def J_before_attr_value_state_0_T0(vt vc:V):M Fl :=
bnd (look (cmpV .Eq vc (.str Qbv))) fun x5 =>
(if x5 then
mc p c vt Qam [(.str Qcq)] fun x7 =>
ret (.next [(Qd,vt),(Qf,vc)])
else
bnd (look (cmpV .Eq vc (.str Qcp))) fun x8 =>
(if x8 then
mc p c vt Qam [(.str Qcr)] fun x10 =>
ret (.next [(Qd,vt),(Qf,vc)])
else
bnd (look (cmpV .Eq vc (.str Qas))) fun x11 =>
(if x11 then
mc p c vt Qai [(.str (Y "missing-attribute-value"))] fun x13 =>
bnd (c a_finish_tag [vt]) fun x14 =>
ret (.next [(Qd,vt),(Qf,vc)])
else
mc p c vt Qax [(.str Qcy)] fun x16 =>
ret (.next [(Qd,vt),(Qf,vc)]))))
theorem Ua6(vt vc:V):J_before_attr_value_state_0 p c [(Qd,vt),(Qf,vc)]=J_before_attr_value_state_0_T0 p c vt vc:=by kernel_rfl
def F_before_attr_value_state(vt:V):M Fl :=
mc p c vt Qbd [] fun x2 =>
bnd (c a_is_blank [x2]) fun x3 =>
(match isT x3 with
| some x4=>(if x4 then
ret (.ret .none)
else
J_before_attr_value_state_0 p c [(Qd,vt),(Qf,x2)])
| none=>fail)
theorem Ubw(d:Nat)(vt:V):callK (P p) (d+1) a_before_attr_value_state [vt]=bnd (F_before_attr_value_state p (callK (P p) d) vt) unFl:=by kernel_rfl
def F_quoted_value(vt vquote:V):M Fl :=
mc p c vt Qbd [] fun x2 =>
bnd (look (cmpV .Eq x2 vquote)) fun x3 =>
(if x3 then
mc p c vt Qam [(.str Qch)] fun x5 =>
ret (.next [(Qd,vt),(Qdj,vquote),(Qf,x2)])
else
bnd (look (cmpV .Eq x2 (.str Qdr))) fun x6 =>
(if x6 then
bnd (c a_begin_reference [vt]) fun x7 =>
ret (.next [(Qd,vt),(Qdj,vquote),(Qf,x2)])
else
bnd (look (cmpV .Eq x2 (.str Qak))) fun x8 =>
(if x8 then
mc p c vt Qai [(.str Qco)] fun x10 =>
bnd (attrV (P p) vt Qp) fun x11 =>
mc p c x11 Qcm [(.str Qbs)] fun x13 =>
ret (.next [(Qd,vt),(Qdj,vquote),(Qf,x2)])
else
bnd (look (cmpV .Eq x2 (.str Qa))) fun x14 =>
(if x14 then
bnd (c a_cut_tag [vt]) fun x15 =>
ret (.next [(Qd,vt),(Qdj,vquote),(Qf,x2)])
else
bnd (attrV (P p) vt Qp) fun x16 =>
mc p c x16 Qcm [x2] fun x18 =>
ret (.next [(Qd,vt),(Qdj,vquote),(Qf,x2)])))))
theorem Ugm(d:Nat)(vt vquote:V):callK (P p) (d+1) a_quoted_value [vt,vquote]=bnd (F_quoted_value p (callK (P p) d) vt vquote) unFl:=by kernel_rfl
noncomputable def F_double_quoted_state(p:Params)(c:CC)(vt:V):M Fl :=
bnd (c a_quoted_value [vt,(.str Qbv)]) fun x1 =>
ret (.next [(Qd,vt)])
theorem Uct(d:Nat)(vt:V):callK (P p) (d+1) a_double_quoted_state [vt]=bnd (F_double_quoted_state p (callK (P p) d) vt) unFl:=by kernel_rfl
noncomputable def F_single_quoted_state(p:Params)(c:CC)(vt:V):M Fl :=
bnd (c a_quoted_value [vt,(.str Qcp)]) fun x1 =>
ret (.next [(Qd,vt)])
theorem Ucx(d:Nat)(vt:V):callK (P p) (d+1) a_single_quoted_state [vt]=bnd (F_single_quoted_state p (callK (P p) d) vt) unFl:=by kernel_rfl
def fd_unquoted_state:Fn:=fnAt (K p) [] a_unquoted_state
def sc_unquoted_state:Scope:=(fd_unquoted_state p).scope
def bo_unquoted_state:List Stmt:=(fd_unquoted_state p).body
def J_unquoted_state_0(fr:Fr):M Fl:=execK (P p) c (sc_unquoted_state p) 48 fr ((others (stAt (others (stAt (others (stAt (others (stAt (others (stAt (bo_unquoted_state p) 1)) 0)) 0)) 0)) 0)).drop 1) (fun fr=>ret (.next fr))
def J_unquoted_state_0_T0(vt vc:V):M Fl :=
bnd (attrV (P p) vt Qp) fun x22 =>
mc p c x22 Qcm [vc] fun x24 =>
ret (.next [(Qd,vt),(Qf,vc)])
theorem Ucl(vt vc:V):J_unquoted_state_0 p c [(Qd,vt),(Qf,vc)]=J_unquoted_state_0_T0 p c vt vc:=by kernel_rfl
def F_unquoted_state(vt:V):M Fl :=
mc p c vt Qbd [] fun x2 =>
bnd (c a_is_blank [x2]) fun x3 =>
(match isT x3 with
| some x4=>(if x4 then
mc p c vt Qam [(.str Qav)] fun x6 =>
ret (.next [(Qd,vt),(Qf,x2)])
else
bnd (look (cmpV .Eq x2 (.str Qdr))) fun x7 =>
(if x7 then
bnd (c a_begin_reference [vt]) fun x8 =>
ret (.next [(Qd,vt),(Qf,x2)])
else
bnd (look (cmpV .Eq x2 (.str Qas))) fun x9 =>
(if x9 then
bnd (c a_finish_tag [vt]) fun x10 =>
ret (.next [(Qd,vt),(Qf,x2)])
else
bnd (look (cmpV .Eq x2 (.str Qak))) fun x11 =>
(if x11 then
mc p c vt Qai [(.str Qco)] fun x13 =>
bnd (attrV (P p) vt Qp) fun x14 =>
mc p c x14 Qcm [(.str Qbs)] fun x16 =>
ret (.next [(Qd,vt),(Qf,x2)])
else
bnd (look (cmpV .Eq x2 (.str Qa))) fun x17 =>
(if x17 then
bnd (c a_cut_tag [vt]) fun x18 =>
ret (.next [(Qd,vt),(Qf,x2)])
else
bnd (look (cmpV .In x2 (.tup [(.str Qbv),(.str Qcp),(.str Qan),(.str Qbr),(.str (Y "`"))]))) fun x19 =>
(if x19 then
mc p c vt Qai [(.str (Y "unexpected-character-in-unquoted-attribute-value"))] fun x21 =>
J_unquoted_state_0 p c [(Qd,vt),(Qf,x2)]
else
J_unquoted_state_0 p c [(Qd,vt),(Qf,x2)]))))))
| none=>fail)
theorem Ufr(d:Nat)(vt:V):callK (P p) (d+1) a_unquoted_state [vt]=bnd (F_unquoted_state p (callK (P p) d) vt) unFl:=by kernel_rfl
def F_after_quoted_state(vt:V):M Fl :=
mc p c vt Qbd [] fun x2 =>
bnd (c a_is_blank [x2]) fun x3 =>
(match isT x3 with
| some x4=>(if x4 then
mc p c vt Qam [(.str Qav)] fun x6 =>
ret (.next [(Qd,vt),(Qf,x2)])
else
bnd (look (cmpV .Eq x2 (.str Qaj))) fun x7 =>
(if x7 then
mc p c vt Qam [(.str Qbc)] fun x9 =>
ret (.next [(Qd,vt),(Qf,x2)])
else
bnd (look (cmpV .Eq x2 (.str Qas))) fun x10 =>
(if x10 then
bnd (c a_finish_tag [vt]) fun x11 =>
ret (.next [(Qd,vt),(Qf,x2)])
else
bnd (look (cmpV .Eq x2 (.str Qa))) fun x12 =>
(if x12 then
bnd (c a_cut_tag [vt]) fun x13 =>
ret (.next [(Qd,vt),(Qf,x2)])
else
mc p c vt Qai [(.str (Y "missing-whitespace-between-attributes"))] fun x15 =>
mc p c vt Qax [(.str Qav)] fun x17 =>
ret (.next [(Qd,vt),(Qf,x2)])))))
| none=>fail)
theorem Uda(d:Nat)(vt:V):callK (P p) (d+1) a_after_quoted_state [vt]=bnd (F_after_quoted_state p (callK (P p) d) vt) unFl:=by kernel_rfl
noncomputable def F_attr_states(p:Params)(c:CC):M Fl :=
bnd (newD 3 [(Qav,(.fn a_before_attr_name_state)),(Qac,(.fn a_attr_name_state)),(Qbk,(.fn a_after_attr_name_state)),(Qbu,(.fn a_before_attr_value_state)),(Qcq,(.fn a_double_quoted_state)),(Qcr,(.fn a_single_quoted_state)),(Qcy,(.fn a_unquoted_state)),(Qch,(.fn a_after_quoted_state))]) fun x1 =>
ret (.ret x1)
theorem Uhz(d:Nat):callK (P p) (d+1) a_attr_states []=bnd (F_attr_states p (callK (P p) d) ) unFl:=by kernel_rfl
noncomputable def F_Draft_init(p:Params)(c:CC)(vself vkind vname:V):M Fl :=
bnd (setAttrV (P p) vself Qah vkind) fun w0 =>
bnd (setAttrV (P p) vself Qay vname) fun w0 =>
bnd (setAttrV (P p) vself Qc (.str Qa)) fun w0 =>
bnd (setAttrV (P p) vself Qdk .none) fun w0 =>
bnd (setAttrV (P p) vself Qdl .none) fun w0 =>
bnd (setAttrV (P p) vself Qdm (.bool false)) fun w0 =>
bnd (setAttrV (P p) vself Qbm (.bool false)) fun w0 =>
bnd (newL 4 []) fun x1 =>
bnd (setAttrV (P p) vself Qbb x1) fun w0 =>
ret (.next [(Qe,vself),(Qah,vkind),(Qay,vname)])
theorem Uit(d:Nat)(vself vkind vname:V):callK (P p) (d+1) a_Draft_init [vself,vkind,vname]=bnd (F_Draft_init p (callK (P p) d) vself vkind vname) unFl:=by kernel_rfl
def F_Draft_begin_attr(vself:V):M Fl :=
bnd (attrV (P p) vself Qbb) fun x1 =>
bnd (look (methK (P p) x1 Qx)) fun x2 =>
if isRepl x2 then fail else bnd (newL 5 [(.str Qa),(.str Qa),(.bool true)]) fun x3 =>
bnd (methodV c x2 x1 [x3]) fun x4 =>
ret (.next [(Qe,vself)])
theorem Uec(d:Nat)(vself:V):callK (P p) (d+1) a_Draft_begin_attr [vself]=bnd (F_Draft_begin_attr p (callK (P p) d) vself) unFl:=by kernel_rfl
noncomputable def F_Draft_add_name(p:Params)(c:CC)(vself vtext:V):M Fl :=
bnd (attrV (P p) vself Qbb) fun x1 =>
bnd (look (itemV x1 (.int (-1)))) fun x2 =>
bnd (look (itemV x2 (.int 0))) fun x3 =>
bnd (look (binV .Add x3 vtext)) fun x4 =>
bnd (setItemV x2 (.int 0) x4) fun w0 =>
ret (.next [(Qe,vself),(Qc,vtext),(Qi,x2)])
theorem Ufp(d:Nat)(vself vtext:V):callK (P p) (d+1) a_Draft_add_name [vself,vtext]=bnd (F_Draft_add_name p (callK (P p) d) vself vtext) unFl:=by kernel_rfl
noncomputable def F_Draft_add_value(p:Params)(c:CC)(vself vtext:V):M Fl :=
bnd (attrV (P p) vself Qbb) fun x1 =>
bnd (look (itemV x1 (.int (-1)))) fun x2 =>
bnd (look (itemV x2 (.int 1))) fun x3 =>
bnd (look (binV .Add x3 vtext)) fun x4 =>
bnd (setItemV x2 (.int 1) x4) fun w0 =>
ret (.next [(Qe,vself),(Qc,vtext),(Qi,x2)])
theorem Uei(d:Nat)(vself vtext:V):callK (P p) (d+1) a_Draft_add_value [vself,vtext]=bnd (F_Draft_add_value p (callK (P p) d) vself vtext) unFl:=by kernel_rfl
def fd_Draft_check_attr:Fn:=fnAt (K p) [] a_Draft_check_attr
def sc_Draft_check_attr:Scope:=(fd_Draft_check_attr p).scope
def bo_Draft_check_attr:List Stmt:=(fd_Draft_check_attr p).body
def st_Draft_check_attr_l0:Stmt:=(stAt (bo_Draft_check_attr p) 1)
def J_Draft_check_attr_0(fr:Fr):M Fl:=execK (P p) c (sc_Draft_check_attr p) 58 fr ((bo_Draft_check_attr p).drop 2) (fun fr=>ret (.next fr))
noncomputable def T_Draft_check_attr_l0_0(p:Params)(c:CC)(vself vlast vi:V):M Fl :=
bnd (attrV (P p) vself Qbb) fun x7 =>
bnd (look (itemV x7 vi)) fun x8 =>
bnd (look (itemV x8 (.int 2))) fun x9 =>
(match isT x9 with
| some x10=>(cond x10
(bnd (attrV (P p) vself Qbb) fun x11 =>
bnd (look (itemV x11 vi)) fun x12 =>
bnd (look (itemV x12 (.int 0))) fun x13 =>
bnd (look (itemV vlast (.int 0))) fun x14 =>
bnd (look (cmpV .Eq x13 x14)) fun x15 =>
(cond x15
(bnd (setItemV vlast (.int 2) (.bool false)) fun w0 =>
ret (.ret (.bool false)))
(ret (.next [(Qe,vself),(Qi,vlast),(Qci,vi)]))))
(ret (.next [(Qe,vself),(Qi,vlast),(Qci,vi)])))
| none=>fail)
theorem Ubu(vself vlast vi:V):turnL (P p) c (sc_Draft_check_attr p) 57 (st_Draft_check_attr_l0 p) [(Qe,vself),(Qi,vlast),(Qci,vi)]=T_Draft_check_attr_l0_0 p c vself vlast vi:=by kernel_rfl
noncomputable def J_Draft_check_attr_0_T0(p:Params)(c:CC)(vself vlast:V):M Fl :=
ret (.ret (.bool true))
theorem Ub7(vself vlast:V):J_Draft_check_attr_0 p c [(Qe,vself),(Qi,vlast)]=J_Draft_check_attr_0_T0 p c vself vlast:=by kernel_rfl
noncomputable def J_Draft_check_attr_0_T1(p:Params)(c:CC)(vself vlast vi:V):M Fl :=
ret (.ret (.bool true))
theorem Ub2(vself vlast vi:V):J_Draft_check_attr_0 p c [(Qe,vself),(Qi,vlast),(Qci,vi)]=J_Draft_check_attr_0_T1 p c vself vlast vi:=by kernel_rfl
def F_Draft_check_attr(vself:V):M Fl :=
bnd (attrV (P p) vself Qbb) fun x1 =>
bnd (look (itemV x1 (.int (-1)))) fun x2 =>
bnd (attrV (P p) vself Qbb) fun x3 =>
bnd (builtinV .len [x3]) fun x4 =>
bnd (look (binV .Sub x4 (.int 1))) fun x5 =>
bnd (builtinV .range [x5]) fun x6 =>
bnd (loopF x6 (setL (sc_Draft_check_attr p) Qci) (turnL (P p) c (sc_Draft_check_attr p) 57 (st_Draft_check_attr_l0 p)) 5000 0 [(Qe,vself),(Qi,x2)]) (goOn (J_Draft_check_attr_0 p c))
theorem Ueb(d:Nat)(vself:V):callK (P p) (d+1) a_Draft_check_attr [vself]=bnd (F_Draft_check_attr p (callK (P p) d) vself) unFl:=by kernel_rfl
def fd_Draft_token:Fn:=fnAt (K p) [] a_Draft_token
def sc_Draft_token:Scope:=(fd_Draft_token p).scope
def bo_Draft_token:List Stmt:=(fd_Draft_token p).body
def st_Draft_token_l0:Stmt:=(stAt (bo_Draft_token p) 3)
def J_Draft_token_0(fr:Fr):M Fl:=execK (P p) c (sc_Draft_token p) 59 fr ((bo_Draft_token p).drop 1) (fun fr=>ret (.next fr))
def J_Draft_token_1(fr:Fr):M Fl:=execK (P p) c (sc_Draft_token p) 58 fr ((bo_Draft_token p).drop 2) (fun fr=>ret (.next fr))
def J_Draft_token_2(fr:Fr):M Fl:=execK (P p) c (sc_Draft_token p) 56 fr ((bo_Draft_token p).drop 4) (fun fr=>ret (.next fr))
def J_Draft_token_0_T0(vself:V):M Fl :=
bnd (attrV (P p) vself Qah) fun x4 =>
bnd (look (cmpV .Eq x4 (.str Qds))) fun x5 =>
(if x5 then
bnd (attrV (P p) vself Qay) fun x6 =>
bnd (attrV (P p) vself Qdk) fun x7 =>
bnd (attrV (P p) vself Qdl) fun x8 =>
bnd (attrV (P p) vself Qdm) fun x9 =>
ret (.ret (.tup [(.str Qds),x6,x7,x8,x9]))
else
J_Draft_token_1 p c [(Qe,vself)])
theorem Udy(vself:V):J_Draft_token_0 p c [(Qe,vself)]=J_Draft_token_0_T0 p c vself:=by kernel_rfl
def J_Draft_token_1_T0(vself:V):M Fl :=
bnd (newL 6 []) fun x10 =>
bnd (attrV (P p) vself Qbb) fun x11 =>
bnd (loopF x11 (setL (sc_Draft_token p) Qcs) (turnL (P p) c (sc_Draft_token p) 55 (st_Draft_token_l0 p)) 5000 0 [(Qe,vself),(Qbw,x10)]) (goOn (J_Draft_token_2 p c))
theorem Udx(vself:V):J_Draft_token_1 p c [(Qe,vself)]=J_Draft_token_1_T0 p c vself:=by kernel_rfl
def T_Draft_token_l0_0(vself vkept vattr:V):M Fl :=
bnd (look (itemV vattr (.int 2))) fun x12 =>
(match isT x12 with
| some x13=>(if x13 then
bnd (look (methK (P p) vkept Qx)) fun x14 =>
if isRepl x14 then fail else bnd (look (itemV vattr (.int 0))) fun x15 =>
bnd (look (itemV vattr (.int 1))) fun x16 =>
bnd (methodV c x14 vkept [(.tup [x15,x16])]) fun x17 =>
ret (.next [(Qe,vself),(Qbw,vkept),(Qcs,vattr)])
else
ret (.next [(Qe,vself),(Qbw,vkept),(Qcs,vattr)]))
| none=>fail)
theorem Ucz(vself vkept vattr:V):turnL (P p) c (sc_Draft_token p) 55 (st_Draft_token_l0 p) [(Qe,vself),(Qbw,vkept),(Qcs,vattr)]=T_Draft_token_l0_0 p c vself vkept vattr:=by kernel_rfl
noncomputable def J_Draft_token_2_T0(p:Params)(c:CC)(vself vkept:V):M Fl :=
bnd (attrV (P p) vself Qah) fun x18 =>
bnd (attrV (P p) vself Qay) fun x19 =>
bnd (builtinV .tuple [vkept]) fun x20 =>
bnd (attrV (P p) vself Qbm) fun x21 =>
ret (.ret (.tup [x18,x19,x20,x21]))
theorem Udc(vself vkept:V):J_Draft_token_2 p c [(Qe,vself),(Qbw,vkept)]=J_Draft_token_2_T0 p c vself vkept:=by kernel_rfl
noncomputable def J_Draft_token_2_T1(p:Params)(c:CC)(vself vkept vattr:V):M Fl :=
bnd (attrV (P p) vself Qah) fun x22 =>
bnd (attrV (P p) vself Qay) fun x23 =>
bnd (builtinV .tuple [vkept]) fun x24 =>
bnd (attrV (P p) vself Qbm) fun x25 =>
ret (.ret (.tup [x22,x23,x24,x25]))
theorem Udg(vself vkept vattr:V):J_Draft_token_2 p c [(Qe,vself),(Qbw,vkept),(Qcs,vattr)]=J_Draft_token_2_T1 p c vself vkept vattr:=by kernel_rfl
def F_Draft_token(vself:V):M Fl :=
bnd (attrV (P p) vself Qah) fun x1 =>
bnd (look (cmpV .Eq x1 (.str Qat))) fun x2 =>
(if x2 then
bnd (attrV (P p) vself Qc) fun x3 =>
ret (.ret (.tup [(.str Qat),x3]))
else
J_Draft_token_0 p c [(Qe,vself)])
theorem Uh2(d:Nat)(vself:V):callK (P p) (d+1) a_Draft_token [vself]=bnd (F_Draft_token p (callK (P p) d) vself) unFl:=by kernel_rfl
def F_tag_open_state(vt:V):M Fl :=
mc p c vt Qbd [] fun x2 =>
bnd (look (cmpV .Eq x2 (.str Qdt))) fun x3 =>
(if x3 then
mc p c vt Qam [(.str (Y "markup declaration open"))] fun x5 =>
ret (.next [(Qd,vt),(Qf,x2)])
else
bnd (look (cmpV .Eq x2 (.str Qaj))) fun x6 =>
(if x6 then
mc p c vt Qam [(.str Qbg)] fun x8 =>
ret (.next [(Qd,vt),(Qf,x2)])
else
bnd (c a_is_letter [x2]) fun x9 =>
(match isT x9 with
| some x10=>(if x10 then
bnd (applyV (P p) c (.fn c_Draft) [(.str Qcn),(.str Qa)]) fun x11 =>
bnd (setAttrV (P p) vt Qp x11) fun w0 =>
mc p c vt Qax [(.str Qad)] fun x13 =>
ret (.next [(Qd,vt),(Qf,x2)])
else
bnd (look (cmpV .Eq x2 (.str (Y "?")))) fun x14 =>
(if x14 then
mc p c vt Qai [(.str (Y "unexpected-question-mark-instead-of-tag-name"))] fun x16 =>
bnd (applyV (P p) c (.fn c_Draft) [(.str Qat),(.str Qa)]) fun x17 =>
bnd (setAttrV (P p) vt Qp x17) fun w0 =>
mc p c vt Qax [(.str (Y "bogus comment"))] fun x19 =>
ret (.next [(Qd,vt),(Qf,x2)])
else
bnd (look (cmpV .Eq x2 (.str Qa))) fun x20 =>
(if x20 then
mc p c vt Qai [(.str Qdu)] fun x22 =>
mc p c vt Qdi [(.str Qan)] fun x24 =>
mc p c vt Qca [] fun x26 =>
ret (.next [(Qd,vt),(Qf,x2)])
else
mc p c vt Qai [(.str Qdv)] fun x28 =>
mc p c vt Qdi [(.str Qan)] fun x30 =>
mc p c vt Qax [(.str Qaw)] fun x32 =>
ret (.next [(Qd,vt),(Qf,x2)]))))
| none=>fail)))
theorem Ufw(d:Nat)(vt:V):callK (P p) (d+1) a_tag_open_state [vt]=bnd (F_tag_open_state p (callK (P p) d) vt) unFl:=by kernel_rfl
def F_end_tag_open_state(vt:V):M Fl :=
mc p c vt Qbd [] fun x2 =>
bnd (c a_is_letter [x2]) fun x3 =>
(match isT x3 with
| some x4=>(if x4 then
bnd (applyV (P p) c (.fn c_Draft) [(.str Qar),(.str Qa)]) fun x5 =>
bnd (setAttrV (P p) vt Qp x5) fun w0 =>
mc p c vt Qax [(.str Qad)] fun x7 =>
ret (.next [(Qd,vt),(Qf,x2)])
else
bnd (look (cmpV .Eq x2 (.str Qas))) fun x8 =>
(if x8 then
mc p c vt Qai [(.str (Y "missing-end-tag-name"))] fun x10 =>
mc p c vt Qam [(.str Qaw)] fun x12 =>
ret (.next [(Qd,vt),(Qf,x2)])
else
bnd (look (cmpV .Eq x2 (.str Qa))) fun x13 =>
(if x13 then
mc p c vt Qai [(.str Qdu)] fun x15 =>
mc p c vt Qdp [(.str Qbx)] fun x17 =>
mc p c vt Qca [] fun x19 =>
ret (.next [(Qd,vt),(Qf,x2)])
else
mc p c vt Qai [(.str Qdv)] fun x21 =>
bnd (applyV (P p) c (.fn c_Draft) [(.str Qat),(.str Qa)]) fun x22 =>
bnd (setAttrV (P p) vt Qp x22) fun w0 =>
mc p c vt Qax [(.str (Y "bogus comment"))] fun x24 =>
ret (.next [(Qd,vt),(Qf,x2)]))))
| none=>fail)
theorem Uc5(d:Nat)(vt:V):callK (P p) (d+1) a_end_tag_open_state [vt]=bnd (F_end_tag_open_state p (callK (P p) d) vt) unFl:=by kernel_rfl
def F_tag_name_state(vt:V):M Fl :=
mc p c vt Qbd [] fun x2 =>
bnd (c a_is_blank [x2]) fun x3 =>
(match isT x3 with
| some x4=>(if x4 then
mc p c vt Qam [(.str Qav)] fun x6 =>
ret (.next [(Qd,vt),(Qf,x2)])
else
bnd (look (cmpV .Eq x2 (.str Qaj))) fun x7 =>
(if x7 then
mc p c vt Qam [(.str Qbc)] fun x9 =>
ret (.next [(Qd,vt),(Qf,x2)])
else
bnd (look (cmpV .Eq x2 (.str Qas))) fun x10 =>
(if x10 then
mc p c vt Qam [(.str Qaw)] fun x12 =>
mc p c vt Qcx [] fun x14 =>
ret (.next [(Qd,vt),(Qf,x2)])
else
bnd (look (cmpV .Eq x2 (.str Qak))) fun x15 =>
(if x15 then
mc p c vt Qai [(.str Qco)] fun x17 =>
bnd (attrV (P p) vt Qp) fun x18 =>
bnd (attrV (P p) x18 Qay) fun x19 =>
bnd (look (binV .Add x19 (.str Qbs))) fun x20 =>
bnd (attrV (P p) vt Qp) fun x21 =>
bnd (setAttrV (P p) x21 Qay x20) fun w0 =>
ret (.next [(Qd,vt),(Qf,x2)])
else
bnd (look (cmpV .Eq x2 (.str Qa))) fun x22 =>
(if x22 then
mc p c vt Qai [(.str Qcg)] fun x24 =>
mc p c vt Qca [] fun x26 =>
ret (.next [(Qd,vt),(Qf,x2)])
else
bnd (attrV (P p) vt Qp) fun x27 =>
bnd (attrV (P p) x27 Qay) fun x28 =>
bnd (c a_lower [x2]) fun x29 =>
bnd (look (binV .Add x28 x29)) fun x30 =>
bnd (attrV (P p) vt Qp) fun x31 =>
bnd (setAttrV (P p) x31 Qay x30) fun w0 =>
ret (.next [(Qd,vt),(Qf,x2)]))))))
| none=>fail)
theorem Ufx(d:Nat)(vt:V):callK (P p) (d+1) a_tag_name_state [vt]=bnd (F_tag_name_state p (callK (P p) d) vt) unFl:=by kernel_rfl
def F_self_closing_state(vt:V):M Fl :=
mc p c vt Qbd [] fun x2 =>
bnd (look (cmpV .Eq x2 (.str Qas))) fun x3 =>
(if x3 then
bnd (attrV (P p) vt Qp) fun x4 =>
bnd (setAttrV (P p) x4 Qbm (.bool true)) fun w0 =>
mc p c vt Qam [(.str Qaw)] fun x6 =>
mc p c vt Qcx [] fun x8 =>
ret (.next [(Qd,vt),(Qf,x2)])
else
bnd (look (cmpV .Eq x2 (.str Qa))) fun x9 =>
(if x9 then
mc p c vt Qai [(.str Qcg)] fun x11 =>
mc p c vt Qca [] fun x13 =>
ret (.next [(Qd,vt),(Qf,x2)])
else
mc p c vt Qai [(.str (Y "unexpected-solidus-in-tag"))] fun x15 =>
mc p c vt Qax [(.str Qav)] fun x17 =>
ret (.next [(Qd,vt),(Qf,x2)])))
theorem Uc8(d:Nat)(vt:V):callK (P p) (d+1) a_self_closing_state [vt]=bnd (F_self_closing_state p (callK (P p) d) vt) unFl:=by kernel_rfl
noncomputable def F_tag_states(p:Params)(c:CC):M Fl :=
bnd (newD 3 [(Qae,(.fn a_tag_open_state)),(Qbg,(.fn a_end_tag_open_state)),(Qad,(.fn a_tag_name_state)),(Qbc,(.fn a_self_closing_state))]) fun x1 =>
ret (.ret x1)
theorem Uje(d:Nat):callK (P p) (d+1) a_tag_states []=bnd (F_tag_states p (callK (P p) d) ) unFl:=by kernel_rfl
noncomputable def F__law_number(p:Params)(c:CC)(vscript vplace:V):M Fl :=
bnd (builtinV .len [vscript]) fun x1 =>
bnd (look (cmpV .Lt vplace x1)) fun x2 =>
(if x2 then
bnd (look (itemV vscript vplace)) fun x3 =>
bnd (look (binV .Mod x3 (.int 1000000007))) fun x4 =>
ret (.ret x4)
else
bnd (look (binV .Mult (.int 37) vplace)) fun x5 =>
bnd (look (binV .Mod x5 (.int 1000000007))) fun x6 =>
ret (.ret x6))
theorem Uhc(d:Nat)(vscript vplace:V):callK (P p) (d+1) a__law_number [vscript,vplace]=bnd (F__law_number p (callK (P p) d) vscript vplace) unFl:=by kernel_rfl
def F__law_text(vscript:V):M Fl :=
bnd (ret (V.lst [(.str Qbh),(.str Qaj),(.str Qbl),(.str Qdt),(.str Qba),(.str (Y "?")),(.str Qcc),(.str Qas),(.str (Y "@")),(.str (Y "[")),(.str (Y "`")),(.str (Y "{")),(.str Qak),(.str Qan),(.str Qaj),(.str Qdw)])) fun x1 =>
bnd (ret (V.lst [(.str (Y " ")),(.str Qbh),(.str Qbr),(.str Qbv),(.str Qaj),(.str Qdn),(.str Qcp),(.str Qan),(.str Qbl),(.str Qak),(.str Qas),(.str (Y "`")),(.str Qbr),(.str Qcd),(.str Qbh),(.str Qba),(.str Qdr),(.str Qap),(.str Qcc),(.str (Y "K")),(.str (Y "\x09")),(.str Qdw),(.str (Y "\x0c")),(.str Qdt)])) fun x2 =>
bnd (look (sliceV vscript (some (.int 1)) (some (.int 3)))) fun x3 =>
bnd (compK x3 (fun x4=>bnd (bnd (look (binV .Mod x4 (.int 16))) fun x5 =>
bnd (look (itemV x1 x5)) fun x6 =>
ret (.ret x6)) unFl) (fun x4=>ret true) 200 0 []) fun x7 =>
bnd (look (sliceV vscript (some (.int 3)) (some (.int 17)))) fun x8 =>
bnd (compK x8 (fun x9=>bnd (bnd (look (binV .Mod x9 (.int 24))) fun x10 =>
bnd (look (itemV x2 x10)) fun x11 =>
ret (.ret x11)) unFl) (fun x9=>ret true) 200 0 []) fun x12 =>
bnd (look (binV .Add x7 x12)) fun x13 =>
bnd (look (methK (P p) (.str Qa) (Y "join"))) fun x14 =>
if isRepl x14 then fail else bnd (methodV c x14 (.str Qa) [x13]) fun x15 =>
bnd (builtinV .len [x13]) fun x16 =>
bnd (look (sliceV (.str (Y "Ab A=\"/\"/a = \x00c'")) (some x16) none)) fun x17 =>
bnd (look (binV .Add x15 x17)) fun x18 =>
ret (.ret x18)
theorem Uky(d:Nat)(vscript:V):callK (P p) (d+1) a__law_text [vscript]=bnd (F__law_text p (callK (P p) d) vscript) unFl:=by kernel_rfl
def fd__law_pieces:Fn:=fnAt (K p) [] a__law_pieces
def sc__law_pieces:Scope:=(fd__law_pieces p).scope
def bo__law_pieces:List Stmt:=(fd__law_pieces p).body
def st__law_pieces_l0:Stmt:=(stAt (bo__law_pieces p) 1)
def J__law_pieces_0(fr:Fr):M Fl:=execK (P p) c (sc__law_pieces p) 58 fr ((bo__law_pieces p).drop 2) (fun fr=>ret (.next fr))
def T__law_pieces_l0_0(vscript vtext vpieces vat vplace:V):M Fl :=
bnd (c a__law_number [vscript,vplace]) fun x3 =>
bnd (look (binV .FloorDiv x3 (.int 24))) fun x4 =>
bnd (look (binV .Mod x4 (.int 4))) fun x5 =>
bnd (look (methK (P p) vpieces Qx)) fun x6 =>
if isRepl x6 then fail else bnd (look (binV .Add vat x5)) fun x7 =>
bnd (look (sliceV vtext (some vat) (some x7))) fun x8 =>
bnd (methodV c x6 vpieces [x8]) fun x9 =>
bnd (look (binV .Add vat x5)) fun x10 =>
ret (.next [(Qj,vscript),(Qc,vtext),(Qo,vpieces),(Qt,x10),(Qr,vplace),(Qcz,x5)])
theorem Ucy(vscript vtext vpieces vat vplace:V):turnL (P p) c (sc__law_pieces p) 57 (st__law_pieces_l0 p) [(Qj,vscript),(Qc,vtext),(Qo,vpieces),(Qt,vat),(Qr,vplace)]=T__law_pieces_l0_0 p c vscript vtext vpieces vat vplace:=by kernel_rfl
def T__law_pieces_l0_1(vscript vtext vpieces vat vplace vsize:V):M Fl :=
bnd (c a__law_number [vscript,vplace]) fun x11 =>
bnd (look (binV .FloorDiv x11 (.int 24))) fun x12 =>
bnd (look (binV .Mod x12 (.int 4))) fun x13 =>
bnd (look (methK (P p) vpieces Qx)) fun x14 =>
if isRepl x14 then fail else bnd (look (binV .Add vat x13)) fun x15 =>
bnd (look (sliceV vtext (some vat) (some x15))) fun x16 =>
bnd (methodV c x14 vpieces [x16]) fun x17 =>
bnd (look (binV .Add vat x13)) fun x18 =>
ret (.next [(Qj,vscript),(Qc,vtext),(Qo,vpieces),(Qt,x18),(Qr,vplace),(Qcz,x13)])
theorem Ucu(vscript vtext vpieces vat vplace vsize:V):turnL (P p) c (sc__law_pieces p) 57 (st__law_pieces_l0 p) [(Qj,vscript),(Qc,vtext),(Qo,vpieces),(Qt,vat),(Qr,vplace),(Qcz,vsize)]=T__law_pieces_l0_1 p c vscript vtext vpieces vat vplace vsize:=by kernel_rfl
noncomputable def J__law_pieces_0_T0(p:Params)(c:CC)(vscript vtext vpieces vat:V):M Fl :=
bnd (look (sliceV vtext (some vat) none)) fun x19 =>
bnd (ret (V.lst [x19])) fun x20 =>
bnd (look (binV .Add vpieces x20)) fun x21 =>
ret (.ret x21)
theorem Udt(vscript vtext vpieces vat:V):J__law_pieces_0 p c [(Qj,vscript),(Qc,vtext),(Qo,vpieces),(Qt,vat)]=J__law_pieces_0_T0 p c vscript vtext vpieces vat:=by kernel_rfl
noncomputable def J__law_pieces_0_T2(p:Params)(c:CC)(vscript vtext vpieces vat vplace vsize:V):M Fl :=
bnd (look (sliceV vtext (some vat) none)) fun x25 =>
bnd (ret (V.lst [x25])) fun x26 =>
bnd (look (binV .Add vpieces x26)) fun x27 =>
ret (.ret x27)
theorem Udl(vscript vtext vpieces vat vplace vsize:V):J__law_pieces_0 p c [(Qj,vscript),(Qc,vtext),(Qo,vpieces),(Qt,vat),(Qr,vplace),(Qcz,vsize)]=J__law_pieces_0_T2 p c vscript vtext vpieces vat vplace vsize:=by kernel_rfl
def F__law_pieces(vscript vtext:V):M Fl :=
bnd (newL 11 []) fun x1 =>
bnd (builtinV .range [(.int 1),(.int 17)]) fun x2 =>
bnd (loopF x2 (setL (sc__law_pieces p) Qr) (turnL (P p) c (sc__law_pieces p) 57 (st__law_pieces_l0 p)) 5000 0 [(Qj,vscript),(Qc,vtext),(Qo,x1),(Qt,(.int 0))]) (goOn (J__law_pieces_0 p c))
theorem Uh1(d:Nat)(vscript vtext:V):callK (P p) (d+1) a__law_pieces [vscript,vtext]=bnd (F__law_pieces p (callK (P p) d) vscript vtext) unFl:=by kernel_rfl
noncomputable def F__law_newlines(p:Params)(c:CC)(vtext:V):M Fl :=
bnd (look (methK (P p) vtext Qcv)) fun x1 =>
if isRepl x1 then bnd (replS vtext Qcj Qap) fun x2 =>
bnd (look (methK (P p) x2 Qcv)) fun x3 =>
if isRepl x3 then bnd (replS x2 Qcd Qap) fun x4 =>
ret (.ret x4) else fail else fail
theorem Ufz(d:Nat)(vtext:V):callK (P p) (d+1) a__law_newlines [vtext]=bnd (F__law_newlines p (callK (P p) d) vtext) unFl:=by kernel_rfl
def F__law_tags:M Fl :=
bnd (newL 12 [(.tup [(.str Qdt),(.str Qa),(.str Qa),(.str (Y "markup declaration open"))]),(.tup [(.str Qaj),(.str Qa),(.str Qa),(.str Qbg)]),(.tup [(.str (Y "L")),(.str Qa),(.str Qcn),(.str (Y "~tag name"))])]) fun x1 =>
mc p c x1 Qx [(.tup [(.str (Y "?")),(.str (Y "unexpected-question-mark-instead-of-tag-name")),(.str Qat),(.str (Y "~bogus comment"))])] fun x3 =>
bnd (look (methK (P p) x1 Qbn)) fun x4 =>
if isRepl x4 then fail else bnd (ret (V.lst [(.tup [(.str Qct),(.str Qdu),(.str Qbt),(.str Qa)]),(.tup [(.str Qaz),(.str Qdv),(.str (Y "lone")),(.str (Y "~data"))])])) fun x5 =>
bnd (methodV c x4 x1 [x5]) fun x6 =>
bnd (newL 12 [(.tup [(.str (Y "L")),(.str Qa),(.str Qar),(.str (Y "~tag name"))]),(.tup [(.str Qas),(.str (Y "missing-end-tag-name")),(.str Qa),(.str Qaw)])]) fun x7 =>
bnd (look (methK (P p) x7 Qbn)) fun x8 =>
if isRepl x8 then fail else bnd (ret (V.lst [(.tup [(.str Qct),(.str Qdu),(.str Qbt),(.str Qa)]),(.tup [(.str Qaz),(.str Qdv),(.str Qat),(.str (Y "~bogus comment"))])])) fun x9 =>
bnd (methodV c x8 x7 [x9]) fun x10 =>
bnd (newL 12 [(.tup [(.str Qda),(.str Qa),(.str Qa),(.str Qav)]),(.tup [(.str Qaj),(.str Qa),(.str Qa),(.str Qbc)]),(.tup [(.str Qas),(.str Qa),(.str Qdb),(.str Qaw)])]) fun x11 =>
bnd (look (methK (P p) x11 Qbn)) fun x12 =>
if isRepl x12 then fail else bnd (ret (V.lst [(.tup [(.str (Y "0")),(.str Qco),(.str Qby),(.str Qa)]),(.tup [(.str Qct),(.str Qcg),(.str Qdc),(.str Qa)]),(.tup [(.str Qaz),(.str Qa),(.str Qby),(.str Qa)])])) fun x13 =>
bnd (methodV c x12 x11 [x13]) fun x14 =>
bnd (newL 12 [(.tup [(.str Qas),(.str Qa),(.str (Y "close")),(.str Qaw)]),(.tup [(.str Qct),(.str Qcg),(.str Qdc),(.str Qa)])]) fun x15 =>
mc p c x15 Qx [(.tup [(.str Qaz),(.str (Y "unexpected-solidus-in-tag")),(.str Qa),(.str (Y "~before attribute name"))])] fun x17 =>
bnd (newD 13 [(Qae,x1),(Qbg,x7),(Qad,x11),(Qbc,x15)]) fun x18 =>
ret (.ret x18)
theorem Ukz(d:Nat):callK (P p) (d+1) a__law_tags []=bnd (F__law_tags p (callK (P p) d) ) unFl:=by kernel_rfl
def F__law_names:M Fl :=
bnd (newL 12 [(.tup [(.str Qda),(.str Qa),(.str Qa),(.str Qa)]),(.tup [(.str (Y "/>$")),(.str Qa),(.str Qa),(.str (Y "~after attribute name"))]),(.tup [(.str Qbr),(.str (Y "unexpected-equals-sign-before-attribute-name")),(.str Qk),(.str Qac)])]) fun x1 =>
mc p c x1 Qx [(.tup [(.str Qaz),(.str Qa),(.str (Y "new")),(.str (Y "~attribute name"))])] fun x3 =>
bnd (newL 12 [(.tup [(.str (Y "_/>$")),(.str Qa),(.str (Y "check")),(.str (Y "~after attribute name"))]),(.tup [(.str Qbr),(.str Qa),(.str (Y "check")),(.str Qbu)])]) fun x4 =>
bnd (look (methK (P p) x4 Qbn)) fun x5 =>
if isRepl x5 then fail else bnd (ret (V.lst [(.tup [(.str (Y "0")),(.str Qco),(.str Qby),(.str Qa)]),(.tup [(.str (Y "\"'<")),(.str (Y "unexpected-character-in-attribute-name")),(.str Qby),(.str Qa)])])) fun x6 =>
bnd (methodV c x5 x4 [x6]) fun x7 =>
mc p c x4 Qx [(.tup [(.str Qaz),(.str Qa),(.str Qby),(.str Qa)])] fun x9 =>
bnd (newL 12 [(.tup [(.str Qda),(.str Qa),(.str Qa),(.str Qa)]),(.tup [(.str Qaj),(.str Qa),(.str Qa),(.str Qbc)]),(.tup [(.str Qbr),(.str Qa),(.str Qa),(.str Qbu)])]) fun x10 =>
bnd (look (methK (P p) x10 Qbn)) fun x11 =>
if isRepl x11 then fail else bnd (ret (V.lst [(.tup [(.str Qas),(.str Qa),(.str Qdb),(.str Qaw)]),(.tup [(.str Qct),(.str Qcg),(.str Qdc),(.str Qa)]),(.tup [(.str Qaz),(.str Qa),(.str (Y "new")),(.str (Y "~attribute name"))])])) fun x12 =>
bnd (methodV c x11 x10 [x12]) fun x13 =>
bnd (newD 13 [(Qav,x1),(Qac,x4),(Qbk,x10)]) fun x14 =>
ret (.ret x14)
theorem Uiq(d:Nat):callK (P p) (d+1) a__law_names []=bnd (F__law_names p (callK (P p) d) ) unFl:=by kernel_rfl
def F__law_values:M Fl :=
bnd (newL 12 [(.tup [(.str Qda),(.str Qa),(.str Qa),(.str Qa)]),(.tup [(.str Qbv),(.str Qa),(.str Qa),(.str Qcq)])]) fun x1 =>
bnd (look (methK (P p) x1 Qbn)) fun x2 =>
if isRepl x2 then fail else bnd (ret (V.lst [(.tup [(.str Qcp),(.str Qa),(.str Qa),(.str Qcr)]),(.tup [(.str Qas),(.str (Y "missing-attribute-value")),(.str Qdb),(.str Qaw)])])) fun x3 =>
bnd (methodV c x2 x1 [x3]) fun x4 =>
mc p c x1 Qx [(.tup [(.str Qaz),(.str Qa),(.str Qa),(.str (Y "~attribute value (unquoted)"))])] fun x6 =>
bnd (newL 12 [(.tup [(.str Qdr),(.str Qa),(.str (Y "refer")),(.str (Y "character reference"))]),(.tup [(.str (Y "0")),(.str Qco),(.str Qby),(.str Qa)])]) fun x7 =>
bnd (look (methK (P p) x7 Qbn)) fun x8 =>
if isRepl x8 then fail else bnd (ret (V.lst [(.tup [(.str Qct),(.str Qcg),(.str Qdc),(.str Qa)]),(.tup [(.str Qaz),(.str Qa),(.str Qby),(.str Qa)])])) fun x9 =>
bnd (methodV c x8 x7 [x9]) fun x10 =>
bnd (newL 12 [(.tup [(.str Qda),(.str Qa),(.str Qa),(.str Qav)]),(.tup [(.str Qas),(.str Qa),(.str Qdb),(.str Qaw)]),(.tup [(.str (Y "\"'<=`")),(.str (Y "unexpected-character-in-unquoted-attribute-value")),(.str Qby),(.str Qa)])]) fun x11 =>
bnd (look (binV .Add x11 x7)) fun x12 =>
bnd (newL 12 [(.tup [(.str Qda),(.str Qa),(.str Qa),(.str Qav)]),(.tup [(.str Qaj),(.str Qa),(.str Qa),(.str Qbc)]),(.tup [(.str Qas),(.str Qa),(.str Qdb),(.str Qaw)])]) fun x13 =>
mc p c x13 Qx [(.tup [(.str Qct),(.str Qcg),(.str Qdc),(.str Qa)])] fun x15 =>
mc p c x13 Qx [(.tup [(.str Qaz),(.str (Y "missing-whitespace-between-attributes")),(.str Qa),(.str (Y "~before attribute name"))])] fun x17 =>
bnd (ret (V.lst [(.tup [(.str Qbv),(.str Qa),(.str Qa),(.str Qch)])])) fun x18 =>
bnd (look (binV .Add x18 x7)) fun x19 =>
bnd (ret (V.lst [(.tup [(.str Qcp),(.str Qa),(.str Qa),(.str Qch)])])) fun x20 =>
bnd (look (binV .Add x20 x7)) fun x21 =>
bnd (newD 13 [(Qbu,x1),(Qcq,x19),(Qcr,x21),(Qcy,x12),(Qch,x13)]) fun x22 =>
ret (.ret x22)
theorem Uh4(d:Nat):callK (P p) (d+1) a__law_values []=bnd (F__law_values p (callK (P p) d) ) unFl:=by kernel_rfl
def fd__law_token:Fn:=fnAt (K p) [] a__law_token
def sc__law_token:Scope:=(fd__law_token p).scope
def bo__law_token:List Stmt:=(fd__law_token p).body
def J__law_token_0(fr:Fr):M Fl:=execK (P p) c (sc__law_token p) 58 fr ((bo__law_token p).drop 2) (fun fr=>ret (.next fr))
noncomputable def J__law_token_0_T0(p:Params)(c:CC)(vnote vwords:V):M Fl :=
bnd (builtinV .len [vwords]) fun x11 =>
bnd (builtinV .range [(.int 1),x11,(.int 2)]) fun x12 =>
bnd (compK x12 (fun x13=>bnd (bnd (look (itemV vwords x13)) fun x14 =>
bnd (look (binV .Add x13 (.int 1))) fun x15 =>
bnd (look (itemV vwords x15)) fun x16 =>
ret (.ret (.tup [x14,x16]))) unFl) (fun x13=>bnd (bnd (look (itemV vnote (.str Qdd))) fun x17 =>
bnd (look (cmpV .NotIn x13 x17)) fun x18 =>
ret (.ret (.bool x18))) unB) 200 0 []) fun x19 =>
bnd (look (itemV vnote (.str Qah))) fun x20 =>
bnd (look (itemV vwords (.int 0))) fun x21 =>
bnd (builtinV .tuple [x19]) fun x22 =>
bnd (look (itemV vnote (.str Qcu))) fun x23 =>
ret (.ret (.tup [x20,x21,x22,x23]))
theorem Ud5(vnote vwords:V):J__law_token_0 p c [(Qb,vnote),(Qz,vwords)]=J__law_token_0_T0 p c vnote vwords:=by kernel_rfl
def F__law_token(vnote:V):M Fl :=
bnd (look (itemV vnote (.str Qz))) fun x1 =>
bnd (look (itemV vnote (.str Qah))) fun x2 =>
bnd (ret (V.lst [(.str Qa),(.str Qat)])) fun x3 =>
bnd (look (cmpV .In x2 x3)) fun x4 =>
(cond x4
(bnd (look (itemV vnote (.str Qah))) fun x5 =>
bnd (look (cmpV .Eq x5 (.str Qat))) fun x6 =>
(if x6 then
ret (.ret (.tup [(.str Qat),(.str Qa)]))
else
ret (.ret .none)))
(bnd (look (itemV vnote (.str Qbo))) fun x7 =>
(match isT x7 with
| some x8=>(cond x8
(bnd (look (itemV vnote (.str Qah))) fun x9 =>
bnd (look (cmpV .Eq x9 (.str Qat))) fun x10 =>
(if x10 then
ret (.ret (.tup [(.str Qat),(.str Qa)]))
else
ret (.ret .none)))
(J__law_token_0 p c [(Qb,vnote),(Qz,x1)]))
| none=>fail)))
theorem Ui8(d:Nat)(vnote:V):callK (P p) (d+1) a__law_token [vnote]=bnd (F__law_token p (callK (P p) d) vnote) unFl:=by kernel_rfl
def fd__law_give:Fn:=fnAt (K p) [] a__law_give
def sc__law_give:Scope:=(fd__law_give p).scope
def bo__law_give:List Stmt:=(fd__law_give p).body
def J__law_give_0(fr:Fr):M Fl:=execK (P p) c (sc__law_give p) 58 fr ((bo__law_give p).drop 2) (fun fr=>ret (.next fr))
def J__law_give_1(fr:Fr):M Fl:=execK (P p) c (sc__law_give p) 57 fr ((bo__law_give p).drop 3) (fun fr=>ret (.next fr))
def J__law_give_2(fr:Fr):M Fl:=execK (P p) c (sc__law_give p) 56 fr ((bo__law_give p).drop 4) (fun fr=>ret (.next fr))
def J__law_give_0_T0(vnote vtoken:V):M Fl :=
bnd (look (itemV vtoken (.int 0))) fun x11 =>
bnd (look (cmpV .Eq x11 (.str Qar))) fun x12 =>
(cond x12
(bnd (look (itemV vtoken (.int 3))) fun x13 =>
(match isT x13 with
| some x14=>(cond x14
(bnd (look (itemV vnote (.str Qab))) fun x15 =>
bnd (look (methK (P p) x15 Qx)) fun x16 =>
if isRepl x16 then fail else bnd (look (itemV vnote (.str Qt))) fun x17 =>
bnd (methodV c x16 x15 [(.tup [(.str (Y "end-tag-with-trailing-solidus")),x17])]) fun x18 =>
J__law_give_1 p c [(Qb,vnote),(Qal,vtoken)])
(J__law_give_1 p c [(Qb,vnote),(Qal,vtoken)]))
| none=>fail))
(J__law_give_1 p c [(Qb,vnote),(Qal,vtoken)]))
theorem Uep(vnote vtoken:V):J__law_give_0 p c [(Qb,vnote),(Qal,vtoken)]=J__law_give_0_T0 p c vnote vtoken:=by kernel_rfl
def J__law_give_1_T0(vnote vtoken:V):M Fl :=
bnd (look (itemV vtoken (.int 0))) fun x19 =>
bnd (look (cmpV .Eq x19 (.str Qcn))) fun x20 =>
(if x20 then
bnd (look (itemV vtoken (.int 1))) fun x21 =>
bnd (setItemV vnote (.str Qi) x21) fun w0 =>
J__law_give_2 p c [(Qb,vnote),(Qal,vtoken)]
else
J__law_give_2 p c [(Qb,vnote),(Qal,vtoken)])
theorem Uek(vnote vtoken:V):J__law_give_1 p c [(Qb,vnote),(Qal,vtoken)]=J__law_give_1_T0 p c vnote vtoken:=by kernel_rfl
def J__law_give_2_T0(vnote vtoken:V):M Fl :=
bnd (look (itemV vnote (.str Qau))) fun x22 =>
mc p c x22 Qx [vtoken] fun x24 =>
bnd (setItemV vnote (.str Qah) (.str Qa)) fun w0 =>
ret (.next [(Qb,vnote),(Qal,vtoken)])
theorem Uen(vnote vtoken:V):J__law_give_2 p c [(Qb,vnote),(Qal,vtoken)]=J__law_give_2_T0 p c vnote vtoken:=by kernel_rfl
def F__law_give(vnote:V):M Fl :=
bnd (c a__law_token [vnote]) fun x1 =>
bnd (look (itemV x1 (.int 0))) fun x2 =>
bnd (look (cmpV .Eq x2 (.str Qar))) fun x3 =>
(cond x3
(bnd (look (itemV vnote (.str Qz))) fun x4 =>
bnd (builtinV .len [x4]) fun x5 =>
bnd (look (cmpV .Gt x5 (.int 1))) fun x6 =>
(cond x6
(bnd (look (itemV vnote (.str Qab))) fun x7 =>
bnd (look (methK (P p) x7 Qx)) fun x8 =>
if isRepl x8 then fail else bnd (look (itemV vnote (.str Qt))) fun x9 =>
bnd (methodV c x8 x7 [(.tup [(.str (Y "end-tag-with-attributes")),x9])]) fun x10 =>
J__law_give_0 p c [(Qb,vnote),(Qal,x1)])
(J__law_give_0 p c [(Qb,vnote),(Qal,x1)])))
(J__law_give_0 p c [(Qb,vnote),(Qal,x1)]))
theorem Uk6(d:Nat)(vnote:V):callK (P p) (d+1) a__law_give [vnote]=bnd (F__law_give p (callK (P p) d) vnote) unFl:=by kernel_rfl
def fd__law_put:Fn:=fnAt (K p) [] a__law_put
def sc__law_put:Scope:=(fd__law_put p).scope
def bo__law_put:List Stmt:=(fd__law_put p).body
def J__law_put_0(fr:Fr):M Fl:=execK (P p) c (sc__law_put p) 58 fr ((bo__law_put p).drop 2) (fun fr=>ret (.next fr))
noncomputable def J__law_put_0_T0(p:Params)(c:CC)(vnote vsign vplace:V):M Fl :=
bnd (look (itemV vnote (.str Qz))) fun x9 =>
bnd (look (itemV x9 vplace)) fun x10 =>
bnd (look (cmpV .Eq vsign (.str Qak))) fun x11 =>
(if x11 then
bnd (look (binV .Add x10 (.str Qbs))) fun x12 =>
bnd (look (itemV vnote (.str Qz))) fun x13 =>
bnd (setItemV x13 vplace x12) fun w0 =>
ret (.next [(Qb,vnote),(Qg,vsign),(Qr,vplace)])
else
bnd (look (binV .Add x10 vsign)) fun x14 =>
bnd (look (itemV vnote (.str Qz))) fun x15 =>
bnd (setItemV x15 vplace x14) fun w0 =>
ret (.next [(Qb,vnote),(Qg,vsign),(Qr,vplace)]))
theorem Ufb(vnote vsign vplace:V):J__law_put_0 p c [(Qb,vnote),(Qg,vsign),(Qr,vplace)]=J__law_put_0_T0 p c vnote vsign vplace:=by kernel_rfl
def F__law_put(vnote vsign:V):M Fl :=
bnd (newD 14 [(Qad,(.int 0)),(Qac,(.int (-2)))]) fun x1 =>
bnd (look (methK (P p) x1 (Y "get"))) fun x2 =>
if isRepl x2 then fail else bnd (look (itemV vnote (.str Qy))) fun x3 =>
bnd (methodV c x2 x1 [x3,(.int (-1))]) fun x4 =>
bnd (look (cmpV .NotEq x4 (.int (-1)))) fun x5 =>
(if x5 then
bnd (newD 14 [(Qba,(.str Qbh)),(Qdn,(.str Qdw)),(Qbl,(.str Qcc))]) fun x6 =>
mc p c x6 (Y "get") [vsign,vsign] fun x8 =>
J__law_put_0 p c [(Qb,vnote),(Qg,x8),(Qr,x4)]
else
J__law_put_0 p c [(Qb,vnote),(Qg,vsign),(Qr,x4)])
theorem Umu(d:Nat)(vnote vsign:V):callK (P p) (d+1) a__law_put [vnote,vsign]=bnd (F__law_put p (callK (P p) d) vnote vsign) unFl:=by kernel_rfl
def fd__law_deed:Fn:=fnAt (K p) [] a__law_deed
def sc__law_deed:Scope:=(fd__law_deed p).scope
def bo__law_deed:List Stmt:=(fd__law_deed p).body
def J__law_deed_0(fr:Fr):M Fl:=execK (P p) c (sc__law_deed p) 58 fr ((bo__law_deed p).drop 2) (fun fr=>ret (.next fr))
def J__law_deed_0_T0(vnote vdeed vsign vwords:V):M Fl :=
bnd (ret (V.lst [(.str Qbt),(.str Qdc)])) fun x46 =>
bnd (look (cmpV .In vdeed x46)) fun x47 =>
(if x47 then
bnd (look (itemV vnote (.str Qau))) fun x48 =>
mc p c x48 Qx [(.tup [(.str (Y "eof"))])] fun x50 =>
bnd (setItemV vnote (.str Qbo) (.bool true)) fun w0 =>
ret (.next [(Qb,vnote),(Qao,vdeed),(Qg,vsign),(Qz,vwords)])
else
ret (.next [(Qb,vnote),(Qao,vdeed),(Qg,vsign),(Qz,vwords)]))
theorem Ucc(vnote vdeed vsign vwords:V):J__law_deed_0 p c [(Qb,vnote),(Qao,vdeed),(Qg,vsign),(Qz,vwords)]=J__law_deed_0_T0 p c vnote vdeed vsign vwords:=by kernel_rfl
def F__law_deed(vnote vdeed vsign:V):M Fl :=
bnd (look (itemV vnote (.str Qz))) fun x1 =>
bnd (ret (V.lst [(.str Qcn),(.str Qar),(.str Qat)])) fun x2 =>
bnd (look (cmpV .In vdeed x2)) fun x3 =>
(if x3 then
bnd (newL 15 [(.str Qa)]) fun x4 =>
bnd (setItemV vnote (.str Qah) vdeed) fun w0 =>
bnd (setItemV vnote (.str Qz) x4) fun w0 =>
J__law_deed_0 p c [(Qb,vnote),(Qao,vdeed),(Qg,vsign),(Qz,x1)]
else
bnd (look (cmpV .Eq vdeed (.str Qby))) fun x5 =>
(if x5 then
bnd (c a__law_put [vnote,vsign]) fun x6 =>
J__law_deed_0 p c [(Qb,vnote),(Qao,vdeed),(Qg,vsign),(Qz,x1)]
else
bnd (ret (V.lst [(.str (Y "new")),(.str Qk)])) fun x7 =>
bnd (look (cmpV .In vdeed x7)) fun x8 =>
(if x8 then
bnd (look (methK (P p) x1 Qbn)) fun x9 =>
if isRepl x9 then fail else bnd (look (cmpV .Eq vdeed (.str Qk))) fun x10 =>
(if x10 then
bnd (ret (V.lst [(.str Qbr),(.str Qa)])) fun x11 =>
bnd (methodV c x9 x1 [x11]) fun x12 =>
J__law_deed_0 p c [(Qb,vnote),(Qao,vdeed),(Qg,vsign),(Qz,x1)]
else
bnd (ret (V.lst [(.str Qa),(.str Qa)])) fun x13 =>
bnd (methodV c x9 x1 [x13]) fun x14 =>
J__law_deed_0 p c [(Qb,vnote),(Qao,vdeed),(Qg,vsign),(Qz,x1)])
else
bnd (look (cmpV .Eq vdeed (.str (Y "check")))) fun x15 =>
(if x15 then
bnd (look (itemV x1 (.int (-2)))) fun x16 =>
bnd (look (stepV x1 (some (.int 1)) (some (.int (-2))) (.int 2))) fun x17 =>
bnd (look (cmpV .In x16 x17)) fun x18 =>
(if x18 then
bnd (look (itemV vnote (.str Qab))) fun x19 =>
bnd (look (methK (P p) x19 Qx)) fun x20 =>
if isRepl x20 then fail else bnd (look (itemV vnote (.str Qt))) fun x21 =>
bnd (methodV c x20 x19 [(.tup [(.str (Y "duplicate-attribute")),x21])]) fun x22 =>
bnd (look (itemV vnote (.str Qdd))) fun x23 =>
bnd (look (methK (P p) x23 Qx)) fun x24 =>
if isRepl x24 then fail else bnd (builtinV .len [x1]) fun x25 =>
bnd (look (binV .Sub x25 (.int 2))) fun x26 =>
bnd (methodV c x24 x23 [x26]) fun x27 =>
J__law_deed_0 p c [(Qb,vnote),(Qao,vdeed),(Qg,vsign),(Qz,x1)]
else
J__law_deed_0 p c [(Qb,vnote),(Qao,vdeed),(Qg,vsign),(Qz,x1)])
else
bnd (ret (V.lst [(.str Qdb),(.str (Y "close"))])) fun x28 =>
bnd (look (cmpV .In vdeed x28)) fun x29 =>
(if x29 then
bnd (look (cmpV .Eq vdeed (.str (Y "close")))) fun x30 =>
bnd (setItemV vnote (.str Qcu) (.bool x30)) fun w0 =>
bnd (c a__law_give [vnote]) fun x31 =>
J__law_deed_0 p c [(Qb,vnote),(Qao,vdeed),(Qg,vsign),(Qz,x1)]
else
bnd (look (cmpV .Eq vdeed (.str (Y "refer")))) fun x32 =>
(if x32 then
bnd (look (itemV vnote (.str Qy))) fun x33 =>
bnd (setItemV vnote (.str Qbe) x33) fun w0 =>
J__law_deed_0 p c [(Qb,vnote),(Qao,vdeed),(Qg,vsign),(Qz,x1)]
else
bnd (ret (V.lst [(.str (Y "lone")),(.str Qbt)])) fun x34 =>
bnd (look (cmpV .In vdeed x34)) fun x35 =>
(if x35 then
bnd (look (itemV vnote (.str Qau))) fun x36 =>
bnd (look (methK (P p) x36 Qbn)) fun x37 =>
if isRepl x37 then fail else bnd (look (itemV vnote (.str Qy))) fun x38 =>
bnd (look (cmpV .Eq x38 (.str Qae))) fun x39 =>
(if x39 then
bnd (compK (.str Qan) (fun x40=>bnd (ret (.ret (.tup [(.str Qcf),x40]))) unFl) (fun x40=>ret true) 200 0 []) fun x41 =>
bnd (methodV c x37 x36 [x41]) fun x42 =>
J__law_deed_0 p c [(Qb,vnote),(Qao,vdeed),(Qg,vsign),(Qz,x1)]
else
bnd (compK (.str Qbx) (fun x43=>bnd (ret (.ret (.tup [(.str Qcf),x43]))) unFl) (fun x43=>ret true) 200 0 []) fun x44 =>
bnd (methodV c x37 x36 [x44]) fun x45 =>
J__law_deed_0 p c [(Qb,vnote),(Qao,vdeed),(Qg,vsign),(Qz,x1)])
else
J__law_deed_0 p c [(Qb,vnote),(Qao,vdeed),(Qg,vsign),(Qz,x1)])))))))
theorem Uao(d:Nat)(vnote vdeed vsign:V):callK (P p) (d+1) a__law_deed [vnote,vdeed,vsign]=bnd (F__law_deed p (callK (P p) d) vnote vdeed vsign) unFl:=by kernel_rfl
def fd__law_go:Fn:=fnAt (K p) [] a__law_go
def sc__law_go:Scope:=(fd__law_go p).scope
def bo__law_go:List Stmt:=(fd__law_go p).body
def st__law_go_l0:Stmt:=(stAt (bo__law_go p) 1)
def st__law_go_l1:Stmt:=(stAt (inner (st__law_go_l0 p)) 2)
def J__law_go_0(fr:Fr):M Fl:=execK (P p) c (sc__law_go p) 58 fr ((bo__law_go p).drop 2) (fun fr=>ret (.next fr))
def J__law_go_1(fr:Fr):M Fl:=execK (P p) c (sc__law_go p) 54 fr ((inner (st__law_go_l0 p)).drop 3) (fun fr=>ret (.next fr))
def J__law_go_2(fr:Fr):M Fl:=execK (P p) c (sc__law_go p) 53 fr ((inner (st__law_go_l0 p)).drop 4) (fun fr=>ret (.next fr))
def J__law_go_3(fr:Fr):M Fl:=execK (P p) c (sc__law_go p) 50 fr ((inner (st__law_go_l0 p)).drop 7) (fun fr=>ret (.next fr))
def T__law_go_l0_0(vtable vnote vsign vplace vmark:V):M Fl :=
bnd (look (itemV vnote (.str Qy))) fun x3 =>
bnd (look (itemV vtable x3)) fun x4 =>
bnd (loopW (testL (P p) c (sc__law_go p) 53 (st__law_go_l1 p)) (turnL (P p) c (sc__law_go p) 53 (st__law_go_l1 p)) 5000 [(Qh,vtable),(Qb,vnote),(Qg,vsign),(Qr,vplace),(Qaa,vmark),(Qv,(.int 0)),(Qw,x4)]) (goOn (J__law_go_1 p c))
theorem Ueu(vtable vnote vsign vplace vmark:V):turnL (P p) c (sc__law_go p) 57 (st__law_go_l0 p) [(Qh,vtable),(Qb,vnote),(Qg,vsign),(Qr,vplace),(Qaa,vmark)]=T__law_go_l0_0 p c vtable vnote vsign vplace vmark:=by kernel_rfl
noncomputable def Q__law_go_l0_0(p:Params)(c:CC)(vtable vnote vsign vplace vmark:V):M Bool :=
bnd (bnd (look (itemV vnote (.str Qy))) fun x5 =>
bnd (look (cmpV .In x5 vtable)) fun x6 =>
(cond x6
(bnd (look (itemV vnote (.str Qt))) fun x7 =>
bnd (look (cmpV .Eq x7 vplace)) fun x8 =>
(cond x8
(ret (.ret (.bool true)))
(ret (.ret (.bool false)))))
(ret (.ret (.bool false))))) unB
theorem Ues(vtable vnote vsign vplace vmark:V):testL (P p) c (sc__law_go p) 57 (st__law_go_l0 p) [(Qh,vtable),(Qb,vnote),(Qg,vsign),(Qr,vplace),(Qaa,vmark)]=Q__law_go_l0_0 p c vtable vnote vsign vplace vmark:=by kernel_rfl
def T__law_go_l0_1(vtable vnote vsign vplace vmark vk vrows vgoal:V):M Fl :=
bnd (look (itemV vnote (.str Qy))) fun x9 =>
bnd (look (itemV vtable x9)) fun x10 =>
bnd (loopW (testL (P p) c (sc__law_go p) 53 (st__law_go_l1 p)) (turnL (P p) c (sc__law_go p) 53 (st__law_go_l1 p)) 5000 [(Qh,vtable),(Qb,vnote),(Qg,vsign),(Qr,vplace),(Qaa,vmark),(Qv,(.int 0)),(Qw,x10),(Qag,vgoal)]) (goOn (J__law_go_1 p c))
theorem Uem(vtable vnote vsign vplace vmark vk vrows vgoal:V):turnL (P p) c (sc__law_go p) 57 (st__law_go_l0 p) [(Qh,vtable),(Qb,vnote),(Qg,vsign),(Qr,vplace),(Qaa,vmark),(Qv,vk),(Qw,vrows),(Qag,vgoal)]=T__law_go_l0_1 p c vtable vnote vsign vplace vmark vk vrows vgoal:=by kernel_rfl
noncomputable def Q__law_go_l0_1(p:Params)(c:CC)(vtable vnote vsign vplace vmark vk vrows vgoal:V):M Bool :=
bnd (bnd (look (itemV vnote (.str Qy))) fun x11 =>
bnd (look (cmpV .In x11 vtable)) fun x12 =>
(cond x12
(bnd (look (itemV vnote (.str Qt))) fun x13 =>
bnd (look (cmpV .Eq x13 vplace)) fun x14 =>
(cond x14
(ret (.ret (.bool true)))
(ret (.ret (.bool false)))))
(ret (.ret (.bool false))))) unB
theorem Uej(vtable vnote vsign vplace vmark vk vrows vgoal:V):testL (P p) c (sc__law_go p) 57 (st__law_go_l0 p) [(Qh,vtable),(Qb,vnote),(Qg,vsign),(Qr,vplace),(Qaa,vmark),(Qv,vk),(Qw,vrows),(Qag,vgoal)]=Q__law_go_l0_1 p c vtable vnote vsign vplace vmark vk vrows vgoal:=by kernel_rfl
noncomputable def T__law_go_l1_0(p:Params)(c:CC)(vtable vnote vsign vplace vmark vk vrows:V):M Fl :=
bnd (look (binV .Add vk (.int 1))) fun x15 =>
ret (.next [(Qh,vtable),(Qb,vnote),(Qg,vsign),(Qr,vplace),(Qaa,vmark),(Qv,x15),(Qw,vrows)])
theorem Uel(vtable vnote vsign vplace vmark vk vrows:V):turnL (P p) c (sc__law_go p) 53 (st__law_go_l1 p) [(Qh,vtable),(Qb,vnote),(Qg,vsign),(Qr,vplace),(Qaa,vmark),(Qv,vk),(Qw,vrows)]=T__law_go_l1_0 p c vtable vnote vsign vplace vmark vk vrows:=by kernel_rfl
noncomputable def Q__law_go_l1_0(p:Params)(c:CC)(vtable vnote vsign vplace vmark vk vrows:V):M Bool :=
bnd (bnd (look (itemV vrows vk)) fun x16 =>
bnd (look (itemV x16 (.int 0))) fun x17 =>
bnd (look (cmpV .NotEq x17 (.str Qaz))) fun x18 =>
(cond x18
(bnd (look (itemV vrows vk)) fun x19 =>
bnd (look (itemV x19 (.int 0))) fun x20 =>
bnd (look (cmpV .NotIn vmark x20)) fun x21 =>
(cond x21
(ret (.ret (.bool true)))
(ret (.ret (.bool false)))))
(ret (.ret (.bool false))))) unB
theorem Ucb(vtable vnote vsign vplace vmark vk vrows:V):testL (P p) c (sc__law_go p) 53 (st__law_go_l1 p) [(Qh,vtable),(Qb,vnote),(Qg,vsign),(Qr,vplace),(Qaa,vmark),(Qv,vk),(Qw,vrows)]=Q__law_go_l1_0 p c vtable vnote vsign vplace vmark vk vrows:=by kernel_rfl
noncomputable def T__law_go_l1_1(p:Params)(c:CC)(vtable vnote vsign vplace vmark vk vrows vgoal:V):M Fl :=
bnd (look (binV .Add vk (.int 1))) fun x22 =>
ret (.next [(Qh,vtable),(Qb,vnote),(Qg,vsign),(Qr,vplace),(Qaa,vmark),(Qv,x22),(Qw,vrows),(Qag,vgoal)])
theorem Uew(vtable vnote vsign vplace vmark vk vrows vgoal:V):turnL (P p) c (sc__law_go p) 53 (st__law_go_l1 p) [(Qh,vtable),(Qb,vnote),(Qg,vsign),(Qr,vplace),(Qaa,vmark),(Qv,vk),(Qw,vrows),(Qag,vgoal)]=T__law_go_l1_1 p c vtable vnote vsign vplace vmark vk vrows vgoal:=by kernel_rfl
noncomputable def Q__law_go_l1_1(p:Params)(c:CC)(vtable vnote vsign vplace vmark vk vrows vgoal:V):M Bool :=
bnd (bnd (look (itemV vrows vk)) fun x23 =>
bnd (look (itemV x23 (.int 0))) fun x24 =>
bnd (look (cmpV .NotEq x24 (.str Qaz))) fun x25 =>
(cond x25
(bnd (look (itemV vrows vk)) fun x26 =>
bnd (look (itemV x26 (.int 0))) fun x27 =>
bnd (look (cmpV .NotIn vmark x27)) fun x28 =>
(cond x28
(ret (.ret (.bool true)))
(ret (.ret (.bool false)))))
(ret (.ret (.bool false))))) unB
theorem Ucd(vtable vnote vsign vplace vmark vk vrows vgoal:V):testL (P p) c (sc__law_go p) 53 (st__law_go_l1 p) [(Qh,vtable),(Qb,vnote),(Qg,vsign),(Qr,vplace),(Qaa,vmark),(Qv,vk),(Qw,vrows),(Qag,vgoal)]=Q__law_go_l1_1 p c vtable vnote vsign vplace vmark vk vrows vgoal:=by kernel_rfl
noncomputable def J__law_go_0_T0(p:Params)(c:CC)(vtable vnote vsign vplace vmark:V):M Fl :=
bnd (look (itemV vnote (.str Qy))) fun x29 =>
bnd (look (itemV vnote (.str Qt))) fun x30 =>
bnd (look (itemV vnote (.str Qau))) fun x31 =>
bnd (builtinV .list [x31]) fun x32 =>
bnd (look (itemV vnote (.str Qab))) fun x33 =>
bnd (builtinV .list [x33]) fun x34 =>
bnd (c a__law_token [vnote]) fun x35 =>
bnd (look (itemV vnote (.str Qi))) fun x36 =>
bnd (look (itemV vnote (.str Qbe))) fun x37 =>
ret (.ret (.tup [x29,x30,x32,x34,x35,x36,x37]))
theorem Uf6(vtable vnote vsign vplace vmark:V):J__law_go_0 p c [(Qh,vtable),(Qb,vnote),(Qg,vsign),(Qr,vplace),(Qaa,vmark)]=J__law_go_0_T0 p c vtable vnote vsign vplace vmark:=by kernel_rfl
noncomputable def J__law_go_0_T1(p:Params)(c:CC)(vtable vnote vsign vplace vmark vk vrows vgoal:V):M Fl :=
bnd (look (itemV vnote (.str Qy))) fun x38 =>
bnd (look (itemV vnote (.str Qt))) fun x39 =>
bnd (look (itemV vnote (.str Qau))) fun x40 =>
bnd (builtinV .list [x40]) fun x41 =>
bnd (look (itemV vnote (.str Qab))) fun x42 =>
bnd (builtinV .list [x42]) fun x43 =>
bnd (c a__law_token [vnote]) fun x44 =>
bnd (look (itemV vnote (.str Qi))) fun x45 =>
bnd (look (itemV vnote (.str Qbe))) fun x46 =>
ret (.ret (.tup [x38,x39,x41,x43,x44,x45,x46]))
theorem Uf7(vtable vnote vsign vplace vmark vk vrows vgoal:V):J__law_go_0 p c [(Qh,vtable),(Qb,vnote),(Qg,vsign),(Qr,vplace),(Qaa,vmark),(Qv,vk),(Qw,vrows),(Qag,vgoal)]=J__law_go_0_T1 p c vtable vnote vsign vplace vmark vk vrows vgoal:=by kernel_rfl
def J__law_go_1_T0(vtable vnote vsign vplace vmark vk vrows:V):M Fl :=
bnd (look (itemV vrows vk)) fun x47 =>
bnd (look (itemV x47 (.int 1))) fun x48 =>
bnd (look (cmpV .NotEq x48 (.str Qa))) fun x49 =>
(if x49 then
bnd (look (itemV vnote (.str Qab))) fun x50 =>
bnd (look (methK (P p) x50 Qx)) fun x51 =>
if isRepl x51 then fail else bnd (look (itemV vrows vk)) fun x52 =>
bnd (look (itemV x52 (.int 1))) fun x53 =>
bnd (methodV c x51 x50 [(.tup [x53,vplace])]) fun x54 =>
J__law_go_2 p c [(Qh,vtable),(Qb,vnote),(Qg,vsign),(Qr,vplace),(Qaa,vmark),(Qv,vk),(Qw,vrows)]
else
J__law_go_2 p c [(Qh,vtable),(Qb,vnote),(Qg,vsign),(Qr,vplace),(Qaa,vmark),(Qv,vk),(Qw,vrows)])
theorem Uc1(vtable vnote vsign vplace vmark vk vrows:V):J__law_go_1 p c [(Qh,vtable),(Qb,vnote),(Qg,vsign),(Qr,vplace),(Qaa,vmark),(Qv,vk),(Qw,vrows)]=J__law_go_1_T0 p c vtable vnote vsign vplace vmark vk vrows:=by kernel_rfl
def J__law_go_1_T1(vtable vnote vsign vplace vmark vk vrows vgoal:V):M Fl :=
bnd (look (itemV vrows vk)) fun x55 =>
bnd (look (itemV x55 (.int 1))) fun x56 =>
bnd (look (cmpV .NotEq x56 (.str Qa))) fun x57 =>
(if x57 then
bnd (look (itemV vnote (.str Qab))) fun x58 =>
bnd (look (methK (P p) x58 Qx)) fun x59 =>
if isRepl x59 then fail else bnd (look (itemV vrows vk)) fun x60 =>
bnd (look (itemV x60 (.int 1))) fun x61 =>
bnd (methodV c x59 x58 [(.tup [x61,vplace])]) fun x62 =>
J__law_go_2 p c [(Qh,vtable),(Qb,vnote),(Qg,vsign),(Qr,vplace),(Qaa,vmark),(Qv,vk),(Qw,vrows),(Qag,vgoal)]
else
J__law_go_2 p c [(Qh,vtable),(Qb,vnote),(Qg,vsign),(Qr,vplace),(Qaa,vmark),(Qv,vk),(Qw,vrows),(Qag,vgoal)])
theorem Uf4(vtable vnote vsign vplace vmark vk vrows vgoal:V):J__law_go_1 p c [(Qh,vtable),(Qb,vnote),(Qg,vsign),(Qr,vplace),(Qaa,vmark),(Qv,vk),(Qw,vrows),(Qag,vgoal)]=J__law_go_1_T1 p c vtable vnote vsign vplace vmark vk vrows vgoal:=by kernel_rfl
def J__law_go_2_T0(vtable vnote vsign vplace vmark vk vrows:V):M Fl :=
bnd (look (itemV vrows vk)) fun x63 =>
bnd (look (itemV x63 (.int 2))) fun x64 =>
bnd (c a__law_deed [vnote,x64,vsign]) fun x65 =>
bnd (look (itemV vrows vk)) fun x66 =>
bnd (look (itemV x66 (.int 3))) fun x67 =>
bnd (look (sliceV x67 none (some (.int 1)))) fun x68 =>
bnd (look (cmpV .NotEq x68 (.str Qck))) fun x69 =>
(if x69 then
bnd (look (binV .Add vplace (.int 1))) fun x70 =>
bnd (setItemV vnote (.str Qt) x70) fun w0 =>
J__law_go_3 p c [(Qh,vtable),(Qb,vnote),(Qg,vsign),(Qr,vplace),(Qaa,vmark),(Qv,vk),(Qw,vrows),(Qag,x67)]
else
J__law_go_3 p c [(Qh,vtable),(Qb,vnote),(Qg,vsign),(Qr,vplace),(Qaa,vmark),(Qv,vk),(Qw,vrows),(Qag,x67)])
theorem Uc0(vtable vnote vsign vplace vmark vk vrows:V):J__law_go_2 p c [(Qh,vtable),(Qb,vnote),(Qg,vsign),(Qr,vplace),(Qaa,vmark),(Qv,vk),(Qw,vrows)]=J__law_go_2_T0 p c vtable vnote vsign vplace vmark vk vrows:=by kernel_rfl
def J__law_go_2_T1(vtable vnote vsign vplace vmark vk vrows vgoal:V):M Fl :=
bnd (look (itemV vrows vk)) fun x71 =>
bnd (look (itemV x71 (.int 2))) fun x72 =>
bnd (c a__law_deed [vnote,x72,vsign]) fun x73 =>
bnd (look (itemV vrows vk)) fun x74 =>
bnd (look (itemV x74 (.int 3))) fun x75 =>
bnd (look (sliceV x75 none (some (.int 1)))) fun x76 =>
bnd (look (cmpV .NotEq x76 (.str Qck))) fun x77 =>
(if x77 then
bnd (look (binV .Add vplace (.int 1))) fun x78 =>
bnd (setItemV vnote (.str Qt) x78) fun w0 =>
J__law_go_3 p c [(Qh,vtable),(Qb,vnote),(Qg,vsign),(Qr,vplace),(Qaa,vmark),(Qv,vk),(Qw,vrows),(Qag,x75)]
else
J__law_go_3 p c [(Qh,vtable),(Qb,vnote),(Qg,vsign),(Qr,vplace),(Qaa,vmark),(Qv,vk),(Qw,vrows),(Qag,x75)])
theorem Ufy(vtable vnote vsign vplace vmark vk vrows vgoal:V):J__law_go_2 p c [(Qh,vtable),(Qb,vnote),(Qg,vsign),(Qr,vplace),(Qaa,vmark),(Qv,vk),(Qw,vrows),(Qag,vgoal)]=J__law_go_2_T1 p c vtable vnote vsign vplace vmark vk vrows vgoal:=by kernel_rfl
noncomputable def J__law_go_3_T0(p:Params)(c:CC)(vtable vnote vsign vplace vmark vk vrows vgoal:V):M Fl :=
bnd (look (cmpV .NotEq vgoal (.str Qa))) fun x79 =>
(if x79 then
bnd (look (itemV vgoal (.int 0))) fun x80 =>
bnd (look (cmpV .Eq x80 (.str Qck))) fun x81 =>
(if x81 then
bnd (look (sliceV vgoal (some (.int 1)) none)) fun x82 =>
bnd (setItemV vnote (.str Qy) x82) fun w0 =>
ret (.next [(Qh,vtable),(Qb,vnote),(Qg,vsign),(Qr,vplace),(Qaa,vmark),(Qv,vk),(Qw,vrows),(Qag,vgoal)])
else
bnd (setItemV vnote (.str Qy) vgoal) fun w0 =>
ret (.next [(Qh,vtable),(Qb,vnote),(Qg,vsign),(Qr,vplace),(Qaa,vmark),(Qv,vk),(Qw,vrows),(Qag,vgoal)]))
else
ret (.next [(Qh,vtable),(Qb,vnote),(Qg,vsign),(Qr,vplace),(Qaa,vmark),(Qv,vk),(Qw,vrows),(Qag,vgoal)]))
theorem Uf1(vtable vnote vsign vplace vmark vk vrows vgoal:V):J__law_go_3 p c [(Qh,vtable),(Qb,vnote),(Qg,vsign),(Qr,vplace),(Qaa,vmark),(Qv,vk),(Qw,vrows),(Qag,vgoal)]=J__law_go_3_T0 p c vtable vnote vsign vplace vmark vk vrows vgoal:=by kernel_rfl
def F__law_go(vtable vnote vsign:V):M Fl :=
bnd (look (itemV vnote (.str Qt))) fun x1 =>
bnd (c a__law_mark [vsign]) fun x2 =>
bnd (loopW (testL (P p) c (sc__law_go p) 57 (st__law_go_l0 p)) (turnL (P p) c (sc__law_go p) 57 (st__law_go_l0 p)) 5000 [(Qh,vtable),(Qb,vnote),(Qg,vsign),(Qr,x1),(Qaa,x2)]) (goOn (J__law_go_0 p c))
theorem Uo5(d:Nat)(vtable vnote vsign:V):callK (P p) (d+1) a__law_go [vtable,vnote,vsign]=bnd (F__law_go p (callK (P p) d) vtable vnote vsign) unFl:=by kernel_rfl
def fd__law_told:Fn:=fnAt (K p) [] a__law_told
def sc__law_told:Scope:=(fd__law_told p).scope
def bo__law_told:List Stmt:=(fd__law_told p).body
def J__law_told_0(fr:Fr):M Fl:=execK (P p) c (sc__law_told p) 59 fr ((bo__law_told p).drop 1) (fun fr=>ret (.next fr))
noncomputable def J__law_told_0_T0(p:Params)(c:CC)(vt vdraft:V):M Fl :=
bnd (attrV (P p) vt Qy) fun x8 =>
bnd (attrV (P p) vt Qt) fun x9 =>
bnd (attrV (P p) vt Qau) fun x10 =>
bnd (attrV (P p) vt Qab) fun x11 =>
bnd (attrV (P p) vt Qi) fun x12 =>
bnd (attrV (P p) vt Qbe) fun x13 =>
ret (.ret (.tup [x8,x9,x10,x11,vdraft,x12,x13]))
theorem Uet(vt vdraft:V):J__law_told_0 p c [(Qd,vt),(Qp,vdraft)]=J__law_told_0_T0 p c vt vdraft:=by kernel_rfl
def F__law_told(vt:V):M Fl :=
bnd (attrV (P p) vt Qp) fun x1 =>
bnd (look (cmpV .Is x1 .none)) fun x2 =>
(cond x2
(J__law_told_0 p c [(Qd,vt),(Qp,.none)])
(bnd (attrV (P p) vt Qce) fun x3 =>
(match isT x3 with
| some x4=>(cond x4
(J__law_told_0 p c [(Qd,vt),(Qp,.none)])
(bnd (attrV (P p) vt Qp) fun x5 =>
mc p c x5 Qal [] fun x7 =>
J__law_told_0 p c [(Qd,vt),(Qp,x7)]))
| none=>fail)))
theorem Ukr(d:Nat)(vt:V):callK (P p) (d+1) a__law_told [vt]=bnd (F__law_told p (callK (P p) d) vt) unFl:=by kernel_rfl
def fd_law:Fn:=fnAt (K p) [] a_law
def sc_law:Scope:=(fd_law p).scope
def bo_law:List Stmt:=(fd_law p).body
def st_law_l0:Stmt:=(stAt (bo_law p) 9)
def st_law_l1:Stmt:=(stAt (bo_law p) 13)
def st_law_l2:Stmt:=(stAt (inner (st_law_l1 p)) 2)
def J_law_0(fr:Fr):M Fl:=execK (P p) c (sc_law p) 50 fr ((bo_law p).drop 10) (fun fr=>ret (.next fr))
def J_law_1(fr:Fr):M Fl:=execK (P p) c (sc_law p) 46 fr ((bo_law p).drop 14) (fun fr=>ret (.next fr))
def J_law_2(fr:Fr):M Fl:=execK (P p) c (sc_law p) 42 fr ((inner (st_law_l1 p)).drop 3) (fun fr=>ret (.next fr))
def T_law_l0_0(vscript vfirst vtext vbegun vlast vtable vnote vsnaps vsign:V):M Fl :=
bnd (look (methK (P p) vsnaps Qx)) fun x34 =>
if isRepl x34 then fail else bnd (look (itemV vnote (.str Qy))) fun x35 =>
bnd (look (cmpV .In x35 vtable)) fun x36 =>
(if x36 then
bnd (c a__law_go [vtable,vnote,vsign]) fun x37 =>
bnd (methodV c x34 vsnaps [x37]) fun x38 =>
ret (.next [(Qj,vscript),(Qk,vfirst),(Qc,vtext),(Ql,vbegun),(Qi,vlast),(Qh,vtable),(Qb,vnote),(Qm,vsnaps),(Qg,vsign)])
else
bnd (look (itemV vsnaps (.int (-1)))) fun x39 =>
bnd (methodV c x34 vsnaps [x39]) fun x40 =>
ret (.next [(Qj,vscript),(Qk,vfirst),(Qc,vtext),(Ql,vbegun),(Qi,vlast),(Qh,vtable),(Qb,vnote),(Qm,vsnaps),(Qg,vsign)]))
theorem Uhx(vscript vfirst vtext vbegun vlast vtable vnote vsnaps vsign:V):turnL (P p) c (sc_law p) 49 (st_law_l0 p) [(Qj,vscript),(Qk,vfirst),(Qc,vtext),(Ql,vbegun),(Qi,vlast),(Qh,vtable),(Qb,vnote),(Qm,vsnaps),(Qg,vsign)]=T_law_l0_0 p c vscript vfirst vtext vbegun vlast vtable vnote vsnaps vsign:=by kernel_rfl
def J_law_0_T0(vscript vfirst vtext vbegun vlast vtable vnote vsnaps:V):M Fl :=
bnd (c a__law_go [vtable,vnote,(.str Qa)]) fun x41 =>
bnd (c a_tag_states []) fun x42 =>
bnd (look (methK (P p) x42 Qde)) fun x43 =>
if isRepl x43 then fail else bnd (c a_attr_states []) fun x44 =>
bnd (methodV c x43 x42 [x44]) fun x45 =>
bnd (ret (V.lst [vtext])) fun x46 =>
bnd (builtinV .list [vtext]) fun x47 =>
bnd (c a__law_pieces [vscript,vtext]) fun x48 =>
bnd (ret (V.lst [x46,x47,x48])) fun x49 =>
bnd (loopF x49 (setL (sc_law p) Qo) (turnL (P p) c (sc_law p) 45 (st_law_l1 p)) 5000 0 [(Qj,vscript),(Qk,vfirst),(Qc,vtext),(Ql,vbegun),(Qi,vlast),(Qh,vtable),(Qb,vnote),(Qm,vsnaps),(Qq,x41),(Qn,x42)]) (goOn (J_law_1 p c))
theorem Uk5(vscript vfirst vtext vbegun vlast vtable vnote vsnaps:V):J_law_0 p c [(Qj,vscript),(Qk,vfirst),(Qc,vtext),(Ql,vbegun),(Qi,vlast),(Qh,vtable),(Qb,vnote),(Qm,vsnaps)]=J_law_0_T0 p c vscript vfirst vtext vbegun vlast vtable vnote vsnaps:=by kernel_rfl
def J_law_0_T1(vscript vfirst vtext vbegun vlast vtable vnote vsnaps vsign:V):M Fl :=
bnd (c a__law_go [vtable,vnote,(.str Qa)]) fun x50 =>
bnd (c a_tag_states []) fun x51 =>
bnd (look (methK (P p) x51 Qde)) fun x52 =>
if isRepl x52 then fail else bnd (c a_attr_states []) fun x53 =>
bnd (methodV c x52 x51 [x53]) fun x54 =>
bnd (ret (V.lst [vtext])) fun x55 =>
bnd (builtinV .list [vtext]) fun x56 =>
bnd (c a__law_pieces [vscript,vtext]) fun x57 =>
bnd (ret (V.lst [x55,x56,x57])) fun x58 =>
bnd (loopF x58 (setL (sc_law p) Qo) (turnL (P p) c (sc_law p) 45 (st_law_l1 p)) 5000 0 [(Qj,vscript),(Qk,vfirst),(Qc,vtext),(Ql,vbegun),(Qi,vlast),(Qh,vtable),(Qb,vnote),(Qm,vsnaps),(Qg,vsign),(Qq,x50),(Qn,x51)]) (goOn (J_law_1 p c))
theorem Ukx(vscript vfirst vtext vbegun vlast vtable vnote vsnaps vsign:V):J_law_0 p c [(Qj,vscript),(Qk,vfirst),(Qc,vtext),(Ql,vbegun),(Qi,vlast),(Qh,vtable),(Qb,vnote),(Qm,vsnaps),(Qg,vsign)]=J_law_0_T1 p c vscript vfirst vtext vbegun vlast vtable vnote vsnaps vsign:=by kernel_rfl
def T_law_l1_0(vscript vfirst vtext vbegun vlast vtable vnote vsnaps vfinal vstates vpieces:V):M Fl :=
bnd (applyV (P p) c (.fn c_Tokenizer) [vstates,vbegun,vlast]) fun x59 =>
bnd (loopF vpieces (setL (sc_law p) Qs) (turnL (P p) c (sc_law p) 41 (st_law_l2 p)) 5000 0 [(Qj,vscript),(Qk,vfirst),(Qc,vtext),(Ql,vbegun),(Qi,vlast),(Qh,vtable),(Qb,vnote),(Qm,vsnaps),(Qq,vfinal),(Qn,vstates),(Qo,vpieces),(Qd,x59),(Qu,(.str Qa))]) (goOn (J_law_2 p c))
theorem Uhs(vscript vfirst vtext vbegun vlast vtable vnote vsnaps vfinal vstates vpieces:V):turnL (P p) c (sc_law p) 45 (st_law_l1 p) [(Qj,vscript),(Qk,vfirst),(Qc,vtext),(Ql,vbegun),(Qi,vlast),(Qh,vtable),(Qb,vnote),(Qm,vsnaps),(Qq,vfinal),(Qn,vstates),(Qo,vpieces)]=T_law_l1_0 p c vscript vfirst vtext vbegun vlast vtable vnote vsnaps vfinal vstates vpieces:=by kernel_rfl
def T_law_l1_1(vscript vfirst vtext vbegun vlast vtable vnote vsnaps vfinal vstates vpieces vt vso_far vpiece:V):M Fl :=
bnd (applyV (P p) c (.fn c_Tokenizer) [vstates,vbegun,vlast]) fun x60 =>
bnd (loopF vpieces (setL (sc_law p) Qs) (turnL (P p) c (sc_law p) 41 (st_law_l2 p)) 5000 0 [(Qj,vscript),(Qk,vfirst),(Qc,vtext),(Ql,vbegun),(Qi,vlast),(Qh,vtable),(Qb,vnote),(Qm,vsnaps),(Qq,vfinal),(Qn,vstates),(Qo,vpieces),(Qd,x60),(Qu,(.str Qa)),(Qs,vpiece)]) (goOn (J_law_2 p c))
theorem Uhg(vscript vfirst vtext vbegun vlast vtable vnote vsnaps vfinal vstates vpieces vt vso_far vpiece:V):turnL (P p) c (sc_law p) 45 (st_law_l1 p) [(Qj,vscript),(Qk,vfirst),(Qc,vtext),(Ql,vbegun),(Qi,vlast),(Qh,vtable),(Qb,vnote),(Qm,vsnaps),(Qq,vfinal),(Qn,vstates),(Qo,vpieces),(Qd,vt),(Qu,vso_far),(Qs,vpiece)]=T_law_l1_1 p c vscript vfirst vtext vbegun vlast vtable vnote vsnaps vfinal vstates vpieces vt vso_far vpiece:=by kernel_rfl
def T_law_l1_2(vscript vfirst vtext vbegun vlast vtable vnote vsnaps vsign vfinal vstates vpieces:V):M Fl :=
bnd (applyV (P p) c (.fn c_Tokenizer) [vstates,vbegun,vlast]) fun x61 =>
bnd (loopF vpieces (setL (sc_law p) Qs) (turnL (P p) c (sc_law p) 41 (st_law_l2 p)) 5000 0 [(Qj,vscript),(Qk,vfirst),(Qc,vtext),(Ql,vbegun),(Qi,vlast),(Qh,vtable),(Qb,vnote),(Qm,vsnaps),(Qg,vsign),(Qq,vfinal),(Qn,vstates),(Qo,vpieces),(Qd,x61),(Qu,(.str Qa))]) (goOn (J_law_2 p c))
theorem Uhj(vscript vfirst vtext vbegun vlast vtable vnote vsnaps vsign vfinal vstates vpieces:V):turnL (P p) c (sc_law p) 45 (st_law_l1 p) [(Qj,vscript),(Qk,vfirst),(Qc,vtext),(Ql,vbegun),(Qi,vlast),(Qh,vtable),(Qb,vnote),(Qm,vsnaps),(Qg,vsign),(Qq,vfinal),(Qn,vstates),(Qo,vpieces)]=T_law_l1_2 p c vscript vfirst vtext vbegun vlast vtable vnote vsnaps vsign vfinal vstates vpieces:=by kernel_rfl
def T_law_l1_3(vscript vfirst vtext vbegun vlast vtable vnote vsnaps vsign vfinal vstates vpieces vt vso_far vpiece:V):M Fl :=
bnd (applyV (P p) c (.fn c_Tokenizer) [vstates,vbegun,vlast]) fun x62 =>
bnd (loopF vpieces (setL (sc_law p) Qs) (turnL (P p) c (sc_law p) 41 (st_law_l2 p)) 5000 0 [(Qj,vscript),(Qk,vfirst),(Qc,vtext),(Ql,vbegun),(Qi,vlast),(Qh,vtable),(Qb,vnote),(Qm,vsnaps),(Qg,vsign),(Qq,vfinal),(Qn,vstates),(Qo,vpieces),(Qd,x62),(Qu,(.str Qa)),(Qs,vpiece)]) (goOn (J_law_2 p c))
theorem Uh6(vscript vfirst vtext vbegun vlast vtable vnote vsnaps vsign vfinal vstates vpieces vt vso_far vpiece:V):turnL (P p) c (sc_law p) 45 (st_law_l1 p) [(Qj,vscript),(Qk,vfirst),(Qc,vtext),(Ql,vbegun),(Qi,vlast),(Qh,vtable),(Qb,vnote),(Qm,vsnaps),(Qg,vsign),(Qq,vfinal),(Qn,vstates),(Qo,vpieces),(Qd,vt),(Qu,vso_far),(Qs,vpiece)]=T_law_l1_3 p c vscript vfirst vtext vbegun vlast vtable vnote vsnaps vsign vfinal vstates vpieces vt vso_far vpiece:=by kernel_rfl
def T_law_l2_0(vscript vfirst vtext vbegun vlast vtable vnote vsnaps vfinal vstates vpieces vt vso_far vpiece:V):M Fl :=
mc p c vt Qbz [vpiece] fun x64 =>
bnd (look (binV .Add vso_far vpiece)) fun x65 =>
mc p c vt Qcb [] fun x67 =>
(match isT x67 with
| some x68=>(cond x68
(ret (.ret (.bool false)))
(bnd (c a__law_told [vt]) fun x69 =>
bnd (c a__law_newlines [x65]) fun x70 =>
bnd (builtinV .len [x70]) fun x71 =>
bnd (look (itemV vsnaps x71)) fun x72 =>
bnd (look (cmpV .NotEq x69 x72)) fun x73 =>
(cond x73
(ret (.ret (.bool false)))
(ret (.next [(Qj,vscript),(Qk,vfirst),(Qc,vtext),(Ql,vbegun),(Qi,vlast),(Qh,vtable),(Qb,vnote),(Qm,vsnaps),(Qq,vfinal),(Qn,vstates),(Qo,vpieces),(Qd,vt),(Qu,x65),(Qs,vpiece)])))))
| none=>fail)
theorem Uhq(vscript vfirst vtext vbegun vlast vtable vnote vsnaps vfinal vstates vpieces vt vso_far vpiece:V):turnL (P p) c (sc_law p) 41 (st_law_l2 p) [(Qj,vscript),(Qk,vfirst),(Qc,vtext),(Ql,vbegun),(Qi,vlast),(Qh,vtable),(Qb,vnote),(Qm,vsnaps),(Qq,vfinal),(Qn,vstates),(Qo,vpieces),(Qd,vt),(Qu,vso_far),(Qs,vpiece)]=T_law_l2_0 p c vscript vfirst vtext vbegun vlast vtable vnote vsnaps vfinal vstates vpieces vt vso_far vpiece:=by kernel_rfl
def T_law_l2_1(vscript vfirst vtext vbegun vlast vtable vnote vsnaps vsign vfinal vstates vpieces vt vso_far vpiece:V):M Fl :=
mc p c vt Qbz [vpiece] fun x75 =>
bnd (look (binV .Add vso_far vpiece)) fun x76 =>
mc p c vt Qcb [] fun x78 =>
(match isT x78 with
| some x79=>(cond x79
(ret (.ret (.bool false)))
(bnd (c a__law_told [vt]) fun x80 =>
bnd (c a__law_newlines [x76]) fun x81 =>
bnd (builtinV .len [x81]) fun x82 =>
bnd (look (itemV vsnaps x82)) fun x83 =>
bnd (look (cmpV .NotEq x80 x83)) fun x84 =>
(cond x84
(ret (.ret (.bool false)))
(ret (.next [(Qj,vscript),(Qk,vfirst),(Qc,vtext),(Ql,vbegun),(Qi,vlast),(Qh,vtable),(Qb,vnote),(Qm,vsnaps),(Qg,vsign),(Qq,vfinal),(Qn,vstates),(Qo,vpieces),(Qd,vt),(Qu,x76),(Qs,vpiece)])))))
| none=>fail)
theorem Uhr(vscript vfirst vtext vbegun vlast vtable vnote vsnaps vsign vfinal vstates vpieces vt vso_far vpiece:V):turnL (P p) c (sc_law p) 41 (st_law_l2 p) [(Qj,vscript),(Qk,vfirst),(Qc,vtext),(Ql,vbegun),(Qi,vlast),(Qh,vtable),(Qb,vnote),(Qm,vsnaps),(Qg,vsign),(Qq,vfinal),(Qn,vstates),(Qo,vpieces),(Qd,vt),(Qu,vso_far),(Qs,vpiece)]=T_law_l2_1 p c vscript vfirst vtext vbegun vlast vtable vnote vsnaps vsign vfinal vstates vpieces vt vso_far vpiece:=by kernel_rfl
noncomputable def J_law_1_T2(p:Params)(c:CC)(vscript vfirst vtext vbegun vlast vtable vnote vsnaps vfinal vstates vpieces vt vso_far vpiece:V):M Fl :=
ret (.ret (.bool true))
theorem Uk0(vscript vfirst vtext vbegun vlast vtable vnote vsnaps vfinal vstates vpieces vt vso_far vpiece:V):J_law_1 p c [(Qj,vscript),(Qk,vfirst),(Qc,vtext),(Ql,vbegun),(Qi,vlast),(Qh,vtable),(Qb,vnote),(Qm,vsnaps),(Qq,vfinal),(Qn,vstates),(Qo,vpieces),(Qd,vt),(Qu,vso_far),(Qs,vpiece)]=J_law_1_T2 p c vscript vfirst vtext vbegun vlast vtable vnote vsnaps vfinal vstates vpieces vt vso_far vpiece:=by kernel_rfl
noncomputable def J_law_1_T4(p:Params)(c:CC)(vscript vfirst vtext vbegun vlast vtable vnote vsnaps vsign vfinal vstates vpieces vt vso_far vpiece:V):M Fl :=
ret (.ret (.bool true))
theorem Ukw(vscript vfirst vtext vbegun vlast vtable vnote vsnaps vsign vfinal vstates vpieces vt vso_far vpiece:V):J_law_1 p c [(Qj,vscript),(Qk,vfirst),(Qc,vtext),(Ql,vbegun),(Qi,vlast),(Qh,vtable),(Qb,vnote),(Qm,vsnaps),(Qg,vsign),(Qq,vfinal),(Qn,vstates),(Qo,vpieces),(Qd,vt),(Qu,vso_far),(Qs,vpiece)]=J_law_1_T4 p c vscript vfirst vtext vbegun vlast vtable vnote vsnaps vsign vfinal vstates vpieces vt vso_far vpiece:=by kernel_rfl
def J_law_2_T1(vscript vfirst vtext vbegun vlast vtable vnote vsnaps vfinal vstates vpieces vt vso_far vpiece:V):M Fl :=
mc p c vt Qar [] fun x98 =>
mc p c vt Qcb [] fun x100 =>
bnd (look (itemV vnote (.str Qbo))) fun x101 =>
bnd (look (cmpV .NotEq x100 x101)) fun x102 =>
(cond x102
(ret (.ret (.bool false)))
(bnd (c a__law_told [vt]) fun x103 =>
bnd (look (cmpV .NotEq x103 vfinal)) fun x104 =>
(cond x104
(ret (.ret (.bool false)))
(bnd (attrV (P p) vt Qbj) fun x105 =>
bnd (attrV (P p) x105 Qab) fun x106 =>
bnd (ret (V.lst [])) fun x107 =>
bnd (look (cmpV .NotEq x106 x107)) fun x108 =>
(cond x108
(ret (.ret (.bool false)))
(ret (.next [(Qj,vscript),(Qk,vfirst),(Qc,vtext),(Ql,vbegun),(Qi,vlast),(Qh,vtable),(Qb,vnote),(Qm,vsnaps),(Qq,vfinal),(Qn,vstates),(Qo,vpieces),(Qd,vt),(Qu,vso_far),(Qs,vpiece)])))))))
theorem Ukp(vscript vfirst vtext vbegun vlast vtable vnote vsnaps vfinal vstates vpieces vt vso_far vpiece:V):J_law_2 p c [(Qj,vscript),(Qk,vfirst),(Qc,vtext),(Ql,vbegun),(Qi,vlast),(Qh,vtable),(Qb,vnote),(Qm,vsnaps),(Qq,vfinal),(Qn,vstates),(Qo,vpieces),(Qd,vt),(Qu,vso_far),(Qs,vpiece)]=J_law_2_T1 p c vscript vfirst vtext vbegun vlast vtable vnote vsnaps vfinal vstates vpieces vt vso_far vpiece:=by kernel_rfl
def J_law_2_T2(vscript vfirst vtext vbegun vlast vtable vnote vsnaps vsign vfinal vstates vpieces vt vso_far vpiece:V):M Fl :=
mc p c vt Qar [] fun x110 =>
mc p c vt Qcb [] fun x112 =>
bnd (look (itemV vnote (.str Qbo))) fun x113 =>
bnd (look (cmpV .NotEq x112 x113)) fun x114 =>
(cond x114
(ret (.ret (.bool false)))
(bnd (c a__law_told [vt]) fun x115 =>
bnd (look (cmpV .NotEq x115 vfinal)) fun x116 =>
(cond x116
(ret (.ret (.bool false)))
(bnd (attrV (P p) vt Qbj) fun x117 =>
bnd (attrV (P p) x117 Qab) fun x118 =>
bnd (ret (V.lst [])) fun x119 =>
bnd (look (cmpV .NotEq x118 x119)) fun x120 =>
(cond x120
(ret (.ret (.bool false)))
(ret (.next [(Qj,vscript),(Qk,vfirst),(Qc,vtext),(Ql,vbegun),(Qi,vlast),(Qh,vtable),(Qb,vnote),(Qm,vsnaps),(Qg,vsign),(Qq,vfinal),(Qn,vstates),(Qo,vpieces),(Qd,vt),(Qu,vso_far),(Qs,vpiece)])))))))
theorem Uks(vscript vfirst vtext vbegun vlast vtable vnote vsnaps vsign vfinal vstates vpieces vt vso_far vpiece:V):J_law_2 p c [(Qj,vscript),(Qk,vfirst),(Qc,vtext),(Ql,vbegun),(Qi,vlast),(Qh,vtable),(Qb,vnote),(Qm,vsnaps),(Qg,vsign),(Qq,vfinal),(Qn,vstates),(Qo,vpieces),(Qd,vt),(Qu,vso_far),(Qs,vpiece)]=J_law_2_T2 p c vscript vfirst vtext vbegun vlast vtable vnote vsnaps vsign vfinal vstates vpieces vt vso_far vpiece:=by kernel_rfl
def F_law(vscript:V):M Fl :=
bnd (c a__law_number [vscript,(.int 0)]) fun x1 =>
bnd (c a__law_text [vscript]) fun x2 =>
bnd (ret (V.lst [(.int 16),(.int 0),(.int 16),(.int 1),(.int 16),(.int 2)])) fun x3 =>
bnd (look (binV .FloorDiv x1 (.int 6))) fun x4 =>
bnd (look (binV .Mod x4 (.int 6))) fun x5 =>
bnd (look (itemV x3 x5)) fun x6 =>
bnd (look (sliceV x2 none (some x6))) fun x7 =>
bnd (ret (V.lst [(.str Qae),(.str Qbg)])) fun x8 =>
bnd (look (binV .Mod x1 (.int 2))) fun x9 =>
bnd (look (itemV x8 x9)) fun x10 =>
bnd (ret (V.lst [(.str Qa),(.str Qbh),(.str (Y "ab"))])) fun x11 =>
bnd (look (binV .FloorDiv x1 (.int 2))) fun x12 =>
bnd (look (binV .Mod x12 (.int 3))) fun x13 =>
bnd (look (itemV x11 x13)) fun x14 =>
bnd (c a__law_tags []) fun x15 =>
bnd (look (methK (P p) x15 Qde)) fun x16 =>
if isRepl x16 then fail else bnd (c a__law_names []) fun x17 =>
bnd (methodV c x16 x15 [x17]) fun x18 =>
bnd (look (methK (P p) x15 Qde)) fun x19 =>
if isRepl x19 then fail else bnd (c a__law_values []) fun x20 =>
bnd (methodV c x19 x15 [x20]) fun x21 =>
bnd (newL 17 []) fun x22 =>
bnd (newL 18 []) fun x23 =>
bnd (newL 15 []) fun x24 =>
bnd (newL 19 []) fun x25 =>
bnd (newD 16 [(Qy,x10),(Qt,(.int 0)),(Qau,x22),(Qab,x23),(Qah,(.str Qa)),(Qz,x24),(Qdd,x25),(Qcu,(.bool false))]) fun x26 =>
bnd (look (methK (P p) x26 Qde)) fun x27 =>
if isRepl x27 then fail else bnd (newD 14 [(Qi,x14),(Qbe,(.str Qaw)),(Qbo,(.bool false))]) fun x28 =>
bnd (methodV c x27 x26 [x28]) fun x29 =>
bnd (ret (V.lst [])) fun x30 =>
bnd (ret (V.lst [])) fun x31 =>
bnd (newL 20 [(.tup [x10,(.int 0),x30,x31,.none,x14,(.str Qaw)])]) fun x32 =>
bnd (c a__law_newlines [x7]) fun x33 =>
bnd (loopF x33 (setL (sc_law p) Qg) (turnL (P p) c (sc_law p) 49 (st_law_l0 p)) 5000 0 [(Qj,vscript),(Qk,x1),(Qc,x7),(Ql,x10),(Qi,x14),(Qh,x15),(Qb,x26),(Qm,x32)]) (goOn (J_law_0 p c))
theorem B_law(d:Nat)(vscript:V):callK (P p) (d+1) a_law [vscript]=bnd (F_law p (callK (P p) d) vscript) unFl:=by kernel_rfl
end
noncomputable def Run{α:Type}(m:M α)(O:Store)(Q:α->Store->Prop):Prop:=∃ a O',m O=some (a,O')/\Q a O'
noncomputable def RF(m:M Fl)(O:Store)(Q:V->Store->Prop):Prop:=Run (bnd m unFl) O Q
section
variable {α β:Type}{O O' O₁:Store}
theorem bnd_of{m:M α}{k:α->M β}{a:α}(h:m O=some (a,O₁)):bnd m k O=k a O₁:=by delta bnd;rw [h]
theorem b_of{m:M α}{k:α->M β}{a:α}{r:Option (β×Store)}(h:m O=some (a,O₁))(g:k a O₁=r):bnd m k O=r:=(bnd_of h).trans g
theorem ba_of{γ:Type}{m:M γ}{j:γ->M α}{k:α->M β}{a:γ}{r:Option (β×Store)}(h:m O=some (a,O₁))(g:bnd (j a) k O₁=r):bnd (bnd m j) k O=r:=by rw [Uam];exact b_of h g
theorem Run.b{m:M α}{k:α->M β}{a:α}{Q:β->Store->Prop}(h:m O=some (a,O₁))(g:Run (k a) O₁ Q):Run (bnd m k) O Q:=xEEAA g fun b s e q=>⟨b,s,(bnd_of h).trans e,q⟩
theorem Run.c{m:M α}{k:α->M β}{Q1:α->Store->Prop}{Q:β->Store->Prop}(h:Run m O Q1)(g:∀ a O',Q1 a O'->Run (k a) O' Q):Run (bnd m k) O Q:=xEEAA h fun a s e q=>Run.b e (g a s q)
theorem Run.r{a:α}{Q:α->Store->Prop}(h:Q a O):Run (ret a) O Q:=⟨a,O,rfl,h⟩
theorem Run.mono{m:M α}{Q Q':α->Store->Prop}(h:Run m O Q)(g:∀ a s,Q a s->Q' a s):Run m O Q':=by refine xEEAA h fun a s e q=>?_;exact ⟨a,s,e,g a s q⟩
theorem RF.b{m:M α}{k:α->M Fl}{a:α}{Q:V->Store->Prop}(h:m O=some (a,O₁))(g:RF (k a) O₁ Q):RF (bnd m k) O Q:=by
 delta RF at *;rw [Uam];exact Run.b h g
theorem RF.c{m:M α}{k:α->M Fl}{Q1:α->Store->Prop}{Q:V->Store->Prop}(h:Run m O Q1)(g:∀ a O',Q1 a O'->RF (k a) O' Q):RF (bnd m k) O Q:=by
 refine xEEAA h fun a s e q=>?_;exact RF.b e (g a s q)
theorem RF.r{v:V}{Q:V->Store->Prop}(h:Q v O):RF (ret (.ret v)) O Q:=⟨v,O,rfl,h⟩
theorem RF.n{fr:Fr}{Q:V->Store->Prop}(h:Q .none O):RF (ret (.next fr)) O Q:=⟨.none,O,rfl,h⟩
theorem RF.b1{a:α}{k:α->M Fl}{Q:V->Store->Prop}(g:RF (k a) O Q):RF (bnd (ret a) k) O Q:=RF.b rfl g
theorem RF.l{f:Store->Option α}{k:α->M Fl}{a:α}{Q:V->Store->Prop}(h:f O=some a)(g:RF (k a) O Q):RF (bnd (look f) k) O Q:=RF.b (by delta look;rw [h]) g
theorem RF.pos{c:Prop}[Decidable c]{a b:M Fl}{Q:V->Store->Prop}(h:c)(g:RF a O Q):RF (if c then a else b) O Q:=by rw [if_pos h];exact g
theorem RF.neg{c:Prop}[Decidable c]{a b:M Fl}{Q:V->Store->Prop}(h:¬ c)(g:RF b O Q):RF (if c then a else b) O Q:=by rw [if_neg h];exact g
theorem RF.mono{m:M Fl}{Q Q':V->Store->Prop}(h:RF m O Q)(g:∀ a s,Q a s->Q' a s):RF m O Q':=Run.mono h g
theorem ob_of{x:Option α}{f:α->β}{z:β}{a:α}(h:x=some a):ob x f z=f a:=by rw [h]
theorem ob_no{x:Option α}{f:α->β}{z:β}(h:x=none):ob x f z=z:=by rw [h]
noncomputable def clsHas(c:Addr)(x:Str):Bool:=ob (lkN c clsL) (fun k=>k.attrs.contains x) false
theorem Upa{c:Addr}{x:Str}{P:Prop}(h:clsHas c x=true)(k:∀ k,lkN c clsL=some k->k.attrs.contains x=true->P):P:=by
 delta clsHas at h;cases q:lkN c clsL with
 | none=>rw [q] at h;cases h
 | some a=>rw [q] at h;exact k a q h
theorem Ufh{r i:Nat}{o:Ob}(h:O.get r i=some o):objO O (.ref r i)=some (r,i,o):=ob_of h
theorem Umo{p:Params}{r i:Nat}{c:Addr}{es:List (Str×V)}{k:Cls}(h:O.get r i=some (.inst c es))(hk:lkN c clsL=some k):instO (P p) O (.ref r i)=some (r,i,c,es,k) :=
 (ob_of (Ufh h)).trans (ob_of (f:=fun k=>some (r,i,c,es,k)) (z:=none) hk)
theorem Uat{p:Params}{r i:Nat}{c:Addr}{es:List (Str×V)}{x:Str}{v:V}(h:O.get r i=some (.inst c es))(hx:clsHas c x=true)(hv:lk x es=some v):attrV (P p) (.ref r i) x O=some (v,O):=Upa hx fun k hk ha=>by
 have e:attrO (P p) (.ref r i) x O=some v:=(ob_of (Umo h hk)).trans ((if_pos ha).trans hv);delta attrV look;rw [e]
theorem Uaj{p:Params}{r i:Nat}{c:Addr}{es es':List (Str×V)}{x:Str}{v:V}(h:O.get r i=some (.inst c es))(hx:clsHas c x=true)(hl:es.length < 100)(hv:setK x v es=es') :
  setAttrV (P p) (.ref r i) x v O=some ((),O.put r i (.inst c es')):=Upa hx fun k hk ha=>hv▸(ob_of (Umo h hk)).trans (if_pos (Bool.and_eq_true_iff.mpr ⟨ha,decide_eq_true hl⟩))
noncomputable def clsMeth(c:Addr)(x:Str):Option Addr:=ob (lkN c clsL) (fun k=>lk x k.meths) none
theorem Ufi{r i:Nat}{vs:List V}(h:O.get r i=some (.list vs)):lref O (.ref r i)=some (r,i,vs):=ob_of (Ufh h)
theorem Uf8{r i:Nat}{vs:List (Str×V)}(h:O.get r i=some (.dict vs)):dref O (.ref r i)=some (r,i,vs):=ob_of (Ufh h)
theorem asl_of{r i:Nat}{vs:List V}(h:O.get r i=some (.list vs)):asList O (.ref r i)=some vs:=ob_of (f:=fun z:Nat×Nat×List V=>some z.2.2) (z:=none) (Ufi h)
theorem Uar{p:Params}{r i:Nat}{c f:Addr}{es:List (Str×V)}{x:Str}(h:O.get r i=some (.inst c es))(hx:clsMeth c x=some f)(hn:lk x es=none):methK (P p) (.ref r i) x O=some (.fn f):=obS hx fun k hk hf =>
 (ob_no (ob_of (Ufh h))).trans ((ob_no (ob_of (Ufh h))).trans ((ob_of (Umo h hk)).trans ((ob_of hf).trans (ob_no hn))))
theorem Ujo{p:Params}{r i:Nat}{vs:List V}{x:Str}(h:O.get r i=some (.list vs)):methK (P p) (.ref r i) x O=(listM x).map .bi:=ob_of (f:=fun w0=>(listM x).map MK.bi) (Ufi h)
theorem Uny{p:Params}{r i:Nat}{es:List (Str×V)}{x:Str}(h:O.get r i=some (.dict es)):methK (P p) (.ref r i) x O=(dictM x).map .bi :=
 (ob_no (ob_of (Ufh h))).trans (ob_of (f:=fun w0=>(dictM x).map MK.bi) (Uf8 h))
theorem RF.m{p:Params}{c:CC}{r i:Nat}{C f:Addr}{es:List (Str×V)}{x:Str}{k:MK->M Fl}{Q:V->Store->Prop}(h:O.get r i=some (.inst C es))(hx:clsMeth C x=some f)(hn:lk x es=none)
  (g:RF (k (.fn f)) O Q):RF (bnd (look (methK (P p) (.ref r i) x)) fun m=>if isRepl m then fail else k m) O Q :=
 RF.l (Uar h hx hn) (RF.neg (by delta isRepl;exact Bool.false_ne_true) g)
theorem RF.ml{p:Params}{r i:Nat}{vs:List V}{x:Str}{id:Mi}{k:MK->M Fl}{Q:V->Store->Prop}(h:O.get r i=some (.list vs))(hx:listM x=some id)(hr:isRepl (.bi id)=false)
  (g:RF (k (.bi id)) O Q):RF (bnd (look (methK (P p) (.ref r i) x)) fun m=>if isRepl m then fail else k m) O Q :=
 RF.l ((Ujo h).trans (by rw [hx];rfl)) (RF.neg (by rw [hr];decide) g)
theorem RF.md{p:Params}{r i:Nat}{es:List (Str×V)}{x:Str}{id:Mi}{k:MK->M Fl}{Q:V->Store->Prop}(h:O.get r i=some (.dict es))(hx:dictM x=some id)(hr:isRepl (.bi id)=false)
  (g:RF (k (.bi id)) O Q):RF (bnd (look (methK (P p) (.ref r i) x)) fun m=>if isRepl m then fail else k m) O Q :=
 RF.l ((Uny h).trans (by rw [hx];rfl)) (RF.neg (by rw [hr];decide) g)
theorem RF.ms{p:Params}{s x:Str}{id:Mi}{k:MK->M Fl}{Q:V->Store->Prop}(hx:strM x=some id)(hr:isRepl (.bi id)=false)
  (g:RF (k (.bi id)) O Q):RF (bnd (look (methK (P p) (.str s) x)) fun m=>if isRepl m then fail else k m) O Q :=
 RF.l (a:=.bi id) (show (strM x).map MK.bi=_ by rw [hx];rfl) (RF.neg (by rw [hr];decide) g)
theorem bi_of{n:Bi}{args:List V}{v:V}(h:bV n O args=some v):builtinV n args O=some (v,O):=by delta builtinV look;dsimp only;rw [h]
theorem Uag{c:CC}{r i:Nat}{vs:List V}{v:V}(h:O.get r i=some (.list vs))(hl:vs.length < lim):methodV c (.bi .append) (.ref r i) [v] O=some (.none,O.put r i (.list (vs++[v]))):=by
 show ob (lref O (.ref r i)) _ _=_;exact (ob_of (Ufi h)).trans (if_pos hl)
theorem Uah{r i:Nat}{o:Ob}:(O.put r i o).length=O.length:=by delta Store.put;rw [List.length_modify]
theorem Uau{r:Nat}{o:Ob}:(O.add r o).length=O.length:=by delta Store.add;rw [List.length_modify]
theorem reg_of{r:Nat}(h:O.length=24)(hr:r < 24):∃ l,O[r]?=some l:=⟨O[r]'(Nat.lt_of_lt_of_eq hr (id (Eq.symm h))),List.getElem?_eq_getElem _⟩
theorem Uae{r i:Nat}{o o':Ob}(h:O.get r i=some o'):(O.put r i o).get r i=some o:=by rw [Store.get_put h];simp
theorem Uaf{r i r' i':Nat}{o o':Ob}(h:O.get r i=some o')(hr:r'≠r):(O.put r i o).get r' i'=O.get r' i':=by rw [Store.get_put h];simp [hr]
theorem Ua1{r:Nat}{l:List Ob}{o:Ob}(h:O[r]?=some l):(O.add r o).get r l.length=some o:=by rw [Store.get_add h];simp
set_option tactic.hygienic true in
theorem Ubg{r r' i':Nat}{l:List Ob}{o o':Ob}(h:O[r]?=some l)(e:O.get r' i'=some o'):(O.add r o).get r' i'=some o':=by
 rw [Store.get_add h];split
 ·rename_i q;refine xAA q fun qz1 qz2=>?_;subst qz1;subst qz2;rw [Store.get_end h] at e;cases e
 ·exact e
theorem Ua9{r i r':Nat}{o:Ob}(hr:r'≠r):(O.put r i o)[r']?=O[r']?:=by
 delta Store.put;rw [List.getElem?_modify];simp only [if_neg (fun e:r=r'=>hr e.symm)];cases O[r']? <;> rfl
theorem Uca{r r':Nat}{o:Ob}(hr:r'≠r):(O.add r o)[r']?=O[r']?:=by
 delta Store.add;rw [List.getElem?_modify];simp only [if_neg (fun e:r=r'=>hr e.symm)];cases O[r']? <;> rfl
noncomputable def tokR(r:Nat):Bool:=r==0||r==1||r==2||(4<=r&&r<=10)
noncomputable def Fx(O O':Store):Prop:=∀ r,tokR r=false->O'[r]?=O[r]?
theorem Fx.rfl:Fx O O:=fun w0 w0=>Eq.refl _
theorem Fx.trans{a b c:Store}(x:Fx a b)(y:Fx b c):Fx a c:=fun r h=>(y r h).trans (x r h)
theorem Fx.put{r i:Nat}{o:Ob}(h:tokR r=true):Fx O (O.put r i o):=fun r' h'=>Ua9 fun e=>by subst e;rw [h] at h';cases h'
theorem Fx.add{r:Nat}{o:Ob}(h:tokR r=true):Fx O (O.add r o):=fun r' h'=>Uca fun e=>by subst e;rw [h] at h';cases h'
theorem Fx.get{r i:Nat}(x:Fx O O')(h:tokR r=false):O'.get r i=O.get r i:=by delta Store.get;rw [x r h]
end
structure At where
 i:Nat
 n:Str
 v:Str
 k:Bool
structure Dr where
 i:Nat
 kind:Str
 name:Str
 closing:Bool
 al:Nat
 attrs:List At
structure TS where
 pos:Int
 state:Str
 back:Str
 last:Str
 out:List V
 errs:List V
 draft:Option Dr
 waiting:Bool
 done:Bool
 signs:List Str
 closed:Bool
 isret:Bool
 serr:List V
structure Rf where
 i:Nat
 s:Nat
 o:Nat
 e:Nat
 sg:Nat
 se:Nat
 sd:Nat
noncomputable def drV:Option Dr->V
 | some d=>.ref 0 d.i
 | none=>.none
noncomputable def tokEs(U:Rf)(t:TS):List (Str×V):=[(Qn,.ref 3 U.sd),(Qbj,.ref 1 U.s),(Qt,.int t.pos),(Qy,.str t.state),(Qbe,.str t.back),(Qau,.ref 9 U.o),(Qab,.ref 10 U.e),(Qp,drV t.draft),(Y "buffer",.str Qa),(Qaf,.int 0),(Qi,.str t.last),(Y "is_foreign",.bool false),(Qbq,.bool t.waiting),(Qce,.bool t.done)]
noncomputable def drEs(d:Dr):List (Str×V):=[(Qah,.str d.kind),(Qay,.str d.name),(Qc,.str Qa),(Qdk,.none),(Qdl,.none),(Qdm,.bool false),(Qbm,.bool d.closing),(Qbb,.ref 4 d.al)]
noncomputable def strEs(U:Rf)(t:TS):List (Str×V):=[(Qaq,.ref 7 U.sg),(Qbi,.bool t.closed),(Qbf,.bool t.isret),(Qab,.ref 8 U.se)]
noncomputable def stEs:List (Str×V):=[(Qae,.fn a_tag_open_state),(Qbg,.fn a_end_tag_open_state),(Qad,.fn a_tag_name_state),(Qbc,.fn a_self_closing_state),(Qav,.fn a_before_attr_name_state),(Qac,.fn a_attr_name_state),(Qbk,.fn a_after_attr_name_state),(Qbu,.fn a_before_attr_value_state),(Qcq,.fn a_double_quoted_state),(Qcr,.fn a_single_quoted_state),(Qcy,.fn a_unquoted_state),(Qch,.fn a_after_quoted_state)]
structure DR(O:Store)(d:Dr):Prop where
 obj:O.get 0 d.i=some (.inst c_Draft (drEs d))
 al:O.get 4 d.al=some (.list (d.attrs.map fun a=>.ref 5 a.i))
 each:∀ a ∈ d.attrs,O.get 5 a.i=some (.list [.str a.n,.str a.v,.bool a.k])
 nd:(d.attrs.map (·.i)).Nodup
structure TR(O:Store)(U:Rf)(t:TS):Prop where
 len:O.length=24
 tok:O.get 2 U.i=some (.inst c_Tokenizer (tokEs U t))
 str:O.get 1 U.s=some (.inst c_Stream (strEs U t))
 sg:O.get 7 U.sg=some (.list (t.signs.map .str))
 se:O.get 8 U.se=some (.list t.serr)
 out:O.get 9 U.o=some (.list t.out)
 err:O.get 10 U.e=some (.list t.errs)
 sd:O.get 3 U.sd=some (.dict stEs)
 dr:∀ d,t.draft=some d->DR O d
section
variable {p:Params}{O:Store}{U:Rf}{t:TS}{d:Dr}
theorem Ug7(h:TR O U t):attrV (P p) (.ref 2 U.i) Qn O=some (.ref 3 U.sd,O):=Uat h.tok (by kernel_rfl) (by kernel_rfl)
theorem Ub5(h:TR O U t):attrV (P p) (.ref 2 U.i) Qbj O=some (.ref 1 U.s,O):=Uat h.tok (by kernel_rfl) (by kernel_rfl)
theorem ga_at(h:TR O U t):attrV (P p) (.ref 2 U.i) Qt O=some (.int t.pos,O):=Uat h.tok (by kernel_rfl) (by kernel_rfl)
theorem Ufe(h:TR O U t):attrV (P p) (.ref 2 U.i) Qy O=some (.str t.state,O):=Uat h.tok (by kernel_rfl) (by kernel_rfl)
theorem Utp(h:TR O U t):attrV (P p) (.ref 2 U.i) Qbe O=some (.str t.back,O):=Uat h.tok (by kernel_rfl) (by kernel_rfl)
theorem ga_out(h:TR O U t):attrV (P p) (.ref 2 U.i) Qau O=some (.ref 9 U.o,O):=Uat h.tok (by kernel_rfl) (by kernel_rfl)
theorem Ukl(h:TR O U t):attrV (P p) (.ref 2 U.i) Qab O=some (.ref 10 U.e,O):=Uat h.tok (by kernel_rfl) (by kernel_rfl)
theorem Ubk(h:TR O U t):attrV (P p) (.ref 2 U.i) Qp O=some (drV t.draft,O):=Uat h.tok (by kernel_rfl) (by kernel_rfl)
theorem Utu(h:TR O U t):attrV (P p) (.ref 2 U.i) Qi O=some (.str t.last,O):=Uat h.tok (by kernel_rfl) (by kernel_rfl)
theorem Uef(h:TR O U t):attrV (P p) (.ref 2 U.i) Qbq O=some (.bool t.waiting,O):=Uat h.tok (by kernel_rfl) (by kernel_rfl)
theorem Ufq(h:TR O U t):attrV (P p) (.ref 2 U.i) Qce O=some (.bool t.done,O):=Uat h.tok (by kernel_rfl) (by kernel_rfl)
theorem Uea(h:TR O U t):attrV (P p) (.ref 1 U.s) Qaq O=some (.ref 7 U.sg,O):=Uat h.str (by kernel_rfl) (by kernel_rfl)
theorem Ue4(h:TR O U t):attrV (P p) (.ref 1 U.s) Qbi O=some (.bool t.closed,O):=Uat h.str (by kernel_rfl) (by kernel_rfl)
theorem Ufm(h:TR O U t):attrV (P p) (.ref 1 U.s) Qbf O=some (.bool t.isret,O):=Uat h.str (by kernel_rfl) (by kernel_rfl)
theorem Un6(h:TR O U t):attrV (P p) (.ref 1 U.s) Qab O=some (.ref 8 U.se,O):=Uat h.str (by kernel_rfl) (by kernel_rfl)
theorem Ujv(h:DR O d):attrV (P p) (.ref 0 d.i) Qah O=some (.str d.kind,O):=Uat h.obj (by kernel_rfl) (by kernel_rfl)
theorem Upz(h:DR O d):attrV (P p) (.ref 0 d.i) Qay O=some (.str d.name,O):=Uat h.obj (by kernel_rfl) (by kernel_rfl)
theorem Utx(h:DR O d):attrV (P p) (.ref 0 d.i) Qc O=some (.str Qa,O):=Uat h.obj (by kernel_rfl) (by kernel_rfl)
theorem Ueg(h:DR O d):attrV (P p) (.ref 0 d.i) Qbm O=some (.bool d.closing,O):=Uat h.obj (by kernel_rfl) (by kernel_rfl)
theorem Ub3(h:DR O d):attrV (P p) (.ref 0 d.i) Qbb O=some (.ref 4 d.al,O):=Uat h.obj (by kernel_rfl) (by kernel_rfl)
theorem Ut5(h:TR O U t):methK (P p) (.ref 2 U.i) Qbz O=some (.fn a_Tokenizer_feed):=Uar h.tok (by kernel_rfl) (by kernel_rfl)
theorem mt_end(h:TR O U t):methK (P p) (.ref 2 U.i) Qar O=some (.fn a_Tokenizer_end):=Uar h.tok (by kernel_rfl) (by kernel_rfl)
theorem Utg(h:TR O U t):methK (P p) (.ref 2 U.i) Qbd O=some (.fn a_Tokenizer_next):=Uar h.tok (by kernel_rfl) (by kernel_rfl)
theorem mt_to(h:TR O U t):methK (P p) (.ref 2 U.i) Qam O=some (.fn a_Tokenizer_to):=Uar h.tok (by kernel_rfl) (by kernel_rfl)
theorem Uru(h:TR O U t):methK (P p) (.ref 2 U.i) Qax O=some (.fn a_Tokenizer_again):=Uar h.tok (by kernel_rfl) (by kernel_rfl)
theorem Uin(h:TR O U t):methK (P p) (.ref 2 U.i) Qai O=some (.fn a_Tokenizer_error):=Uar h.tok (by kernel_rfl) (by kernel_rfl)
theorem Us1(h:TR O U t):methK (P p) (.ref 2 U.i) (Y "emit") O=some (.fn a_Tokenizer_emit):=Uar h.tok (by kernel_rfl) (by kernel_rfl)
theorem Ui9(h:TR O U t):methK (P p) (.ref 2 U.i) Qdi O=some (.fn a_Tokenizer_emit_sign):=Uar h.tok (by kernel_rfl) (by kernel_rfl)
theorem Uip(h:TR O U t):methK (P p) (.ref 2 U.i) Qdp O=some (.fn a_Tokenizer_emit_text):=Uar h.tok (by kernel_rfl) (by kernel_rfl)
theorem Uhi(h:TR O U t):methK (P p) (.ref 2 U.i) Qcx O=some (.fn a_Tokenizer_emit_draft):=Uar h.tok (by kernel_rfl) (by kernel_rfl)
theorem Uk3(h:TR O U t):methK (P p) (.ref 2 U.i) Qca O=some (.fn a_Tokenizer_emit_eof):=Uar h.tok (by kernel_rfl) (by kernel_rfl)
theorem Use(h:TR O U t):methK (P p) (.ref 2 U.i) (Y "step") O=some (.fn a_Tokenizer_step):=Uar h.tok (by kernel_rfl) (by kernel_rfl)
theorem Uk9(h:TR O U t):methK (P p) (.ref 2 U.i) Qdq O=some (.fn a_Tokenizer_is_ready):=Uar h.tok (by kernel_rfl) (by kernel_rfl)
theorem mt_run(h:TR O U t):methK (P p) (.ref 2 U.i) Qcb O=some (.fn a_Tokenizer_run):=Uar h.tok (by kernel_rfl) (by kernel_rfl)
theorem Utj(h:TR O U t):methK (P p) (.ref 1 U.s) Qbz O=some (.fn a_Stream_feed):=Uar h.str (by kernel_rfl) (by kernel_rfl)
theorem ms_end(h:TR O U t):methK (P p) (.ref 1 U.s) Qar O=some (.fn a_Stream_end):=Uar h.str (by kernel_rfl) (by kernel_rfl)
theorem Uhv(h:DR O d):methK (P p) (.ref 0 d.i) Qcw O=some (.fn a_Draft_begin_attr):=Uar h.obj (by kernel_rfl) (by kernel_rfl)
theorem Uga(h:DR O d):methK (P p) (.ref 0 d.i) Qcl O=some (.fn a_Draft_add_name):=Uar h.obj (by kernel_rfl) (by kernel_rfl)
theorem Ujg(h:DR O d):methK (P p) (.ref 0 d.i) Qcm O=some (.fn a_Draft_add_value):=Uar h.obj (by kernel_rfl) (by kernel_rfl)
theorem Uhh(h:DR O d):methK (P p) (.ref 0 d.i) Qdo O=some (.fn a_Draft_check_attr):=Uar h.obj (by kernel_rfl) (by kernel_rfl)
theorem Ul0(h:DR O d):methK (P p) (.ref 0 d.i) Qal O=some (.fn a_Draft_token):=Uar h.obj (by kernel_rfl) (by kernel_rfl)
theorem DR.put{r i:Nat}{o o':Ob}(h:DR O d)(e:O.get r i=some o')(hr:r≠0/\r≠4/\r≠5):DR (O.put r i o) d :=
 ⟨(Uaf e (fun z=>hr.1 z.symm)).trans h.obj,(Uaf e (fun z=>hr.2.1 z.symm)).trans h.al,fun a m=>(Uaf e (fun z=>hr.2.2 z.symm)).trans (h.each a m),h.nd⟩
theorem TR.setTok{t':TS}(h:TR O U t)(e1:t'.signs=t.signs)(e2:t'.closed=t.closed)(e3:t'.isret=t.isret)(e4:t'.serr=t.serr)(e5:t'.out=t.out)(e6:t'.errs=t.errs)(hd:∀ d,t'.draft=some d->DR O d) :
  TR (O.put 2 U.i (.inst c_Tokenizer (tokEs U t'))) U t':=by
 have es:strEs U t'=strEs U t:=by delta strEs;rw [e2,e3]
 refine ⟨Uah.trans h.len,Uae h.tok,?_,?_,?_,?_,?_,?_,fun d e=>(hd d e).put h.tok ⟨by decide,by decide,by decide⟩⟩
 ·rw [Uaf h.tok (by decide),es];exact h.str
 ·rw [Uaf h.tok (by decide),e1];exact h.sg
 ·rw [Uaf h.tok (by decide),e4];exact h.se
 ·rw [Uaf h.tok (by decide),e5];exact h.out
 ·rw [Uaf h.tok (by decide),e6];exact h.err
 ·rw [Uaf h.tok (by decide)];exact h.sd
theorem sa_at(h:TR O U t)(v:Int):∃ O',setAttrV (P p) (.ref 2 U.i) Qt (.int v) O=some ((),O')/\TR O' U { t with pos:=v }/\Fx O O' :=
 ⟨_,Uaj (es':=tokEs U { t with pos:=v }) h.tok (by kernel_rfl) (by show 14 < 100;decide) (by kernel_rfl),h.setTok rfl rfl rfl rfl rfl rfl h.dr,Fx.put rfl⟩
theorem Um1(h:TR O U t)(v:Str):∃ O',setAttrV (P p) (.ref 2 U.i) Qy (.str v) O=some ((),O')/\TR O' U { t with state:=v }/\Fx O O' :=
 ⟨_,Uaj (es':=tokEs U { t with state:=v }) h.tok (by kernel_rfl) (by show 14 < 100;decide) (by kernel_rfl),h.setTok rfl rfl rfl rfl rfl rfl h.dr,Fx.put rfl⟩
theorem Us8(h:TR O U t)(v:Str):∃ O',setAttrV (P p) (.ref 2 U.i) Qbe (.str v) O=some ((),O')/\TR O' U { t with back:=v }/\Fx O O' :=
 ⟨_,Uaj (es':=tokEs U { t with back:=v }) h.tok (by kernel_rfl) (by show 14 < 100;decide) (by kernel_rfl),h.setTok rfl rfl rfl rfl rfl rfl h.dr,Fx.put rfl⟩
theorem Utn(h:TR O U t)(v:Str):∃ O',setAttrV (P p) (.ref 2 U.i) Qi (.str v) O=some ((),O')/\TR O' U { t with last:=v }/\Fx O O' :=
 ⟨_,Uaj (es':=tokEs U { t with last:=v }) h.tok (by kernel_rfl) (by show 14 < 100;decide) (by kernel_rfl),h.setTok rfl rfl rfl rfl rfl rfl h.dr,Fx.put rfl⟩
theorem Ucn(h:TR O U t)(v:Bool):∃ O',setAttrV (P p) (.ref 2 U.i) Qbq (.bool v) O=some ((),O')/\TR O' U { t with waiting:=v }/\Fx O O' :=
 ⟨_,Uaj (es':=tokEs U { t with waiting:=v }) h.tok (by kernel_rfl) (by show 14 < 100;decide) (by kernel_rfl),h.setTok rfl rfl rfl rfl rfl rfl h.dr,Fx.put rfl⟩
theorem Und(h:TR O U t)(v:Bool):∃ O',setAttrV (P p) (.ref 2 U.i) Qce (.bool v) O=some ((),O')/\TR O' U { t with done:=v }/\Fx O O' :=
 ⟨_,Uaj (es':=tokEs U { t with done:=v }) h.tok (by kernel_rfl) (by show 14 < 100;decide) (by kernel_rfl),h.setTok rfl rfl rfl rfl rfl rfl h.dr,Fx.put rfl⟩
theorem Urf(h:TR O U t)(v:Option Dr)(hd:∀ d,v=some d->DR O d):∃ O',setAttrV (P p) (.ref 2 U.i) Qp (drV v) O=some ((),O')/\TR O' U { t with draft:=v }/\Fx O O' :=
 ⟨_,Uaj (es':=tokEs U { t with draft:=v }) h.tok (by kernel_rfl) (by show 14 < 100;decide) (by kernel_rfl),h.setTok rfl rfl rfl rfl rfl rfl hd,Fx.put rfl⟩
end
section
variable {p:Params}{O O' O₁:Store}{U:Rf}{t:TS}{d:Nat}{dr:Dr}
theorem len_list{r i:Nat}{vs:List V}(h:O.get r i=some (.list vs)):builtinV .len [.ref r i] O=some (.int vs.length,O):=by
 refine bi_of ?_;show ob (asList O (.ref r i)) _ _=_;rw [asl_of h]
theorem seq_no{o:V}{vs:List V}(h:asSeq O o=some vs):strO o=none/\dictO O o=none:=obE h (fun ws q w0=>by cases Ugk q;exact ⟨rfl,rfl⟩) fun w0 e=>obE e (fun ws q w0=>by cases Ue1 q;exact ⟨rfl,rfl⟩) fun w0 e=>obS e fun z q w0=>by
 have w:=Ubc q;rw [w.1];exact ⟨rfl,ob_no (show dref O (.ref z.1 z.2.1)=none from ob_of (Ufh w.2))⟩
theorem Ugp{o:V}{vs:List V}{k:Int}{j:Nat}{v:V}(h:asSeq O o=some vs)(hi:idx k vs.length=some j)(hk:vs[j]?=some v):itemV o (.int k) O=some v :=
 (ob_no (seq_no h).1).trans ((ob_no (seq_no h).2).trans ((ob_of h).trans ((ob_of hi).trans hk)))
theorem Ufo{o:V}{vs:List V}{k:Int}{v:V}(h:asSeq O o=some vs)(hs:∀ s,o≠.str s)(h0:0<=k)(hk:vs[k.toNat]?=some v):itemV o (.int k) O=some v:=by
 exact Ugp h ((if_pos h0).trans (if_pos (List.getElem?_eq_some_iff.mp hk).1)) hk
theorem Udn{r i:Nat}{vs:List V}(h:O.get r i=some (.list vs)):asSeq O (.ref r i)=some vs:=asl_of h
theorem Up6{r i:Nat}{es:List (Str×V)}(h:O.get r i=some (.dict es)):dictO O (.ref r i)=some es:=ob_of (f:=fun z:Nat×Nat×List (Str×V)=>some z.2.2) (z:=none) (Uf8 h)
theorem Ubq{r i:Nat}{es:List (Str×V)}{x:Str}{v:V}(h:O.get r i=some (.dict es))(hx:lk x es=some v):itemV (.ref r i) (.str x) O=some v:=(ob_of (Up6 h)).trans hx
theorem Uj5{r i:Nat}{es:List (Str×V)}{x:Str}(h:O.get r i=some (.dict es)):inV O (.str x) (.ref r i)=some (lk x es).isSome:=ob_of (f:=fun es=>some (lk x es).isSome) (Up6 h)
theorem in_tup{x:Str}{vs:List V}{l:List Str}(hl:strsOf vs=some l):inV O (.str x) (.tup vs)=some (l.any (·==x)):=ob_of (f:=fun l:List Str=>some (l.any (·==x))) (z:=none) hl
theorem ne_ref{r i:Nat}:∀ s,V.ref r i≠.str s:=fun s e=>by cases e
noncomputable def TS.cur(t:TS):Str:=if t.pos < t.signs.length then t.signs.getD t.pos.toNat "" else ""
noncomputable def TS.nxt(t:TS):TS:={ t with pos:=t.pos+1 }
noncomputable def TS.to(t:TS)(s:Str):TS:={ t with state:=s }
noncomputable def TS.again(t:TS)(s:Str):TS:={ t with pos:=t.pos - 1,state:=s }
noncomputable def errV(code:Str)(k:Int):V:=.tup [.str code,.int k]
noncomputable def TS.error(t:TS)(code:Str):TS:={ t with errs:=t.errs++[errV code (t.pos - 1)] }
noncomputable def chV(s:Str):V:=.tup [.str "char",.str s]
noncomputable def TS.put(t:TS)(v:V):TS:={ t with out:=t.out++[v] }
noncomputable def eofV:V:=.tup [.str "eof"]
theorem Ure(h:TR O U t)(h0:0<=t.pos):Run (callK (P p) (d+1) a_Tokenizer_next [.ref 2 U.i]) O fun v O'=>v=.str t.cur/\TR O' U t.nxt/\Fx O O':=by
 rw [Ue5];show RF _ O _;delta F_Tokenizer_next;refine xEAAA (sa_at (p:=p) h (t.pos+1)) fun O1 e1 h1 f1=>?_;refine RF.b (ga_at h) (RF.l rfl (RF.b e1 (RF.b (Ub5 h1) (RF.b (Uea h1) (RF.b (len_list h1.sg) (RF.l rfl ?_))))));rw [List.length_map]
 by_cases hl:t.pos < (t.signs.length:Int)
 ·have hg:(t.signs.map V.str)[t.pos.toNat]?=some (.str t.cur):=by
   delta TS.cur;rw [if_pos hl,List.getElem?_map,List.getD_eq_getElem?_getD];have:t.pos.toNat < t.signs.length:=(Int.toNat_lt h0).mpr hl;rw [List.getElem?_eq_getElem this];rfl
  refine RF.pos (by simpa using hl) (RF.b (Ub5 h1) (RF.b (Uea h1) (RF.l (Ufo (Udn h1.sg) ne_ref h0 hg) (RF.r ⟨rfl,h1,f1⟩))))
 ·refine RF.neg (by simpa using hl) ?_;rw [Ucm];exact RF.r ⟨by delta TS.cur;rw [if_neg hl],h1,f1⟩
theorem to_run(h:TR O U t)(s:Str):Run (callK (P p) (d+1) a_Tokenizer_to [.ref 2 U.i,.str s]) O fun v O'=>v=.none/\TR O' U (t.to s)/\Fx O O':=by
 rw [Uha];show RF _ O _;delta F_Tokenizer_to;refine xEAAA (Um1 (p:=p) h s) fun O1 e1 h1 f1=>?_;exact RF.b e1 (RF.n ⟨rfl,h1,f1⟩)
theorem Unz(h:TR O U t)(s:Str):Run (callK (P p) (d+1) a_Tokenizer_again [.ref 2 U.i,.str s]) O fun v O'=>v=.none/\TR O' U (t.again s)/\Fx O O':=by
 rw [Uer];show RF _ O _;delta F_Tokenizer_again;refine xEAAA (sa_at (p:=p) h (t.pos - 1)) fun O1 e1 h1 f1=>?_;refine xEAAA (Um1 (p:=p) h1 s) fun O2 e2 h2 f2=>?_;exact RF.b (ga_at h) (RF.l rfl (RF.b e1 (RF.b e2 (RF.n ⟨rfl,h2,f1.trans f2⟩))))
theorem TR.setErr{l:List V}(h:TR O U t):TR (O.put 10 U.e (.list l)) U { t with errs:=l }/\Fx O (O.put 10 U.e (.list l)) :=
 ⟨⟨Uah.trans h.len,(Uaf h.err (by decide)).trans h.tok,(Uaf h.err (by decide)).trans h.str,(Uaf h.err (by decide)).trans h.sg,(Uaf h.err (by decide)).trans h.se,(Uaf h.err (by decide)).trans h.out,Uae h.err,
  (Uaf h.err (by decide)).trans h.sd,fun d e=>(h.dr d e).put h.err ⟨by decide,by decide,by decide⟩⟩,Fx.put rfl⟩
theorem TR.setOut{l:List V}(h:TR O U t):TR (O.put 9 U.o (.list l)) U { t with out:=l }/\Fx O (O.put 9 U.o (.list l)) :=
 ⟨⟨Uah.trans h.len,(Uaf h.out (by decide)).trans h.tok,(Uaf h.out (by decide)).trans h.str,(Uaf h.out (by decide)).trans h.sg,(Uaf h.out (by decide)).trans h.se,Uae h.out,(Uaf h.out (by decide)).trans h.err,
  (Uaf h.out (by decide)).trans h.sd,fun d e=>(h.dr d e).put h.out ⟨by decide,by decide,by decide⟩⟩,Fx.put rfl⟩
theorem Ugy(h:TR O U t)(s:Str)(hl:t.errs.length < lim):Run (callK (P p) (d+1) a_Tokenizer_error [.ref 2 U.i,.str s]) O fun v O'=>v=.none/\TR O' U (t.error s)/\Fx O O':=by
 rw [Ueo];show RF _ O _;delta F_Tokenizer_error;refine xAA (h.setErr (l:=t.errs++[errV s (t.pos - 1)])) fun h1 f1=>?_;exact RF.b (Ukl h) (RF.ml h.err (by kernel_rfl) (by decide) (RF.b (ga_at h) (RF.l rfl (RF.b (Uag h.err hl) (RF.n ⟨rfl,h1,f1⟩)))))
theorem Uhy(h:TR O U t)(s:Str)(hl:t.out.length < lim):Run (callK (P p) (d+1) a_Tokenizer_emit_sign [.ref 2 U.i,.str s]) O fun v O'=>v=.none/\TR O' U (t.put (chV s))/\Fx O O':=by
 rw [Ucw];show RF _ O _;delta F_Tokenizer_emit_sign;refine xAA (h.setOut (l:=t.out++[chV s])) fun h1 f1=>?_;exact RF.b (ga_out h) (RF.ml h.out (by kernel_rfl) (by decide) (RF.b (Uag h.out hl) (RF.n ⟨rfl,h1,f1⟩)))
theorem Uij(h:TR O U t)(hl:t.out.length < lim):Run (callK (P p) (d+1) a_Tokenizer_emit_eof [.ref 2 U.i]) O fun v O'=>v=.none/\TR O' U { t.put eofV with done:=true }/\Fx O O':=by
 rw [Uc2];show RF _ O _;delta F_Tokenizer_emit_eof;refine xAA (h.setOut (l:=t.out++[eofV])) fun h1 f1=>?_;refine xEAAA (Und (p:=p) h1 true) fun O2 e2 h2 f2=>?_;exact RF.b (ga_out h) (RF.ml h.out (by kernel_rfl) (by decide) (RF.b (Uag h.out hl) (RF.b e2 (RF.n ⟨rfl,h2,f1.trans f2⟩))))
noncomputable def TS.emit(t:TS)(kind:Str)(name:V)(l:Str)(v:V):TS:={ t with last:=if kind=="start" then l else t.last,out:=t.out++[v] }
theorem Uqj(h:TR O U t)(kind name:Str)(r:List V)(hl:t.out.length < lim):Run (callK (P p) (d+1) a_Tokenizer_emit [.ref 2 U.i,.tup (.str kind::.str name::r)]) O fun v O' =>
  v=.none/\TR O' U { t with last:=if kind=="start" then name else t.last,out:=t.out++[.tup (.str kind::.str name::r)] }/\Fx O O':=by
 rw [Ufg];show RF _ O _;delta F_Tokenizer_emit;have i0:∀ s,itemV (.tup (.str kind::.str name::r)) (.int 0) s=some (.str kind):=fun s=>Ufo (vs:=.str kind::.str name::r) rfl (fun w0 e=>by cases e) (by decide) rfl;have i1:∀ s,itemV (.tup (.str kind::.str name::r)) (.int 1) s=some (.str name):=fun s=>Ufo (vs:=.str kind::.str name::r) rfl (fun w0 e=>by cases e) (by decide) rfl;refine RF.l (i0 O) (RF.l rfl ?_)
 by_cases hk:(kind==Qcn)=true
 ·refine xEAAA (Utn (p:=p) h name) fun O1 e1 h1 f1=>?_;refine xAA (h1.setOut (l:=t.out++[.tup (.str kind::.str name::r)])) fun h2 f2=>?_;refine RF.pos hk (RF.l (i1 O) (RF.b e1 ?_));rw [Ua4];delta J_Tokenizer_emit_0_T0;simp only [hk,if_true];exact RF.b (ga_out h1) (RF.ml h1.out (by kernel_rfl) (by decide) (RF.b (Uag h1.out hl) (RF.n ⟨rfl,h2,f1.trans f2⟩)))
 ·refine xAA (h.setOut (l:=t.out++[.tup (.str kind::.str name::r)])) fun h2 f2=>?_;refine RF.neg hk ?_;rw [Ua4];delta J_Tokenizer_emit_0_T0;rw [if_neg hk];exact RF.b (ga_out h) (RF.ml h.out (by kernel_rfl) (by decide) (RF.b (Uag h.out hl) (RF.n ⟨rfl,h2,f2⟩)))
theorem Ue9{s:Str}{k c:Nat}(h:s.cps[k]?=some c):drawV (.str s) k O=some (some (.str ⟨#[c]⟩)):=by
 have hk:=Array.getElem?_eq_some_iff.mp h;have:s.cps.getD k 0=c:=by simp [Array.getD,hk.1,hk.2]
 exact congrArg some ((if_pos hk.1).trans (by rw [this]))
theorem Ugl{s:Str}{k:Nat}(h:s.cps.size<=k):drawV (.str s) k O=some none:=congrArg some (if_neg (Nat.not_lt.mpr h))
theorem Ubi{sc:Scope}{x:Str}{v:V}{fr:Fr}(h:setOk sc x=true):setL sc x v fr=ret (setK x v fr):=if_pos h
noncomputable abbrev nextF(o:V)(s:V->Fr->M Fr)(b:Fr->M Fl)(n k:Nat):Fl->M Fl:=goOn fun fr'=>loopF o s b n (k+1) fr'
theorem Uh7{o v:V}{s:V->Fr->M Fr}{b:Fr->M Fl}{n k:Nat}{fr fr₁:Fr}(hd:drawV o k O=some (some v))(hs:s v fr=ret fr₁) :
  loopF o s b (n+1) k fr O=bnd (b fr₁) (nextF o s b n k) O:=by
 refine (bnd_of (a:=some v) (O₁:=O) (by delta look;rw [hd])).trans ?_;show bnd (s v fr) _ O=_;rw [hs];rfl
theorem Umj{o:V}{s:V->Fr->M Fr}{b:Fr->M Fl}{n k:Nat}{fr:Fr}(hd:drawV o k O=some none):loopF o s b (n+1) k fr O=some (.next fr,O) :=
 bnd_of (a:=none) (O₁:=O) (by delta look;rw [hd])
end
section
variable {p:Params}{O O' O₁:Store}{U:Rf}{t:TS}{n d:Nat}{dr:Dr}
theorem forL{o:V}{s:V->Fr->M Fr}{b:Fr->M Fl}(I:Nat->Fr->Store->Prop)(R:V->Store->Prop)(items:List V)
  (step:∀ k v fr O,items[k]?=some v->I k fr O->drawV o k O=some (some v)/\∃ fr1,s v fr=ret fr1/\Run (b fr1) O fun fl O'=>(∃ fr',fl=.next fr'/\I (k+1) fr' O')\/∃ v,fl=.ret v/\R v O')
  (fin:∀ fr O,I items.length fr O->drawV o items.length O=some none):∀ (m k:Nat) (fr:Fr) (O:Store) (n:Nat),items.length - k=m->I k fr O->k<=items.length->m < n ->
  Run (loopF o s b n k fr) O fun fl O'=>(∃ fr',fl=.next fr'/\I items.length fr' O')\/∃ v,fl=.ret v/\R v O'
 | m,k,fr,O,0,hm,hI,hk,hn=>absurd hn (Nat.not_lt_zero _)
 | 0,k,fr,O,n+1,hm,hI,hk,hn=>by
  have:k=items.length:=om25 hm hk;subst this;exact ⟨_,O,Umj (fin fr O hI),.inl ⟨fr,rfl,hI⟩⟩
 | m+1,k,fr,O,n+1,hm,hI,hk,hn=>by
  have hk':k < items.length:=om26 hm hk;refine xAEAEEAA (step k items[k] fr O (List.getElem?_eq_getElem hk') hI) fun hd fr1 hs fl O1 e q=>?_;rcases q with ⟨fr',rfl,hI'⟩ | ⟨v,rfl,hR⟩
  ·refine xEEAA (forL I R items step fin m (k+1) fr' O1 n ((Nat.sub_succ _ _).trans (congrArg Nat.pred hm)) hI' (by omega) (om6 hn)) fun fl2 O2 e2 q2=>?_;exact ⟨fl2,O2,(Uh7 hd hs).trans ((bnd_of e).trans e2),q2⟩
  ·exact ⟨.ret v,O1,(Uh7 hd hs).trans (bnd_of e),.inr ⟨v,rfl,hR⟩⟩
theorem forRun{o:V}{s:V->Fr->M Fr}{b J:Fr->M Fl}{fr:Fr}{Q:V->Store->Prop}(I:Nat->Fr->Store->Prop)(items:List V)(h0:I 0 fr O)(hl:items.length < 5000)
  (step:∀ k v fr O,items[k]?=some v->I k fr O->drawV o k O=some (some v)/\∃ fr1,s v fr=ret fr1/\Run (b fr1) O fun fl O'=>(∃ fr',fl=.next fr'/\I (k+1) fr' O')\/∃ v,fl=.ret v/\Q v O')
  (fin:∀ fr O,I items.length fr O->drawV o items.length O=some none) (g:∀ fr' O',I items.length fr' O'->RF (J fr') O' Q):RF (bnd (loopF o s b 5000 0 fr) (goOn J)) O Q:=by
 refine xEEAA (forL I Q items step fin (items.length - 0) 0 fr O 5000 rfl h0 (Nat.zero_le _) (om22 hl)) fun fl O1 e q=>?_;refine RF.b e ?_;rcases q with ⟨fr',rfl,hI⟩ | ⟨v,rfl,hR⟩
 ·exact g fr' O1 hI
 ·exact RF.r hR
theorem Run.next{fr:Fr}{Q:Fl->Store->Prop}(h:Q (.next fr) O):Run (ret (Fl.next fr)) O Q:=⟨_,O,rfl,h⟩
theorem Run.l{α β:Type}{f:Store->Option α}{k:α->M β}{a:α}{Q:β->Store->Prop}(h:f O=some a)(g:Run (k a) O Q):Run (bnd (look f) k) O Q:=Run.b (by delta look;rw [h]) g
theorem Run.pos{α:Type}{c:Prop}[Decidable c]{a b:M α}{Q:α->Store->Prop}(h:c)(g:Run a O Q):Run (if c then a else b) O Q:=by rw [if_pos h];exact g
theorem Run.neg{α:Type}{c:Prop}[Decidable c]{a b:M α}{Q:α->Store->Prop}(h:¬ c)(g:Run b O Q):Run (if c then a else b) O Q:=by rw [if_neg h];exact g
theorem Run.ml{α:Type}{r i:Nat}{vs:List V}{x:Str}{id:Mi}{k:MK->M α}{Q:α->Store->Prop}(h:O.get r i=some (.list vs))(hx:listM x=some id)(hr:isRepl (.bi id)=false)
  (g:Run (k (.bi id)) O Q):Run (bnd (look (methK (P p) (.ref r i) x)) fun m=>if isRepl m then fail else k m) O Q :=
 Run.l ((Ujo h).trans (by rw [hx];rfl)) (Run.neg (by rw [hr];decide) g)
theorem Run.app{α:Type}{r i:Nat}{vs:List V}{k:MK->M α}{Q:α->Store->Prop}(h:O.get r i=some (.list vs))(g:Run (k (.bi .append)) O Q) :
  Run (bnd (look (methK (P p) (.ref r i) Qx)) fun m=>if isRepl m then fail else k m) O Q:=Run.ml h (by kernel_rfl) (by decide) g
theorem RF.app{r i:Nat}{vs:List V}{k:MK->M Fl}{Q:V->Store->Prop}(h:O.get r i=some (.list vs))(g:RF (k (.bi .append)) O Q) :
  RF (bnd (look (methK (P p) (.ref r i) Qx)) fun m=>if isRepl m then fail else k m) O Q:=RF.ml h (by kernel_rfl) (by decide) g
theorem Run.m{α:Type}{o:V}{x:Str}{f:Addr}{k:MK->M α}{Q:α->Store->Prop}(h:methK (P p) o x O=some (.fn f))(g:Run (k (.fn f)) O Q):Run (bnd (look (methK (P p) o x)) fun m=>if isRepl m then fail else k m) O Q :=
 Run.l h (Run.neg (by delta isRepl;exact Bool.false_ne_true) g)
theorem RF.mk{o:V}{x:Str}{f:Addr}{k:MK->M Fl}{Q:V->Store->Prop}(h:methK (P p) o x O=some (.fn f))(g:RF (k (.fn f)) O Q):RF (bnd (look (methK (P p) o x)) fun m=>if isRepl m then fail else k m) O Q :=
 RF.l h (RF.neg (by delta isRepl;exact Bool.false_ne_true) g)
theorem Uke{r i k:Nat}{vs:List V}(h:O.get r i=some (.list vs)):drawV (.ref r i) k O=some vs[k]?:=ob_of (f:=fun vs=>some vs[k]?) (z:=none) (asl_of h)
theorem Ufu{r i:Nat}{o o':Ob}{r' i':Nat}{x:Ob}(h:O.get r i=some o')(hx:O.get r' i'=some x)(hn:r'≠r\/i'≠i):(O.put r i o).get r' i'=some x:=by
 rw [Store.get_put h,if_neg (fun e=>hn.elim (fun q=>q e.1) (fun q=>q e.2))];exact hx
noncomputable def Dx(O O':Store):Prop:=O'.length=O.length/\∀ r,r≠0->r≠4->r≠5->r≠6->O'[r]?=O[r]?
theorem Dx.rfl:Dx O O:=⟨Eq.refl _,fun w0 w0 w0 w0 w0=>Eq.refl _⟩
theorem Dx.trans{a b c:Store}(x:Dx a b)(y:Dx b c):Dx a c:=⟨y.1.trans x.1,fun r h1 h2 h3 h4=>(y.2 r h1 h2 h3 h4).trans (x.2 r h1 h2 h3 h4)⟩
theorem Dx.put{r i:Nat}{o:Ob}(h:r=0\/r=4\/r=5\/r=6):Dx O (O.put r i o):=⟨Uah,fun r' h1 h2 h3 h4=>Ua9 (by rcases h with rfl | rfl | rfl | rfl <;> assumption)⟩
theorem Dx.add{r:Nat}{o:Ob}(h:r=0\/r=4\/r=5\/r=6):Dx O (O.add r o):=⟨Uau,fun r' h1 h2 h3 h4=>Uca (by rcases h with rfl | rfl | rfl | rfl <;> assumption)⟩
theorem Dx.fx(x:Dx O O'):Fx O O':=fun r h=>x.2 r (by rintro rfl;cases h) (by rintro rfl;cases h) (by rintro rfl;cases h) (by rintro rfl;cases h)
theorem Dx.get(x:Dx O O'){r i:Nat}(h1:r≠0)(h2:r≠4)(h3:r≠5)(h4:r≠6):O'.get r i=O.get r i:=by delta Store.get;rw [x.2 r h1 h2 h3 h4]
theorem TR.dx{t':TS}(h:TR O U t)(x:Dx O O')(e:{ t' with draft:=t.draft }=t)(ed:drV t'.draft=drV t.draft)(hd:∀ d,t'.draft=some d->DR O' d):TR O' U t':=by
 obtain ⟨pos,state,back,last,out,errs,draft,waiting,done,signs,closed,isret,serr⟩:=t';obtain ⟨pos',state',back',last',out',errs',draft',waiting',done',signs',closed',isret',serr'⟩:=t;cases e;have et:tokEs U ⟨pos,state,back,last,out,errs,draft,waiting,done,signs,closed,isret,serr⟩=tokEs U ⟨pos,state,back,last,out,errs,draft',waiting,done,signs,closed,isret,serr⟩:=by
  have ed:drV draft=drV draft':=ed;simp only [tokEs,ed]
 exact ⟨x.1.trans h.len,by rw [x.get (by decide) (by decide) (by decide) (by decide),et];exact h.tok,(x.get (by decide) (by decide) (by decide) (by decide)).trans h.str,(x.get (by decide) (by decide) (by decide) (by decide)).trans h.sg,
  (x.get (by decide) (by decide) (by decide) (by decide)).trans h.se,(x.get (by decide) (by decide) (by decide) (by decide)).trans h.out,(x.get (by decide) (by decide) (by decide) (by decide)).trans h.err,(x.get (by decide) (by decide) (by decide) (by decide)).trans h.sd,hd⟩
noncomputable def keptV(as:List At):List V:=(as.filter (·.k)).map fun a=>.tup [.str a.n,.str a.v]
noncomputable def Dr.tok(d:Dr):V:=if d.kind=="comment" then .tup [.str "comment",.str ""] else .tup [.str d.kind,.str d.name,.tup (keptV d.attrs),.bool d.closing]
theorem DR.add6(h:DR O dr){o:Ob}{l:List Ob}(e:O[6]?=some l):DR (O.add 6 o) dr:=⟨Ubg e h.obj,Ubg e h.al,fun a m=>Ubg e (h.each a m),h.nd⟩
theorem DR.put6(h:DR O dr){i:Nat}{o o':Ob}(e:O.get 6 i=some o'):DR (O.put 6 i o) dr:=h.put e ⟨by decide,by decide,by decide⟩
theorem Uqu{r i:Nat}{vs:List V}(h:O.get r i=some (.list vs)):builtinV .tuple [.ref r i] O=some (.tup vs,O):=by
 refine bi_of ?_;show ob (asList O (.ref r i)) _ _=_;rw [asl_of h]
theorem itemL{r i:Nat}{vs:List V}{k:Nat}{v:V}(h:O.get r i=some (.list vs))(hk:vs[k]?=some v):itemV (.ref r i) (.int k) O=some v:=Ufo (Udn h) ne_ref (Int.natCast_nonneg _) (by simpa using hk)
theorem Uj0(h:DR O dr)(hlen:O.length=24)(hk:(dr.kind==Qds)=false)(hl:dr.attrs.length < 5000):Run (callK (P p) (d+1) a_Draft_token [.ref 0 dr.i]) O fun v O'=>v=dr.tok/\DR O' dr/\Dx O O':=by
 rw [Uh2];show RF _ O _;delta F_Draft_token;refine RF.b (Ujv h) (RF.l rfl ?_)
 by_cases hc:(dr.kind==Qat)=true
 ·exact RF.pos hc (RF.b (Utx h) (RF.r ⟨by delta Dr.tok;rw [if_pos hc],h,Dx.rfl⟩))
 refine RF.neg hc ?_;rw [Udy];delta J_Draft_token_0_T0;refine RF.b (Ujv h) (RF.l rfl (RF.neg (by rw [hk];decide) ?_));rw [Udx];delta J_Draft_token_1_T0;refine xEA (reg_of hlen (by decide:6 < 24)) fun l hl6=>?_;have hn:newL 6 [] O=some (.ref 6 l.length,O.add 6 (.list [])):=by delta newL;rw [hl6]
 have h1:=h.add6 (o:=.list []) hl6;refine RF.b hn (RF.b (Ub3 h1) ?_);refine forRun (fun k fr s=>DR s dr/\Dx O s/\s.get 6 l.length=some (.list (keptV (dr.attrs.take k)))/\(fr=[(Qe,.ref 0 dr.i),(Qbw,.ref 6 l.length)]\/∃ v,fr=[(Qe,.ref 0 dr.i),(Qbw,.ref 6 l.length),(Qcs,v)]))
  (dr.attrs.map fun a=>.ref 5 a.i) ⟨h1,Dx.add (by simp),by rw [List.take_zero];exact Ua1 hl6,.inl rfl⟩ (by rw [List.length_map];exact hl) (fun k v fr s hv hI=>?_) (fun fr s hI=>?_) fun fr s hI=>?_
 ·refine xAAAA hI fun hD hX h6 hfr=>?_;rw [List.getElem?_map] at hv;refine xEAA (Option.map_eq_some_iff.mp hv) fun a ha qz1=>?_;subst qz1;have hm:a ∈ dr.attrs:=List.mem_of_getElem? ha;have hk':k < dr.attrs.length:=by rw [List.getElem?_eq_some_iff] at ha;exact ha.1
  have ha':dr.attrs[k]=a:=by rw [List.getElem?_eq_some_iff] at ha;exact ha.2
  refine ⟨by rw [Uke hD.al,List.getElem?_map,ha];rfl,[(Qe,.ref 0 dr.i),(Qbw,.ref 6 l.length),(Qcs,.ref 5 a.i)],?_,?_⟩
  ·rw [Ubi (by kernel_rfl)];rcases hfr with rfl | ⟨v,rfl⟩ <;> kernel_rfl
  ·rw [Ucz];delta T_Draft_token_l0_0;have e5:=hD.each a hm;refine Run.l (itemL (k:=2) e5 rfl) ?_;show Run (if a.k then _ else _) s _;have tk:keptV (dr.attrs.take (k+1))=keptV (dr.attrs.take k)++(if a.k then [.tup [.str a.n,.str a.v]] else []):=by
    delta keptV;rw [List.take_succ_eq_append_getElem hk',ha',List.filter_append,List.map_append];cases hak:a.k <;> simp [hak]
   by_cases hak:a.k=true
   ·rw [if_pos hak] at tk;refine Run.pos hak (Run.app h6 (Run.l (itemL (k:=0) e5 rfl) (Run.l (itemL (k:=1) e5 rfl) ?_)));have hll:(keptV (dr.attrs.take k)).length < lim:=by
     delta keptV;rw [List.length_map];have h1:=List.length_filter_le (·.k) (dr.attrs.take k);have h2:=List.length_take_le k dr.attrs;delta lim;exact Nat.lt_of_le_of_lt (Nat.le_trans h1 h2) (Nat.lt_trans (Nat.lt_trans hk' hl) (by decide))
    refine Run.b (Uag h6 hll) (Run.next (.inl ⟨_,rfl,hD.put6 h6,hX.trans (Dx.put (by simp)),?_,.inr ⟨_,rfl⟩⟩));rw [tk];exact Uae h6
   ·rw [if_neg hak,List.append_nil] at tk;exact Run.neg hak (Run.next (.inl ⟨_,rfl,hD,hX,by rw [tk];exact h6,.inr ⟨_,rfl⟩⟩))
 ·rw [Uke hI.1.al,List.getElem?_eq_none (Nat.le_refl _)]
 ·refine xAAAA hI fun hD hX h6 hfr=>?_;rw [List.length_map,List.take_length] at h6;have fin:RF (bnd (attrV (P p) (.ref 0 dr.i) Qah) fun x18=>bnd (attrV (P p) (.ref 0 dr.i) Qay) fun x19=>bnd (builtinV .tuple [.ref 6 l.length]) fun x20=>bnd (attrV (P p) (.ref 0 dr.i) Qbm) fun x21=>ret (.ret (.tup [x18,x19,x20,x21]))) s
    (fun v O'=>v=dr.tok/\DR O' dr/\Dx O O') :=
   RF.b (Ujv hD) (RF.b (Upz hD) (RF.b (Uqu h6) (RF.b (Ueg hD) (RF.r ⟨by delta Dr.tok;rw [if_neg hc],hD,hX⟩))))
  rcases hfr with rfl | ⟨v,rfl⟩
  ·rw [Udc];exact fin
  ·rw [Udg];exact fin
end
section
variable {p:Params}{O O' O₁:Store}{U:Rf}{t:TS}{n d:Nat}{dr:Dr}{init:List At}{a a':At}
theorem Ur0(n:Nat):idx (-1) (n+1)=some n:=by
 refine (if_neg (by decide)).trans ((if_pos (by omega)).trans (congrArg some ?_));exact om311
theorem Ukn{r i:Nat}{vs:List V}{v:V}(h:O.get r i=some (.list (vs++[v]))):itemV (.ref r i) (.int (-1)) O=some v :=
 Ugp (Udn h) (by rw [List.length_append];exact Ur0 _) List.getElem?_concat_length
theorem Udk{r i m:Nat}{vs:List V}{v:V}(h:O.get r i=some (.list vs))(hm:m < vs.length):setItemV (.ref r i) (.int m) v O=some ((),O.put r i (.list (vs.set m v))) :=
 (ob_of (Ufi h)).trans (ob_of (f:=fun m=>some ((),O.put r i (.list (vs.set m v)))) (z:=none) ((if_pos (Int.natCast_nonneg _)).trans (if_pos hm)))
theorem DR.last(h:DR O dr)(e:dr.attrs=init++[a])(hi:a'.i=a.i):DR (O.put 5 a.i (.list [.str a'.n,.str a'.v,.bool a'.k])) { dr with attrs:=init++[a'] }:=by
 have hm:a ∈ dr.attrs:=by rw [e];simp
 have h5:=h.each a hm;have hnd:=h.nd;rw [e,List.map_append,List.nodup_append] at hnd;have emap:(init++[a']).map (fun a=>V.ref 5 a.i)=dr.attrs.map (fun a=>V.ref 5 a.i):=by rw [e];simp [hi]
 have emap2:(init++[a']).map (·.i)=dr.attrs.map (·.i):=by rw [e];simp [hi]
 refine ⟨Ufu h5 h.obj (.inl (by decide)),?_,fun b hb=>?_,by show ((init++[a']).map (·.i)).Nodup;rw [emap2];exact h.nd⟩
 ·show _=some (Ob.list ((init++[a']).map fun a=>V.ref 5 a.i));rw [emap];exact Ufu h5 h.al (.inl (by decide))
 ·rcases List.mem_append.mp hb with hb | hb
  ·have hne:b.i≠a.i:=fun q=>hnd.2.2 b.i (List.mem_map.mpr ⟨b,hb,rfl⟩) a.i (by simp) q;exact Ufu h5 (h.each b (by rw [e];exact List.mem_append_left _ hb)) (.inr hne)
  ·rw [List.mem_singleton] at hb;subst hb;rw [hi];exact Uae h5
theorem Um9(h:DR O dr)(e:dr.attrs=init++[a]):itemV (.ref 4 dr.al) (.int (-1)) O=some (.ref 5 a.i)/\O.get 5 a.i=some (.list [.str a.n,.str a.v,.bool a.k]):=by
 have hm:a ∈ dr.attrs:=by rw [e];simp
 refine ⟨Ukn (vs:=init.map fun a=>.ref 5 a.i) (by rw [h.al,e];simp),h.each a hm⟩
theorem add_str{x y:Str}(h:x.length+y.length<=lim):binV .Add (.str x) (.str y) O=some (.str (x++y)):=by
 show (if x.length+y.length<=lim then some (V.str (x++y)) else none)=_;exact if_pos h
theorem Ufc(h:DR O dr)(e:dr.attrs=init++[a])(s:Str)(hl:a.n.length+s.length<=lim):Run (callK (P p) (d+1) a_Draft_add_name [.ref 0 dr.i,.str s]) O fun v O' =>
  v=.none/\DR O' { dr with attrs:=init++[{ a with n:=a.n++s }] }/\Dx O O':=by
 rw [Ufp];show RF _ O _;delta F_Draft_add_name;refine xAA (Um9 h e) fun i1 i2=>?_;exact RF.b (Ub3 h) (RF.l i1 (RF.l (itemL (k:=0) i2 rfl) (RF.l (add_str hl) (RF.b (Udk (m:=0) i2 (by simp)) (RF.n ⟨rfl,h.last (a':={ a with n:=a.n++s }) e rfl,Dx.put (by simp)⟩)))))
theorem Uhn(h:DR O dr)(e:dr.attrs=init++[a])(s:Str)(hl:a.v.length+s.length<=lim):Run (callK (P p) (d+1) a_Draft_add_value [.ref 0 dr.i,.str s]) O fun v O' =>
  v=.none/\DR O' { dr with attrs:=init++[{ a with v:=a.v++s }] }/\Dx O O':=by
 rw [Uei];show RF _ O _;delta F_Draft_add_value;refine xAA (Um9 h e) fun i1 i2=>?_;exact RF.b (Ub3 h) (RF.l i1 (RF.l (itemL (k:=1) i2 rfl) (RF.l (add_str hl) (RF.b (Udk (m:=1) i2 (by simp)) (RF.n ⟨rfl,h.last (a':={ a with v:=a.v++s }) e rfl,Dx.put (by simp)⟩)))))
theorem Ug2(h:DR O dr)(hlen:O.length=24)(hl:dr.attrs.length < lim):Run (callK (P p) (d+1) a_Draft_begin_attr [.ref 0 dr.i]) O fun v O' =>
  v=.none/\(∃ i,DR O' { dr with attrs:=dr.attrs++[⟨i,"","",true⟩] })/\Dx O O':=by
 rw [Uec];show RF _ O _;delta F_Draft_begin_attr;refine xEA (reg_of hlen (by decide:5 < 24)) fun l h5=>?_;have hn:newL 5 [.str "",.str "",.bool true] O=some (.ref 5 l.length,O.add 5 (.list [.str "",.str "",.bool true])):=by delta newL;rw [h5]
 have al1:=Ubg (o:=.list [.str "",.str "",.bool true]) h5 h.al;have new1:=Ua1 (o:=.list [.str "",.str "",.bool true]) h5;refine RF.b (Ub3 h) (RF.app h.al (RF.b hn (RF.b (Uag al1 (by rw [List.length_map];exact hl)) (RF.n ⟨rfl,⟨l.length,?_⟩,(Dx.add (by simp)).trans (Dx.put (by simp))⟩))));refine ⟨Ufu al1 (Ubg h5 h.obj) (.inl (by decide)),?_,fun b hb=>?_,?_⟩
 ·show _=some (Ob.list ((dr.attrs++[(⟨l.length,"","",true⟩:At)]).map fun a=>V.ref 5 a.i));rw [List.map_append];exact Uae al1
 ·rcases List.mem_append.mp hb with hb | hb
  ·exact Ufu al1 (Ubg h5 (h.each b hb)) (.inl (by decide))
  ·rw [List.mem_singleton] at hb;subst hb;exact Ufu al1 new1 (.inl (by decide))
 ·show ((dr.attrs++[(⟨l.length,"","",true⟩:At)]).map (·.i)).Nodup;rw [List.map_append,List.nodup_append];refine ⟨h.nd,by simp,fun x hx y hy=>?_⟩;simp only [List.map_cons,List.map_nil,List.mem_singleton] at hy;subst hy;refine xEAA (List.mem_map.mp hx) fun b hb qz1=>?_;subst qz1;intro q;have:=h.each b hb;rw [q,Store.get_end h5] at this;cases this
noncomputable def told(init:List At)(a:At):Bool:=init.any fun b=>b.k&&b.n==a.n
theorem Uq3{b:Int}(h:b.natAbs<=lim):builtinV .range [.int b] O=some (.rng 0 b 1,O):=by
 exact bi_of (if_pos h)
theorem Unf{n k:Nat}:drawV (.rng 0 (n:Int) 1) k O=some (if k < n then some (.int (k:Int)) else none):=by
 show (if (0:Int) < 1 then some (if (0:Int)+(k:Int)*1 < n then some (V.int (0+(k:Int)*1)) else none) else none)=_;rw [if_pos (by decide)];have e:(0:Int)+(k:Int)*1=k:=by omega
 rw [e]
 by_cases h:k < n
 ·rw [if_pos h,if_pos (om51 h)]
 ·rw [if_neg h,if_neg (om52 h)]
theorem Ugx(h:DR O dr)(e:dr.attrs=init++[a])(hl:init.length < 5000):Run (callK (P p) (d+1) a_Draft_check_attr [.ref 0 dr.i]) O fun v O' =>
  v=.bool (!told init a)/\DR O' { dr with attrs:=init++[{ a with k:=if told init a then false else a.k }] }/\Dx O O':=by
 rw [Ueb];show RF _ O _;delta F_Draft_check_attr;refine xAA (Um9 h e) fun i1 i2=>?_;have hlen:(dr.attrs.map fun a=>V.ref 5 a.i).length=init.length+1:=by rw [List.length_map,e,List.length_append];rfl
 refine RF.b (Ub3 h) (RF.l i1 (RF.b (Ub3 h) (RF.b (len_list h.al) (RF.l rfl ?_))));have e1:((dr.attrs.map fun a=>V.ref 5 a.i).length:Int) - 1=(init.length:Int):=by rw [hlen];exact Int.sub_eq_iff_eq_add.mpr rfl
 rw [e1];refine RF.b (Uq3 (by delta lim;exact Nat.le_of_lt (Nat.lt_of_lt_of_le hl (by decide)))) ?_;refine forRun (fun k fr s=>s=O/\(init.take k).any (fun b=>b.k&&b.n==a.n)=false/\(fr=[(Qe,.ref 0 dr.i),(Qi,.ref 5 a.i)]\/∃ v,fr=[(Qe,.ref 0 dr.i),(Qi,.ref 5 a.i),(Qci,v)]))
  ((List.range init.length).map fun (k:Nat)=>.int (k:Int)) ⟨rfl,rfl,.inl rfl⟩ (by simpa using hl) (fun k v fr s hv hI=>?_) (fun fr s hI=>?_) fun fr s hI=>?_
 ·refine xAAA hI fun qz1 hno hfr=>?_;subst qz1;have hk:k < init.length:=by
   have:=(List.getElem?_eq_some_iff.mp hv).1
   simpa using this
  rw [List.getElem?_map,List.getElem?_range hk] at hv;cases hv;have fr1:setL (sc_Draft_check_attr p) Qci (.int (k:Int)) fr=ret [(Qe,.ref 0 dr.i),(Qi,.ref 5 a.i),(Qci,.int (k:Int))]:=by
   rw [Ubi (by kernel_rfl)];rcases hfr with rfl | ⟨v,rfl⟩ <;> kernel_rfl
  refine ⟨by rw [Unf,if_pos hk],_,fr1,?_⟩;rw [Ubu];delta T_Draft_check_attr_l0_0;have hb:init[k] ∈ dr.attrs:=by rw [e];exact List.mem_append_left _ (List.getElem_mem hk)
  have ek:(dr.attrs.map fun a=>V.ref 5 a.i)[k]?=some (.ref 5 init[k].i):=by
   rw [List.getElem?_map,e,List.getElem?_append_left hk,List.getElem?_eq_getElem hk];rfl
  have e5:=h.each _ hb;have tk:(init.take (k+1)).any (fun b=>b.k&&b.n==a.n)=(init[k].k&&init[k].n==a.n):=by
   rw [List.take_succ_eq_append_getElem hk,List.any_append,hno];simp
  have no:∀ {x:Bool},(init[k].k&&init[k].n==a.n)=x->(init.take (k+1)).any (fun b=>b.k&&b.n==a.n)=x:=fun q=>tk.trans q;refine Run.b (Ub3 h) (Run.l (itemL h.al ek) (Run.l (itemL (k:=2) e5 rfl) ?_));show Run (cond init[k].k _ _) s _;cases hkk:init[k].k with
  | false=>exact Run.next (.inl ⟨_,rfl,rfl,no (by rw [hkk];rfl),.inr ⟨_,rfl⟩⟩)
  | true =>
   show Run (bnd (attrV (P p) (.ref 0 dr.i) Qbb) _) s _;refine Run.b (Ub3 h) (Run.l (itemL h.al ek) (Run.l (itemL (k:=0) e5 rfl) (Run.l (itemL (k:=0) i2 rfl) (Run.l rfl ?_))));show Run (cond (init[k].n==a.n) _ _) s _;cases hn:init[k].n==a.n with
   | false=>exact Run.next (.inl ⟨_,rfl,rfl,no (by rw [hkk,hn];rfl),.inr ⟨_,rfl⟩⟩)
   | true =>
    have ht:told init a=true:=by
     delta told;rw [List.any_eq_true];exact ⟨init[k],List.getElem_mem hk,by rw [hkk,hn];rfl⟩
    refine Run.b (Udk (m:=2) i2 (by simp)) ⟨_,_,rfl,.inr ⟨_,rfl,by rw [ht];rfl,?_,Dx.put (by simp)⟩⟩;have:=h.last (a':={ a with k:=false }) e rfl;rw [ht];exact this
 ·rw [Unf];simp
 ·refine xAAA hI fun qz1 hno hfr=>?_;subst qz1;rw [List.length_map,List.length_range,List.take_length] at hno;have ht:told init a=false:=hno;have hs:({ dr with attrs:=init++[{ a with k:=if told init a then false else a.k }] }:Dr)=dr:=by
   rw [ht];simp only [Bool.false_eq_true,if_false];rw [<- e]
  rcases hfr with rfl | ⟨v,rfl⟩
  ·rw [Ub7];exact RF.r ⟨by rw [ht];rfl,by rw [hs];exact h,Dx.rfl⟩
  ·rw [Ub2];exact RF.r ⟨by rw [ht];rfl,by rw [hs];exact h,Dx.rfl⟩
end
structure PA where
 n:Str
 v:Str
 k:Bool
structure PD where
 kind:Str
 name:Str
 closing:Bool
 attrs:List PA
structure PS where
 pos:Int
 state:Str
 back:Str
 last:Str
 out:List V
 errs:List V
 draft:Option PD
 done:Bool
 signs:List Str
 closed:Bool
 isret:Bool
 serr:List V
noncomputable def At.pl(a:At):PA:=⟨a.n,a.v,a.k⟩
noncomputable def Dr.pl(d:Dr):PD:=⟨d.kind,d.name,d.closing,d.attrs.map At.pl⟩
noncomputable def TS.pl(t:TS):PS:=⟨t.pos,t.state,t.back,t.last,t.out,t.errs,t.draft.map Dr.pl,t.done,t.signs,t.closed,t.isret,t.serr⟩
noncomputable def TP(O:Store)(U:Rf)(s:PS):Prop:=∃ t,TR O U t/\t.waiting=false/\t.pl=s
noncomputable def PS.cur(s:PS):Str:=if s.pos < s.signs.length then s.signs.getD s.pos.toNat "" else ""
noncomputable def PS.nxt(s:PS):PS:={ s with pos:=s.pos+1 }
noncomputable def PS.to(s:PS)(x:Str):PS:={ s with state:=x }
noncomputable def PS.again(s:PS)(x:Str):PS:={ s with pos:=s.pos - 1,state:=x }
noncomputable def PS.error(s:PS)(x:Str):PS:={ s with errs:=s.errs++[errV x (s.pos - 1)] }
noncomputable def PS.put(s:PS)(v:V):PS:={ s with out:=s.out++[v] }
noncomputable def PS.eof(s:PS):PS:={ s.put eofV with done:=true }
noncomputable def kept(as:List PA):List V:=(as.filter (·.k)).map fun a=>.tup [.str a.n,.str a.v]
noncomputable def PD.tok(d:PD):V:=if d.kind=="comment" then .tup [.str "comment",.str ""] else .tup [.str d.kind,.str d.name,.tup (kept d.attrs),.bool d.closing]
noncomputable def PS.emitDraft(s:PS):PS:=match s.draft with
 | none=>s
 | some d =>
  let e1:=if d.kind=="end"&&0 < d.attrs.length then s.errs++[errV "end-tag-with-attributes" (s.pos - 1)] else s.errs
  let e2:=if d.kind=="end"&&d.closing then e1++[errV "end-tag-with-trailing-solidus" (s.pos - 1)] else e1
  { s with errs:=e2,draft:=none,last:=if d.kind=="start" then d.name else s.last,out:=s.out++[d.tok] }
noncomputable def PS.setDraft(s:PS)(d:PD):PS:={ s with draft:=some d }
section
variable {p:Params}{O O' O₁:Store}{U:Rf}{s:PS}{n d:Nat}{D:PD}{init:List PA}{a:PA}{Q:V->Store->Prop}{k:V->M Fl}
theorem Utt(as:List At):kept (as.map At.pl)=keptV as:=by
 delta kept keptV;rw [List.filter_map,List.map_map];rfl
theorem tok_eq(d:Dr):d.pl.tok=d.tok:=by
 delta PD.tok Dr.tok;show (if d.kind=="comment" then _ else V.tup [.str d.kind,.str d.name,.tup (kept (d.attrs.map At.pl)),.bool d.closing])=_;rw [Utt]
theorem Ude{as:List At}{init:List PA}{a:PA}(h:as.map At.pl=init++[a]):∃ i' a',as=i'++[a']/\i'.map At.pl=init/\a'.pl=a:=by
 obtain ⟨x,y,rfl,hx,hy⟩:=List.map_eq_append_iff.mp h;obtain ⟨z,rfl,hz⟩:=List.map_eq_singleton_iff.mp hy;exact ⟨x,z,rfl,hx,hz⟩
theorem RF.next(h:TP O U s)(h0:0<=s.pos)(g:∀ O',TP O' U s.nxt->Fx O O'->RF (k (.str s.cur)) O' Q) :
  RF (bnd (look (methK (P p) (.ref 2 U.i) Qbd)) fun m=>if isRepl m then fail else bnd (methodV (callK (P p) (d+1)) m (.ref 2 U.i) []) k) O Q:=by
 obtain ⟨t,h,hw,rfl⟩:=h;refine RF.mk (Utg h) (RF.c (Ure h h0) fun v O' ⟨e,h',f⟩=>?_);subst e;exact g O' ⟨_,h',hw,rfl⟩ f
theorem RF.to{x:Str}(h:TP O U s)(g:∀ O',TP O' U (s.to x)->Fx O O'->RF (k .none) O' Q) :
  RF (bnd (look (methK (P p) (.ref 2 U.i) Qam)) fun m=>if isRepl m then fail else bnd (methodV (callK (P p) (d+1)) m (.ref 2 U.i) [.str x]) k) O Q:=by
 obtain ⟨t,h,hw,rfl⟩:=h;refine RF.mk (mt_to h) (RF.c (to_run h x) fun v O' ⟨e,h',f⟩=>?_);subst e;exact g O' ⟨_,h',hw,rfl⟩ f
theorem RF.again{x:Str}(h:TP O U s)(g:∀ O',TP O' U (s.again x)->Fx O O'->RF (k .none) O' Q) :
  RF (bnd (look (methK (P p) (.ref 2 U.i) Qax)) fun m=>if isRepl m then fail else bnd (methodV (callK (P p) (d+1)) m (.ref 2 U.i) [.str x]) k) O Q:=by
 obtain ⟨t,h,hw,rfl⟩:=h;refine RF.mk (Uru h) (RF.c (Unz h x) fun v O' ⟨e,h',f⟩=>?_);subst e;exact g O' ⟨_,h',hw,rfl⟩ f
theorem RF.error{x:Str}(h:TP O U s)(hl:s.errs.length < lim)(g:∀ O',TP O' U (s.error x)->Fx O O'->RF (k .none) O' Q) :
  RF (bnd (look (methK (P p) (.ref 2 U.i) Qai)) fun m=>if isRepl m then fail else bnd (methodV (callK (P p) (d+1)) m (.ref 2 U.i) [.str x]) k) O Q:=by
 obtain ⟨t,h,hw,rfl⟩:=h;refine RF.mk (Uin h) (RF.c (Ugy h x hl) fun v O' ⟨e,h',f⟩=>?_);subst e;exact g O' ⟨_,h',hw,rfl⟩ f
theorem RF.emit_sign{x:Str}(h:TP O U s)(hl:s.out.length < lim)(g:∀ O',TP O' U (s.put (chV x))->Fx O O'->RF (k .none) O' Q) :
  RF (bnd (look (methK (P p) (.ref 2 U.i) Qdi)) fun m=>if isRepl m then fail else bnd (methodV (callK (P p) (d+1)) m (.ref 2 U.i) [.str x]) k) O Q:=by
 obtain ⟨t,h,hw,rfl⟩:=h;refine RF.mk (Ui9 h) (RF.c (Uhy h x hl) fun v O' ⟨e,h',f⟩=>?_);subst e;exact g O' ⟨_,h',hw,rfl⟩ f
theorem RF.emit_eof(h:TP O U s)(hl:s.out.length < lim)(g:∀ O',TP O' U s.eof->Fx O O'->RF (k .none) O' Q) :
  RF (bnd (look (methK (P p) (.ref 2 U.i) Qca)) fun m=>if isRepl m then fail else bnd (methodV (callK (P p) (d+1)) m (.ref 2 U.i) []) k) O Q:=by
 obtain ⟨t,h,hw,rfl⟩:=h;refine RF.mk (Uk3 h) (RF.c (Uij h hl) fun v O' ⟨e,h',f⟩=>?_);subst e;exact g O' ⟨_,h',hw,rfl⟩ f
theorem RF.add_name{x:Str}(h:TP O U s)(hd:s.draft=some D)(ha:D.attrs=init++[a])(hl:a.n.length+x.length<=lim)(g:∀ O',TP O' U (s.setDraft { D with attrs:=init++[{ a with n:=a.n++x }] })->Fx O O'->RF (k .none) O' Q) :
  RF (bnd (attrV (P p) (.ref 2 U.i) Qp) fun o=>bnd (look (methK (P p) o Qcl)) fun m=>if isRepl m then fail else bnd (methodV (callK (P p) (d+1)) m o [.str x]) k) O Q:=by
 obtain ⟨t,h,hw,rfl⟩:=h;obtain ⟨dr,hdr,rfl⟩:=Option.map_eq_some_iff.mp hd;obtain ⟨i',a',e,rfl,rfl⟩:=Ude ha;refine RF.b (Ubk h) ?_;rw [hdr];have hD:=h.dr dr hdr;refine RF.mk (Uga hD) (RF.c (Ufc hD e x hl) fun v O' ⟨ev,h',f⟩=>?_);subst ev;refine g O' ⟨{ t with draft:=some { dr with attrs:=i'++[{ a' with n:=a'.n++x }] } },h.dx f rfl (by rw [hdr];rfl) (fun d e=>by cases e;exact h'),hw,?_⟩ f.fx;simp [TS.pl,PS.setDraft,Dr.pl,At.pl]
theorem RF.add_value{x:Str}(h:TP O U s)(hd:s.draft=some D)(ha:D.attrs=init++[a])(hl:a.v.length+x.length<=lim)(g:∀ O',TP O' U (s.setDraft { D with attrs:=init++[{ a with v:=a.v++x }] })->Fx O O'->RF (k .none) O' Q) :
  RF (bnd (attrV (P p) (.ref 2 U.i) Qp) fun o=>bnd (look (methK (P p) o Qcm)) fun m=>if isRepl m then fail else bnd (methodV (callK (P p) (d+1)) m o [.str x]) k) O Q:=by
 obtain ⟨t,h,hw,rfl⟩:=h;obtain ⟨dr,hdr,rfl⟩:=Option.map_eq_some_iff.mp hd;obtain ⟨i',a',e,rfl,rfl⟩:=Ude ha;refine RF.b (Ubk h) ?_;rw [hdr];have hD:=h.dr dr hdr;refine RF.mk (Ujg hD) (RF.c (Uhn hD e x hl) fun v O' ⟨ev,h',f⟩=>?_);subst ev;refine g O' ⟨{ t with draft:=some { dr with attrs:=i'++[{ a' with v:=a'.v++x }] } },h.dx f rfl (by rw [hdr];rfl) (fun d e=>by cases e;exact h'),hw,?_⟩ f.fx;simp [TS.pl,PS.setDraft,Dr.pl,At.pl]
theorem RF.begin_attr(h:TP O U s)(hd:s.draft=some D)(hl:D.attrs.length < lim)(g:∀ O',TP O' U (s.setDraft { D with attrs:=D.attrs++[⟨"","",true⟩] })->Fx O O'->RF (k .none) O' Q) :
  RF (bnd (attrV (P p) (.ref 2 U.i) Qp) fun o=>bnd (look (methK (P p) o Qcw)) fun m=>if isRepl m then fail else bnd (methodV (callK (P p) (d+1)) m o []) k) O Q:=by
 obtain ⟨t,h,hw,rfl⟩:=h;obtain ⟨dr,hdr,rfl⟩:=Option.map_eq_some_iff.mp hd;refine RF.b (Ubk h) ?_;rw [hdr];have hD:=h.dr dr hdr;refine RF.mk (Uhv hD) (RF.c (Ug2 hD h.len (by simpa [Dr.pl] using hl)) fun v O' ⟨ev,⟨i,h'⟩,f⟩=>?_);subst ev;refine g O' ⟨{ t with draft:=some { dr with attrs:=dr.attrs++[⟨i,"","",true⟩] } },h.dx f rfl (by rw [hdr];rfl) (fun d e=>by cases e;exact h'),hw,?_⟩ f.fx;simp [TS.pl,PS.setDraft,Dr.pl,At.pl]
noncomputable def toldP(init:List PA)(a:PA):Bool:=init.any fun b=>b.k&&b.n==a.n
theorem Utf(init:List At)(a:At):toldP (init.map At.pl) a.pl=told init a:=by delta toldP told;rw [List.any_map];rfl
theorem Uio(h:TP O U s)(hd:s.draft=some D)(ha:D.attrs=init++[a])(hl:init.length < 5000){c':CC}{k':V->M Fl}
  (g:∀ O',TP O' U (s.setDraft { D with attrs:=init++[{ a with k:=if toldP init a then false else a.k }] })->Fx O O'->RF (k (.bool (!toldP init a))) O' Q) :
  RF (bnd (attrV (P p) (.ref 2 U.i) Qp) fun o=>bnd (look (methK (P p) o Qdo)) fun m=>if isRepl m then fail else bnd (methodV (callK (P p) (d+1)) m o []) k) O Q:=by
 obtain ⟨t,h,hw,rfl⟩:=h;obtain ⟨dr,hdr,rfl⟩:=Option.map_eq_some_iff.mp hd;obtain ⟨i',a',e,rfl,rfl⟩:=Ude ha;refine RF.b (Ubk h) ?_;rw [hdr];have hD:=h.dr dr hdr;rw [Utf] at g;refine RF.mk (Uhh hD) (RF.c (Ugx hD e (by simpa using hl)) fun v O' qq=>xAAA qq fun ev h' f=>?_);subst ev;refine g O' ⟨{ t with draft:=some { dr with attrs:=i'++[{ a' with k:=if told i' a' then false else a'.k }] } },h.dx f rfl (by rw [hdr];rfl) (fun d e=>by cases e;exact h'),hw,?_⟩ f.fx;simp [TS.pl,PS.setDraft,Dr.pl,At.pl]
end
noncomputable def isBlank(c:Str):Bool:=["\x09","\x0a","\x0c"," "].any (·==c)
noncomputable def isUpper(c:Str):Bool:=if (!strLt c Qba)=true then !strLt Qbl c else false
noncomputable def isLower(c:Str):Bool:=if (!strLt c Qbh)=true then !strLt Qcc c else false
noncomputable def isLetter(c:Str):Bool:=isLower c||isUpper c
noncomputable def ch(n:Nat):Str:=⟨#[n]⟩
noncomputable def lowerS(c:Str):Str:=if isUpper c then ch (c.cps.getD 0 0+32) else c
section
variable {p:Params}{O O' O₁:Store}{U:Rf}{s:PS}{n d:Nat}{D:PD}{init:List PA}{a:PA}{Q:V->Store->Prop}{k:V->M Fl}{A B:M Fl}
theorem Umk(c:Str):callK (P p) (d+1) a_is_blank [.str c] O=some (.bool (isBlank c),O):=by
 rw [Ulq];rfl
theorem Ur4(c:Str):callK (P p) (d+1) a_is_upper [.str c] O=some (.bool (isUpper c),O):=by
 rw [Uly];delta F_is_upper isUpper;refine ba_of (a:=!strLt c Qba) (O₁:=O) rfl ?_;cases h:!strLt c Qba <;> rfl
theorem Uod(c:Str):callK (P p) (d+1) a_is_letter [.str c] O=some (.bool (isLetter c),O):=by
 rw [Uku];delta F_is_letter isLetter isLower isUpper;refine ba_of (a:=!strLt c Qbh) (O₁:=O) rfl ?_;have up:∀ b,bnd (bnd (look (cmpV .LtE (.str Qba) (.str c))) fun x3=>(if x3 then bnd (look (cmpV .LtE (.str c) (.str Qbl))) fun x4=>ret (Fl.ret (.bool x4)) else ret (.ret (.bool false)))) unFl O=some (.bool (b&&false||isUpper c),O):=by
  intro b;delta isUpper;refine ba_of (a:=!strLt c Qba) (O₁:=O) rfl ?_;cases h:!strLt c Qba <;> cases b <;> rfl
 cases h:!strLt c Qbh with
 | false=>exact up false
 | true =>
  simp only [reduceIte];refine ba_of (a:=!strLt Qcc c) (O₁:=O) rfl ?_;cases h2:!strLt Qcc c with
  | true=>rfl
  | false=>exact up true
theorem Umt(c:Str)(h:isUpper c=true->c.length=1/\c.cps.getD 0 0+32 < 0x110000):callK (P p) (d+2) a_lower [.str c] O=some (.str (lowerS c),O):=by
 rw [Uts];delta F_lower lowerS;refine ba_of (Ur4 c) ?_;cases hu:isUpper c with
 | false =>
  show bnd (J_lower_0 p _ _) unFl O=_;rw [Uid];rfl
 | true =>
  refine xAA (h hu) fun h1 h2=>?_;show bnd (bnd (builtinV .ord [.str c]) _) unFl O=_;refine ba_of (a:=.int (c.cps.getD 0 0:Nat)) (O₁:=O) (bi_of (n:=.ord) (args:=[.str c]) (v:=.int (c.cps.getD 0 0:Nat)) (if_pos h1)) ?_;refine ba_of (a:=.int ((c.cps.getD 0 0:Nat)+32)) (O₁:=O) rfl ?_;rw [Uam,bnd_of (a:=.str (ch (c.cps.getD 0 0+32))) (O₁:=O) ?_]
  ·rfl
  ·have e:(((c.cps.getD 0 0:Nat):Int)+32).toNat=c.cps.getD 0 0+32:=rfl;refine bi_of (n:=.chr) (args:=[.int ((c.cps.getD 0 0:Nat)+32)]) ?_;show (if (0:Int)<=((c.cps.getD 0 0:Nat):Int)+32/\((c.cps.getD 0 0:Nat):Int)+32 < 0x110000 then some (V.str ⟨#[(((c.cps.getD 0 0:Nat):Int)+32).toNat]⟩) else none)=_;rw [if_pos ⟨(Int.zero_le_ofNat _),(Int.lt_of_toNat_lt h2)⟩,e]
   rfl
theorem RF.eq{x y:Str}(g:(x==y)=true->RF A O Q)(g':(x==y)=false->RF B O Q):RF (bnd (look (cmpV .Eq (.str x) (.str y))) fun b=>if b then A else B) O Q:=by
 refine RF.l (a:=x==y) rfl ?_;cases h:x==y
 ·exact RF.neg Bool.false_ne_true (g' h)
 ·exact RF.pos rfl (g h)
theorem RF.blank{x:Str}{A B:V->M Fl}(g:isBlank x=true->RF (A (.bool true)) O Q)(g':isBlank x=false->RF (B (.bool false)) O Q) :
  RF (bnd (callK (P p) (d+1) a_is_blank [.str x]) fun v=>match isT v with
   | some b=>(if b then A v else B v)
   | none=>fail) O Q:=by
 refine RF.b (Umk x) ?_;show RF (if isBlank x=true then _ else _) O Q;cases h:isBlank x
 ·exact RF.neg Bool.false_ne_true (g' h)
 ·exact RF.pos rfl (g h)
theorem RF.letter{x:Str}{A B:V->M Fl}(g:isLetter x=true->RF (A (.bool true)) O Q)(g':isLetter x=false->RF (B (.bool false)) O Q) :
  RF (bnd (callK (P p) (d+1) a_is_letter [.str x]) fun v=>match isT v with
   | some b=>(if b then A v else B v)
   | none=>fail) O Q:=by
 refine RF.b (Uod x) ?_;show RF (if isLetter x=true then _ else _) O Q;cases h:isLetter x
 ·exact RF.neg Bool.false_ne_true (g' h)
 ·exact RF.pos rfl (g h)
theorem RF.mem{x:Str}{vs:List V}{l:List Str}(hl:strsOf vs=some l)(g:l.any (·==x)=true->RF A O Q)(g':l.any (·==x)=false->RF B O Q) :
  RF (bnd (look (cmpV .In (.str x) (.tup vs))) fun b=>if b then A else B) O Q:=by
 refine RF.l (a:=l.any (·==x)) (in_tup (O:=O) hl) ?_;cases h:l.any (·==x)
 ·exact RF.neg Bool.false_ne_true (g' h)
 ·exact RF.pos rfl (g h)
end
section
variable {p:Params}{O O' O₁:Store}{U:Rf}{t:TS}{s:PS}{n d:Nat}{D:PD}{dr:Dr}{init:List PA}{a:PA}{Q:V->Store->Prop}{k:V->M Fl}{A B:M Fl}
theorem Uh5(h:TR O U t)(hl:t.out.length+2 < lim):Run (callK (P p) (d+1) a_Tokenizer_emit_text [.ref 2 U.i,.str Qbx]) O fun v O'=>v=.none/\TR O' U ((t.put (chV Qan)).put (chV Qaj))/\Fx O O':=by
 rw [Ucv];show RF _ O _;delta F_Tokenizer_emit_text;refine forRun (fun k fr s=>TR s U { t with out:=t.out++([Qan,Y "/"].take k).map chV }/\Fx O s /\
   (fr=[(Qe,.ref 2 U.i),(Qc,.str Qbx)]\/∃ v,fr=[(Qe,.ref 2 U.i),(Qc,.str Qbx),(Qg,v)]))
  [.str Qan,.str Qaj] ⟨by simpa using h,Fx.rfl,.inl rfl⟩ (by decide) (fun k v fr s hv hI=>?_) (fun fr s hI=>?_) fun fr s hI=>?_
 ·refine xAAA hI fun hT hX hfr=>?_;have hk:drawV (.str Qbx) k s=some (some v)/\∃ x:Str,v=.str x/\([Qan,Y "/"].take (k+1))=([Qan,Y "/"].take k)++[x]:=by
   match k,hv with
   | 0,hv=>cases hv;exact ⟨Ue9 (c:=60) rfl,_,rfl,rfl⟩
   | 1,hv=>cases hv;exact ⟨Ue9 (c:=47) rfl,_,rfl,rfl⟩
   | k+2,hv=>cases hv
  refine xAEAA hk fun hd x qz1 hx=>?_;subst qz1;refine ⟨hd,[(Qe,.ref 2 U.i),(Qc,.str Qbx),(Qg,.str x)],?_,?_⟩
  ·rw [Ubi (by kernel_rfl)];rcases hfr with rfl | ⟨v,rfl⟩ <;> kernel_rfl
  ·rw [Ubb];delta T_Tokenizer_emit_text_l0_0;have hll:(t.out++([Qan,Y "/"].take k).map chV).length < lim:=by
    rw [List.length_append,List.length_map];have h2:([Qan,Y "/"].take k).length<=2:=List.length_take_le' k [Qan,Y "/"];exact Nat.lt_of_le_of_lt (Nat.add_le_add_left h2 _) hl
   refine xAA (hT.setOut (l:=(t.out++([Qan,Y "/"].take k).map chV)++[chV x])) fun h1 f1=>?_;refine Run.b (ga_out hT) (Run.app hT.out (Run.b (Uag hT.out hll) (Run.next (.inl ⟨_,rfl,?_,hX.trans f1,.inr ⟨_,rfl⟩⟩))));rw [hx,List.map_append,<- List.append_assoc];exact h1
 ·exact Ugl (Nat.le_refl _)
 ·refine xAAA hI fun hT hX hfr=>?_;have e:(t.out++([Qan,Y "/"].take 2).map chV)=(t.out++[chV Qan])++[chV Qaj]:=by simp
  have fin:TR s U ((t.put (chV Qan)).put (chV Qaj)):=by delta TS.put;rw [<- e];exact hT
  rcases hfr with rfl | ⟨v,rfl⟩
  ·rw [Ubn];exact RF.n ⟨rfl,fin,hX⟩
  ·rw [Ubm];exact RF.n ⟨rfl,fin,hX⟩
noncomputable def TS.emitD(t:TS)(dr:Dr):TS:={ t with draft:=none,last:=if dr.kind=="start" then dr.name else t.last,out:=t.out++[dr.tok] }
theorem Ugw(h:TR O U t)(hd:t.draft=some dr)(hk:dr.kind="start"\/dr.kind="end")(ho:t.out.length < lim)(hl:dr.attrs.length < 5000) :
  RF (J_Tokenizer_emit_draft_0 p (callK (P p) (d+1)) [(Qe,.ref 2 U.i),(Qp,.ref 0 dr.i)]) O fun v O'=>v=.none/\TR O' U (t.emitD dr)/\Fx O O':=by
 rw [Ubl];delta J_Tokenizer_emit_draft_0_T0;have hD:=h.dr dr hd;have e1:setAttrV (P p) (.ref 2 U.i) Qp .none O=_:=Uaj (es':=tokEs U { t with draft:=none }) h.tok (by kernel_rfl) (by show 14 < 100;decide) (by kernel_rfl);have h1:=h.setTok (t':={ t with draft:=none }) rfl rfl rfl rfl rfl rfl (fun d e=>by cases e);have hD1:DR (O.put 2 U.i (.inst c_Tokenizer (tokEs U { t with draft:=none }))) dr:=hD.put h.tok ⟨by decide,by decide,by decide⟩;refine RF.b e1 (RF.mk (Us1 h1) (RF.mk (Ul0 hD1) (RF.c (Uj0 hD1 h1.len (by rcases hk with e | e <;> rw [e] <;> decide) hl) fun v O2 qq=>xAAA qq fun ev h2 x2=>?_)));subst ev;have et:dr.tok=.tup (.str dr.kind::.str dr.name::[.tup (keptV dr.attrs),.bool dr.closing]):=by
  delta Dr.tok;rw [if_neg (by rcases hk with e | e <;> rw [e] <;> decide)]
 have hT2:TR O2 U { t with draft:=none }:=h1.dx x2 rfl rfl (fun d e=>by cases e);rw [et];refine RF.c (Uqj hT2 dr.kind dr.name _ ho) fun v O3 qq=>xAAA qq fun ev h3 x3=>?_;subst ev;refine RF.n ⟨rfl,?_,(Fx.put (by decide)).trans (x2.fx.trans x3)⟩;delta TS.emitD;rw [et];exact h3
theorem Unq(h:TR O U t)(hd:t.draft=some dr)(hk:dr.kind="start"\/dr.kind="end")(ho:t.out.length < lim)(he:t.errs.length < lim)(hl:dr.attrs.length < 5000) :
  RF (J_Tokenizer_emit_draft_1 p (callK (P p) (d+1)) [(Qe,.ref 2 U.i),(Qp,.ref 0 dr.i)]) O fun v O'=>v=.none/\TR O' U ((if dr.closing then t.error "end-tag-with-trailing-solidus" else t).emitD dr)/\Fx O O':=by
 rw [Ubh];delta J_Tokenizer_emit_draft_1_T0;refine RF.b (Ueg (h.dr dr hd)) ?_;show RF (if dr.closing=true then _ else _) O _;cases hc:dr.closing
 ·exact RF.neg Bool.false_ne_true (Ugw h hd hk ho hl)
 ·refine RF.pos rfl (RF.mk (Uin h) (RF.c (Ugy h _ he) fun v O2 qq=>xAAA qq fun ev h2 x2=>?_));subst ev;exact (Ugw h2 hd hk ho hl).mono fun v s qq=>xAAA qq fun e h' x'=>⟨e,h',x2.trans x'⟩
theorem Ur1(t:TS)(dr:Dr):(t.emitD dr).pl={ t.pl with draft:=none,last:=if dr.kind=="start" then dr.name else t.last,out:=t.out++[dr.pl.tok] }:=by rw [tok_eq];rfl
noncomputable def dErrs(s:PS)(d:PD):List V :=
 let e1:=if d.kind=="end"&&0 < d.attrs.length then s.errs++[errV "end-tag-with-attributes" (s.pos - 1)] else s.errs
 if d.kind=="end"&&d.closing then e1++[errV "end-tag-with-trailing-solidus" (s.pos - 1)] else e1
theorem Uja{s:PS}{d:PD}{e:List V}(h:s.draft=some d)(he:dErrs s d=e):s.emitDraft={ s with errs:=e,draft:=none,last:=if d.kind=="start" then d.name else s.last,out:=s.out++[d.tok] }:=by
 delta PS.emitDraft;rw [h,<- he];rfl
theorem Umb{t u:TS}{dr:Dr}{e:List V}(h:t.draft=some dr)(hu:u.pl={ t.pl with errs:=e })(ul:u.last=t.last)(uo:u.out=t.out)(he:dErrs t.pl dr.pl=e):(u.emitD dr).pl=t.pl.emitDraft:=by
 rw [Ur1,Uja (d:=dr.pl) (by show t.draft.map Dr.pl=_;rw [h];rfl) he,hu,ul,uo];rfl
theorem Usr{s:PS}{d:PD}(h:(d.kind=="end")=true)(n:0 < d.attrs.length):dErrs s d=if d.closing=true then (s.errs++[errV "end-tag-with-attributes" (s.pos - 1)])++[errV "end-tag-with-trailing-solidus" (s.pos - 1)] else s.errs++[errV "end-tag-with-attributes" (s.pos - 1)]:=by
 delta dErrs;rw [h,decide_eq_true n];rfl
theorem Utw{s:PS}{d:PD}(h:(d.kind=="end")=true)(n:¬ 0 < d.attrs.length):dErrs s d=if d.closing=true then s.errs++[errV "end-tag-with-trailing-solidus" (s.pos - 1)] else s.errs:=by
 delta dErrs;rw [h,decide_eq_false n];rfl
theorem Usv{s:PS}{d:PD}(h:(d.kind=="end")=false):dErrs s d=s.errs:=by
 delta dErrs;rw [h];rfl
theorem Ugj(h:TR O U t)(hd:t.draft=some dr)(hk:dr.kind="start"\/dr.kind="end")(ho:t.out.length < lim)(he:t.errs.length+1 < lim)(hl:dr.attrs.length < 5000) :
  Run (callK (P p) (d+2) a_Tokenizer_emit_draft [.ref 2 U.i]) O fun v O'=>v=.none/\(∃ t',TR O' U t'/\t'.waiting=t.waiting/\t'.pl=t.pl.emitDraft)/\Fx O O':=by
 rw [Ucj];show RF _ O _;delta F_Tokenizer_emit_draft;have hD:=h.dr dr hd;have pd:t.pl.draft=some dr.pl:=by simp [TS.pl,hd]
 refine RF.b (Ubk h) ?_;rw [hd];refine RF.b (Ujv hD) (RF.eq (fun hkk=>?_) fun hkk=>?_)
 ·refine RF.b (Ub3 hD) (RF.b (len_list hD.al) ?_);rw [List.length_map];refine RF.l (a:=decide ((0:Int) < dr.attrs.length)) rfl ?_
  by_cases hn:0 < dr.attrs.length
  ·refine RF.pos (by simpa using hn) (RF.mk (Uin h) (RF.c (Ugy h _ (om5 he)) fun v O2 qq=>xAAA qq fun ev h2 x2=>?_));subst ev;refine (Unq h2 hd hk ho (by simp [TS.error];exact om42 he) hl).mono fun v s qq=>xAAA qq fun e h' x'=>⟨e,⟨_,h',by delta TS.emitD;split <;> rfl,?_⟩,x2.trans x'⟩
   refine Umb hd (e:=dErrs t.pl dr.pl) ?_ (by split <;> rfl) (by split <;> rfl) rfl;rw [Usr (d:=dr.pl) hkk (by rw [show dr.pl.attrs.length=dr.attrs.length from List.length_map _];exact hn)];rw [show dr.pl.closing=dr.closing from rfl];split <;> rfl
  ·refine RF.neg (by simpa using hn) ((Unq h hd hk ho (om5 he) hl).mono fun v s qq=>xAAA qq fun e h' x'=>⟨e,⟨_,h',by delta TS.emitD;split <;> rfl,?_⟩,x'⟩);refine Umb hd (e:=dErrs t.pl dr.pl) ?_ (by split <;> rfl) (by split <;> rfl) rfl;rw [Utw (d:=dr.pl) hkk (by rw [show dr.pl.attrs.length=dr.attrs.length from List.length_map _];exact hn)];rw [show dr.pl.closing=dr.closing from rfl];split <;> rfl
 ·refine (Ugw h hd hk ho hl).mono fun v s qq=>xAAA qq fun e h' x'=>⟨e,⟨_,h',rfl,?_⟩,x'⟩
  exact Umb hd rfl rfl rfl (Usv (d:=dr.pl) hkk)
end
noncomputable def clsReg(a:Addr):Option (Nat×Addr):=match lkN a clsL with
 | some k=>some (k.region,k.init)
 | none=>none
section
variable {p:Params}{O O' O₁:Store}{U:Rf}{t:TS}{s:PS}{n d:Nat}{D:PD}{dr:Dr}{init:List PA}{a:PA}{Q:V->Store->Prop}{k:V->M Fl}{A B:M Fl}
theorem new_of{c:CC}{a f:Addr}{r:Nat}{args:List V}{l:List Ob}{R:Store->Prop}(hk:clsReg a=some (r,f))(hl:O[r]?=some l)
  (h:Run (c f (.ref r l.length::args)) (O.add r (.inst a [])) fun v O'=>v=.none/\R O'):Run (applyV (P p) c (.fn a) args) O fun v O'=>v=.ref r l.length/\R O':=by
 refine xEEAAA h fun v O1 e qz1 hR=>?_;subst qz1;refine ⟨.ref r l.length,O1,?_,rfl,hR⟩;delta applyV;delta clsReg at hk;have hc:(P p).clss=clsL:=rfl;dsimp only;rw [hc];cases q:lkN a clsL with
 | none=>rw [q] at hk;cases hk
 | some k =>
  rw [q] at hk;cases hk;dsimp only;rw [hl];skip;refine b_of e ?_
  rfl
theorem RF.sg{r i:Nat}{C:Addr}{es:List (Str×V)}{x:Str}{v:V}{k:Unit->M Fl}(h:O.get r i=some (.inst C es))(hx:clsHas C x=true)(hl:Nat.ble (es.length+1) 100=true)
  (g:(O.put r i (.inst C (setK x v es))).get r i=some (.inst C (setK x v es))->RF (k ()) (O.put r i (.inst C (setK x v es))) Q):RF (bnd (setAttrV (P p) (.ref r i) x v) k) O Q :=
 RF.b (Uaj h hx (Nat.le_of_ble_eq_true hl) rfl) (g (Uae h))
theorem Uh0{r:Nat}{l:List Ob}{vs:List V}(h:O[r]?=some l):newL r vs O=some (.ref r l.length,O.add r (.list vs)):=by delta newL;rw [h]
theorem Ugv{i:Nat}(h0:O.get 0 i=some (.inst c_Draft []))(hlen:O.length=24)(kind:Str):Run (callK (P p) (d+1) a_Draft_init [.ref 0 i,.str kind,.str Qa]) O fun v O'=>v=.none/\(∃ al,DR O' ⟨i,kind,"",false,al,[]⟩)/\Dx O O':=by
 rw [Uit];show RF _ O _;delta F_Draft_init;refine RF.sg h0 (by kernel_rfl) (by kernel_rfl) fun h1=>RF.sg h1 (by kernel_rfl) (by kernel_rfl) fun h2=>RF.sg h2 (by kernel_rfl) (by kernel_rfl) fun h3=>RF.sg h3 (by kernel_rfl) (by kernel_rfl) fun h4 =>
  RF.sg h4 (by kernel_rfl) (by kernel_rfl) fun h5=>RF.sg h5 (by kernel_rfl) (by kernel_rfl) fun h6=>RF.sg h6 (by kernel_rfl) (by kernel_rfl) fun h7=>?_
 refine xEA (reg_of (r:=4) (O:=O) hlen (by decide)) fun l hl=>?_;refine RF.b (Uh0 (l:=l) (by repeat' first | exact hl | rw [Ua9 (by decide)])) ?_
 generalize hs:Store.put _ 0 i _=s7 at h7 ⊢
 have x7:Dx O s7:=by
  rw [<- hs]
  repeat' first | exact Dx.rfl | refine Dx.trans ?_ (Dx.put (by simp))
 have hl7:s7[4]?=some l:=by
  rw [<- hs]
  repeat' first | exact hl | rw [Ua9 (by decide)]
 have h7':=Ubg (o:=.list []) hl7 h7;refine RF.sg h7' (by kernel_rfl) (by kernel_rfl) fun h8=>RF.n ⟨rfl,⟨l.length,?_,Ufu h7' (Ua1 hl7) (.inl (by decide)),(fun a m=>by cases m),List.nodup_nil⟩,x7.trans ((Dx.add (by simp)).trans (Dx.put (by simp)))⟩;rw [h8];have e:∀ a v:V,setK Qbb a (setK Qbm (.bool false) (setK Qdm (.bool false) (setK Qdl .none (setK Qdk .none (setK Qc (.str Qa) (setK Qay (.str Qa) (setK Qah v [])))))))
  = [(Qah,v),(Qay,.str Qa),(Qc,.str Qa),(Qdk,.none),(Qdl,.none),(Qdm,.bool false),(Qbm,.bool false),(Qbb,a)]:=fun a v=>by kernel_rfl
 exact congrArg (fun q=>some (Ob.inst c_Draft q)) (e (.ref 4 l.length) (.str kind))
theorem new_draft(hlen:O.length=24)(kind:Str):Run (applyV (P p) (callK (P p) (d+1)) (.fn c_Draft) [.str kind,.str Qa]) O fun v O'=>∃ i al,v=.ref 0 i/\DR O' ⟨i,kind,"",false,al,[]⟩/\Dx O O':=by
 refine xEA (reg_of (r:=0) (O:=O) hlen (by decide)) fun l hl=>?_;refine (new_of (f:=a_Draft_init) (R:=fun O'=>(∃ al,DR O' ⟨l.length,kind,"",false,al,[]⟩)/\Dx O O') (by kernel_rfl) hl ?_).mono fun v O' ⟨e,⟨al,h⟩,x⟩=>⟨l.length,al,e,h,x⟩
 exact (Ugv (Ua1 hl) (Uau.trans hlen) kind).mono fun v O' qq=>xAAA qq fun e h x=>⟨e,h,(Dx.add (by simp)).trans x⟩
theorem RF.new_draft{kind:Str}{k:Unit->M Fl}(h:TP O U s)(hd:s.draft=none)(g:∀ O',TP O' U (s.setDraft ⟨kind,"",false,[]⟩)->Fx O O'->RF (k ()) O' Q) :
  RF (bnd (applyV (P p) (callK (P p) (d+1)) (.fn c_Draft) [.str kind,.str Qa]) fun v=>bnd (setAttrV (P p) (.ref 2 U.i) Qp v) k) O Q:=by
 obtain ⟨t,h,hw,rfl⟩:=h;have hn:t.draft=none:=Option.map_eq_none_iff.mp hd;refine RF.c (Mine.new_draft h.len kind) fun v O1 ⟨i,al,ev,hD,x⟩=>?_;subst ev;have h1:TR O1 U t:=h.dx x rfl rfl (fun d e=>by rw [hn] at e;cases e);obtain ⟨O2,e2,h2,x2⟩:=Urf (p:=p) h1 (some ⟨i,kind,"",false,al,[]⟩) (fun d e=>by cases e;exact hD);exact RF.b e2 (g O2 ⟨_,h2,hw,rfl⟩ (x.fx.trans x2))
theorem RF.emit_text(h:TP O U s)(hl:s.out.length+2 < lim)(g:∀ O',TP O' U ((s.put (chV Qan)).put (chV Qaj))->Fx O O'->RF (k .none) O' Q) :
  RF (bnd (look (methK (P p) (.ref 2 U.i) Qdp)) fun m=>if isRepl m then fail else bnd (methodV (callK (P p) (d+1)) m (.ref 2 U.i) [.str Qbx]) k) O Q:=by
 obtain ⟨t,h,hw,rfl⟩:=h;refine RF.mk (Uip h) (RF.c (Uh5 h hl) fun v O' ⟨e,h',f⟩=>?_);subst e;exact g O' ⟨_,h',hw,rfl⟩ f
theorem RF.emit_draft(h:TP O U s)(hd:s.draft=some D)(hk:D.kind="start"\/D.kind="end")(ho:s.out.length < lim)(he:s.errs.length+1 < lim)(hl:D.attrs.length < 5000)
  (g:∀ O',TP O' U s.emitDraft->Fx O O'->RF (k .none) O' Q) :
  RF (bnd (look (methK (P p) (.ref 2 U.i) Qcx)) fun m=>if isRepl m then fail else bnd (methodV (callK (P p) (d+2)) m (.ref 2 U.i) []) k) O Q:=by
 obtain ⟨t,h,hw,rfl⟩:=h;obtain ⟨dr,hdr,rfl⟩:=Option.map_eq_some_iff.mp hd;refine RF.mk (Uhi h) (RF.c (Ugj h hdr hk ho he (by simpa [Dr.pl] using hl)) fun v O' ⟨e,⟨t',h',w',q'⟩,f⟩=>?_);subst e;exact g O' ⟨t',h',w'.trans hw,q'⟩ f
theorem DR.setObj{d':Dr}(h:DR O dr)(e1:d'.i=dr.i)(e2:d'.al=dr.al)(e3:d'.attrs=dr.attrs):DR (O.put 0 dr.i (.inst c_Draft (drEs d'))) d':=by
 refine ⟨by rw [e1];exact Uae h.obj,?_,fun a m=>?_,by rw [e3];exact h.nd⟩
 ·rw [e2,e3];exact (Uaf h.obj (by decide)).trans h.al
 ·rw [e3] at m;exact (Uaf h.obj (by decide)).trans (h.each a m)
theorem RF.set_name{x:Str}{k:Unit->M Fl}(h:TP O U s)(hd:s.draft=some D)(g:∀ O',TP O' U (s.setDraft { D with name:=x })->Fx O O'->RF (k ()) O' Q) :
  RF (bnd (attrV (P p) (.ref 2 U.i) Qp) fun o=>bnd (setAttrV (P p) o Qay (.str x)) k) O Q:=by
 obtain ⟨t,h,hw,rfl⟩:=h;obtain ⟨dr,hdr,rfl⟩:=Option.map_eq_some_iff.mp hd;refine RF.b (Ubk h) ?_;rw [hdr];have hD:=h.dr dr hdr;refine RF.b (Uaj (es':=drEs { dr with name:=x }) hD.obj (by kernel_rfl) (by show 8 < 100;decide) (by kernel_rfl)) ?_;have x1:Dx O (O.put 0 dr.i (.inst c_Draft (drEs { dr with name:=x }))):=Dx.put (by simp);refine g _ ⟨{ t with draft:=some { dr with name:=x } },h.dx x1 rfl (by rw [hdr];rfl) (fun d e=>by cases e;exact hD.setObj rfl rfl rfl),hw,?_⟩ x1.fx;simp [TS.pl,PS.setDraft,Dr.pl]
theorem RF.set_closing{k:Unit->M Fl}(h:TP O U s)(hd:s.draft=some D)(g:∀ O',TP O' U (s.setDraft { D with closing:=true })->Fx O O'->RF (k ()) O' Q) :
  RF (bnd (attrV (P p) (.ref 2 U.i) Qp) fun o=>bnd (setAttrV (P p) o Qbm (.bool true)) k) O Q:=by
 obtain ⟨t,h,hw,rfl⟩:=h;obtain ⟨dr,hdr,rfl⟩:=Option.map_eq_some_iff.mp hd;refine RF.b (Ubk h) ?_;rw [hdr];have hD:=h.dr dr hdr;refine RF.b (Uaj (es':=drEs { dr with closing:=true }) hD.obj (by kernel_rfl) (by show 8 < 100;decide) (by kernel_rfl)) ?_;have x1:Dx O (O.put 0 dr.i (.inst c_Draft (drEs { dr with closing:=true }))):=Dx.put (by simp);refine g _ ⟨{ t with draft:=some { dr with closing:=true } },h.dx x1 rfl (by rw [hdr];rfl) (fun d e=>by cases e;exact hD.setObj rfl rfl rfl),hw,?_⟩ x1.fx;simp [TS.pl,PS.setDraft,Dr.pl]
theorem RF.get_name{k:V->M Fl}(h:TP O U s)(hd:s.draft=some D)(g:RF (k (.str D.name)) O Q) :
  RF (bnd (attrV (P p) (.ref 2 U.i) Qp) fun o=>bnd (attrV (P p) o Qay) k) O Q:=by
 obtain ⟨t,h,hw,rfl⟩:=h;obtain ⟨dr,hdr,rfl⟩:=Option.map_eq_some_iff.mp hd;refine RF.b (Ubk h) ?_;rw [hdr];exact RF.b (Upz (h.dr dr hdr)) g
end
inductive Deed where
 | none | start | end_ | comment | lost | lone | give | close | put | quit | new | first | check | refer
structure Act where
 err:Option Str
 deed:Deed
 goal:Option Str
 again:Bool
noncomputable def PS.begin(s:PS)(kind:Str):PS:=s.setDraft ⟨kind,"",false,[]⟩
noncomputable def repl(c:Str):Str:=if c==Qak then "�" else c
noncomputable def PS.last'(s:PS)(f:List PA->PA->PA):PS:=match s.draft with
 | some D=>match D.attrs.getLast? with
  | some a=>s.setDraft { D with attrs:=D.attrs.dropLast++[f D.attrs.dropLast a] }
  | none=>s
 | none=>s
noncomputable def PS.newAttr(s:PS):PS:=match s.draft with
 | some D=>s.setDraft { D with attrs:=D.attrs++[⟨"","",true⟩] }
 | none=>s
noncomputable def PS.addName(s:PS)(c:Str):PS:=s.last' fun w0 a=>{ a with n:=a.n++c }
noncomputable def PS.addValue(s:PS)(c:Str):PS:=s.last' fun w0 a=>{ a with v:=a.v++c }
noncomputable def PS.isTold(s:PS):Bool:=match s.draft with
 | some D=>match D.attrs.getLast? with
  | some a=>toldP D.attrs.dropLast a
  | none=>false
 | none=>false
noncomputable def PS.check(s:PS):PS:=if s.isTold then (s.last' fun w0 a=>{ a with k:=false }).error "duplicate-attribute" else s
noncomputable def PS.tagName(s:PS)(c:Str):PS:=match s.draft with
 | some D=>s.setDraft { D with name:=D.name++c }
 | none=>s
noncomputable def PS.closeIt(s:PS):PS:=match s.draft with
 | some D=>s.setDraft { D with closing:=true }
 | none=>s
noncomputable def PS.deed(s:PS)(d:Deed)(c:Str):PS:=match d with
 | .none=>s
 | .start=>s.begin "start"
 | .end_=>s.begin "end"
 | .comment=>s.begin "comment"
 | .lost=>(if s.state=="tag open" then s.put (chV "<") else (s.put (chV "<")).put (chV "/")).eof
 | .lone=>s.put (chV "<")
 | .give=>s.emitDraft
 | .close=>s.closeIt.emitDraft
 | .put=>if s.state=="tag name" then s.tagName (if c==Qak then "�" else lowerS c)
  else if s.state=="attribute name" then s.addName (if c==Qak then "�" else lowerS c)
  else s.addValue (repl c)
 | .quit=>s.eof
 | .new=>s.newAttr
 | .first=>s.newAttr.addName c
 | .check=>s.check
 | .refer=>{ s with back:=s.state }
noncomputable def PS.go(s:PS)(a:Act):PS :=
 let s1:=match a.err with
  | some e=>s.nxt.error e
  | none=>s.nxt
 let s2:=s1.deed a.deed s.cur
 match a.goal with
 | some g=>if a.again then s2.again g else s2.to g
 | none=>s2
noncomputable def actTagOpen(c:Str):Act:=if c=="!" then ⟨none,.none,some "markup declaration open",false⟩ else if c=="/" then ⟨none,.none,some "end tag open",false⟩
 else if isLetter c then ⟨none,.start,some "tag name",true⟩ else if c=="?" then ⟨some "unexpected-question-mark-instead-of-tag-name",.comment,some "bogus comment",true⟩
 else if c=="" then ⟨some "eof-before-tag-name",.lost,none,false⟩ else ⟨some "invalid-first-character-of-tag-name",.lone,some "data",true⟩
noncomputable def actEndOpen(c:Str):Act:=if isLetter c then ⟨none,.end_,some "tag name",true⟩ else if c==">" then ⟨some "missing-end-tag-name",.none,some "data",false⟩
 else if c=="" then ⟨some "eof-before-tag-name",.lost,none,false⟩ else ⟨some "invalid-first-character-of-tag-name",.comment,some "bogus comment",true⟩
noncomputable def actTagName(c:Str):Act:=if isBlank c then ⟨none,.none,some "before attribute name",false⟩ else if c=="/" then ⟨none,.none,some "self-closing start tag",false⟩
 else if c==">" then ⟨none,.give,some "data",false⟩ else if c=="\x00" then ⟨some "unexpected-null-character",.put,none,false⟩ else if c=="" then ⟨some "eof-in-tag",.quit,none,false⟩
 else ⟨none,.put,none,false⟩
noncomputable def actSelf(c:Str):Act:=if c==">" then ⟨none,.close,some "data",false⟩ else if c=="" then ⟨some "eof-in-tag",.quit,none,false⟩ else ⟨some "unexpected-solidus-in-tag",.none,some "before attribute name",true⟩
noncomputable def actBefName(c:Str):Act:=if isBlank c then ⟨none,.none,none,false⟩ else if [Qaj,">",""].any (·==c) then ⟨none,.none,some "after attribute name",true⟩
 else if c=="=" then ⟨some "unexpected-equals-sign-before-attribute-name",.first,some "attribute name",false⟩ else ⟨none,.new,some "attribute name",true⟩
noncomputable def actName(c:Str):Act:=if isBlank c then ⟨none,.check,some "after attribute name",true⟩ else if [Qaj,">",""].any (·==c) then ⟨none,.check,some "after attribute name",true⟩
 else if c=="=" then ⟨none,.check,some "before attribute value",false⟩ else if c=="\x00" then ⟨some "unexpected-null-character",.put,none,false⟩
 else if [Qbv,"'","<"].any (·==c) then ⟨some "unexpected-character-in-attribute-name",.put,none,false⟩ else ⟨none,.put,none,false⟩
noncomputable def actAftName(c:Str):Act:=if isBlank c then ⟨none,.none,none,false⟩ else if c=="/" then ⟨none,.none,some "self-closing start tag",false⟩ else if c=="=" then ⟨none,.none,some "before attribute value",false⟩
 else if c==">" then ⟨none,.give,some "data",false⟩ else if c=="" then ⟨some "eof-in-tag",.quit,none,false⟩ else ⟨none,.new,some "attribute name",true⟩
noncomputable def actBefVal(c:Str):Act:=if isBlank c then ⟨none,.none,none,false⟩ else if c=="\"" then ⟨none,.none,some "attribute value (double-quoted)",false⟩ else if c=="'" then ⟨none,.none,some "attribute value (single-quoted)",false⟩
 else if c==">" then ⟨some "missing-attribute-value",.give,some "data",false⟩ else ⟨none,.none,some "attribute value (unquoted)",true⟩
noncomputable def actQuoted(q c:Str):Act:=if c==q then ⟨none,.none,some "after attribute value (quoted)",false⟩ else if c=="&" then ⟨none,.refer,some "character reference",false⟩
 else if c=="\x00" then ⟨some "unexpected-null-character",.put,none,false⟩ else if c=="" then ⟨some "eof-in-tag",.quit,none,false⟩ else ⟨none,.put,none,false⟩
noncomputable def actBare(c:Str):Act:=if isBlank c then ⟨none,.none,some "before attribute name",false⟩ else if c=="&" then ⟨none,.refer,some "character reference",false⟩ else if c==">" then ⟨none,.give,some "data",false⟩
 else if c=="\x00" then ⟨some "unexpected-null-character",.put,none,false⟩ else if c=="" then ⟨some "eof-in-tag",.quit,none,false⟩
 else if [Qbv,"'","<","=","`"].any (·==c) then ⟨some "unexpected-character-in-unquoted-attribute-value",.put,none,false⟩ else ⟨none,.put,none,false⟩
noncomputable def actAftVal(c:Str):Act:=if isBlank c then ⟨none,.none,some "before attribute name",false⟩ else if c=="/" then ⟨none,.none,some "self-closing start tag",false⟩ else if c==">" then ⟨none,.give,some "data",false⟩
 else if c=="" then ⟨some "eof-in-tag",.quit,none,false⟩ else ⟨some "missing-whitespace-between-attributes",.none,some "before attribute name",true⟩
inductive St where
 | tagOpen | endOpen | tagName | self | befName | name | aftName | befVal | dq | sq | bare | aftVal
noncomputable def St.str:St->Str
 | .tagOpen=>"tag open" | .endOpen=>"end tag open" | .tagName=>"tag name" | .self=>"self-closing start tag" | .befName=>"before attribute name" | .name=>"attribute name" | .aftName=>"after attribute name"
 | .befVal=>"before attribute value" | .dq=>"attribute value (double-quoted)" | .sq=>"attribute value (single-quoted)" | .bare=>"attribute value (unquoted)" | .aftVal=>"after attribute value (quoted)"
noncomputable def allSt:List St:=[.tagOpen,.endOpen,.tagName,.self,.befName,.name,.aftName,.befVal,.dq,.sq,.bare,.aftVal]
noncomputable def act(q:St)(c:Str):Act:=match q with
 | .tagOpen=>actTagOpen c | .endOpen=>actEndOpen c | .tagName=>actTagName c | .self=>actSelf c | .befName=>actBefName c | .name=>actName c | .aftName=>actAftName c
 | .befVal=>actBefVal c | .dq=>actQuoted "\"" c | .sq=>actQuoted "'" c | .bare=>actBare c | .aftVal=>actAftVal c
noncomputable def St.addr:St->Addr
 | .tagOpen=>a_tag_open_state | .endOpen=>a_end_tag_open_state | .tagName=>a_tag_name_state | .self=>a_self_closing_state | .befName=>a_before_attr_name_state | .name=>a_attr_name_state | .aftName=>a_after_attr_name_state
 | .befVal=>a_before_attr_value_state | .dq=>a_double_quoted_state | .sq=>a_single_quoted_state | .bare=>a_unquoted_state | .aftVal=>a_after_quoted_state
noncomputable def ofStr(x:Str):Option St:=allSt.find? fun q=>q.str==x
structure Fit(q:St)(s:PS):Prop where
 st:s.state=q.str
 pos:0<=s.pos
 out:s.out.length+3 < lim
 errs:s.errs.length+3 < lim
 sg:isUpper s.cur=true->s.cur.length=1/\s.cur.cps.getD 0 0+32 < 0x110000
 cl:s.cur.length<=1
 dn:q=.tagOpen\/q=.endOpen->s.draft=none
 ds:q≠.tagOpen->q≠.endOpen->∃ D,s.draft=some D/\(D.kind="start"\/D.kind="end")/\D.attrs.length+1 < 5000/\D.name.length+1 < lim /\
  ((q=.name\/q=.befVal\/q=.dq\/q=.sq\/q=.bare)->∃ init a,D.attrs=init++[a]/\a.n.length+1 < lim/\a.v.length+1 < lim)
section
variable {p:Params}{O O' O₁:Store}{U:Rf}{t:TS}{s:PS}{n d:Nat}{D:PD}{dr:Dr}{init:List PA}{a:PA}{Q:V->Store->Prop}{k:V->M Fl}{A B:M Fl}
noncomputable abbrev Ends(s:PS)(U:Rf)(O:Store)(s':PS):V->Store->Prop:=fun v O'=>v=.none/\TP O' U s'/\Fx O O'
theorem gy{m:M Fl}{O0:Store}{t:PS}{b:Bool}{A B:Act}(h:b=true)(g:RF m O0 (Ends s U O (t.go A))):RF m O0 (Ends s U O (t.go (if b=true then A else B))):=by rw [if_pos h];exact g
theorem gn{m:M Fl}{O0:Store}{t:PS}{b:Bool}{A B:Act}(h:b=false)(g:RF m O0 (Ends s U O (t.go B))):RF m O0 (Ends s U O (t.go (if b=true then A else B))):=by rw [if_neg (by rw [h];exact Bool.false_ne_true)];exact g
theorem Uiw(h:TP O U s)(f:Fit .tagOpen s):RF (F_tag_open_state p (callK (P p) (d+3)) (.ref 2 U.i)) O (Ends s U O (s.go (actTagOpen s.cur))):=by
 delta F_tag_open_state;refine RF.next h f.pos fun O1 h1 x1=>?_;delta actTagOpen;refine RF.eq (fun c1=>?_) fun c1=>?_
 ·refine gy c1 ?_;exact RF.to h1 fun O2 h2 x2=>RF.n ⟨rfl,h2,x1.trans x2⟩
 refine gn c1 ?_;refine RF.eq (fun c2=>?_) fun c2=>?_
 ·refine gy c2 ?_;exact RF.to h1 fun O2 h2 x2=>RF.n ⟨rfl,h2,x1.trans x2⟩
 refine gn c2 ?_;refine RF.letter (fun c3=>?_) fun c3=>?_
 ·refine gy c3 ?_;exact RF.new_draft h1 (f.dn (.inl rfl)) fun O2 h2 x2=>RF.again h2 fun O3 h3 x3=>RF.n ⟨rfl,h3,x1.trans (x2.trans x3)⟩
 refine gn c3 ?_;refine RF.eq (fun c4=>?_) fun c4=>?_
 ·refine gy c4 ?_;exact RF.error h1 (by have:=f.errs;show s.errs.length < lim;exact om0 this) fun O2 h2 x2=>RF.new_draft h2 (f.dn (.inl rfl)) fun O3 h3 x3=>RF.again h3 fun O4 h4 x4=>RF.n ⟨rfl,h4,x1.trans (x2.trans (x3.trans x4))⟩
 refine gn c4 ?_;refine RF.eq (fun c5=>?_) fun c5=>?_
 ·refine gy c5 ?_;refine RF.error h1 (by have:=f.errs;show s.errs.length < lim;exact om0 this) fun O2 h2 x2=>RF.emit_sign h2 (by have:=f.out;show s.out.length < lim;exact om0 this) fun O3 h3 x3=>RF.emit_eof h3 (by have:=f.out;show (s.out++[_]).length < lim;simp;exact om1 this) fun O4 h4 x4 =>
   RF.n ⟨rfl,?_,x1.trans (x2.trans (x3.trans x4))⟩
  have e:s.go ⟨some "eof-before-tag-name",.lost,none,false⟩=((s.nxt.error "eof-before-tag-name").put (chV "<")).eof:=by
   show (if (s.state==Qae)=true then _ else _:PS).eof=_;rw [f.st,if_pos (by kernel_rfl)]
  rw [e];exact h4
 refine gn c5 ?_;exact RF.error h1 (by have:=f.errs;show s.errs.length < lim;exact om0 this) fun O2 h2 x2=>RF.emit_sign h2 (by have:=f.out;show s.out.length < lim;exact om0 this) fun O3 h3 x3=>RF.again h3 fun O4 h4 x4=>RF.n ⟨rfl,h4,x1.trans (x2.trans (x3.trans x4))⟩
end
section
variable {p:Params}{O O' O₁:Store}{U:Rf}{t:TS}{s:PS}{n d:Nat}{D:PD}{dr:Dr}{init:List PA}{a:PA}{Q:V->Store->Prop}{k:V->M Fl}{A B:M Fl}
theorem RF.blankC{x:Str}{A B:V->M Fl}(g:isBlank x=true->RF (A (.bool true)) O Q)(g':isBlank x=false->RF (B (.bool false)) O Q) :
  RF (bnd (callK (P p) (d+1) a_is_blank [.str x]) fun v=>match isT v with
   | some b=>cond b (A v) (B v)
   | none=>fail) O Q:=by
 refine RF.b (Umk x) ?_;show RF (cond (isBlank x) _ _) O Q;cases h:isBlank x
 ·exact g' h
 ·exact g h
theorem RF.memC{x:Str}{vs:List V}{l:List Str}(hl:strsOf vs=some l)(g:l.any (·==x)=true->RF A O Q)(g':l.any (·==x)=false->RF B O Q) :
  RF (bnd (look (cmpV .In (.str x) (.tup vs))) fun b=>cond b A B) O Q:=by
 refine RF.l (a:=l.any (·==x)) (in_tup (O:=O) hl) ?_;cases h:l.any (·==x)
 ·exact g' h
 ·exact g h
theorem Um7(s:PS)(x:Str):(s.to x).emitDraft=s.emitDraft.to x:=by
 obtain ⟨pos,state,back,last,out,errs,draft,done,signs,closed,isret,serr⟩:=s;cases draft <;> rfl
theorem Ua3{f:List PA->PA->PA}(hd:s.draft=some D)(ha:D.attrs=init++[a]):s.last' f=s.setDraft { D with attrs:=init++[f init a] }:=by
 delta PS.last';rw [hd];dsimp only;rw [ha,List.getLast?_concat,List.dropLast_concat]
theorem Ugr(hd:s.draft=some D)(ha:D.attrs=init++[a]):s.isTold=toldP init a:=by
 delta PS.isTold;rw [hd];dsimp only;rw [ha,List.getLast?_concat,List.dropLast_concat]
theorem Uh8(hd:s.draft=some D):s.setDraft D=s:=by delta PS.setDraft;rw [<- hd]
theorem Uln{c:Str}(h:c.length<=1):(lowerS c).length<=1:=by
 delta lowerS;split
 ·exact Nat.le_refl 1
 ·exact h
theorem RF.finish(h:TP O U s)(hd:s.draft=some D)(hk:D.kind="start"\/D.kind="end")(ho:s.out.length < lim)(he:s.errs.length+1 < lim)(hl:D.attrs.length < 5000)
  (g:∀ O',TP O' U (s.emitDraft.to "data")->Fx O O'->RF (k .none) O' Q):RF (bnd (callK (P p) (d+3) a_finish_tag [.ref 2 U.i]) k) O Q:=by
 refine RF.c (Q1:=fun v O'=>v=.none/\TP O' U (s.emitDraft.to "data")/\Fx O O') ?_ fun v O' qq=>xAAA qq fun e h' x=>by subst e;exact g O' h' x
 rw [Uii];show RF _ O _;delta F_finish_tag;refine RF.to h fun O2 h2 x2=>RF.emit_draft h2 hd hk ho he hl fun O3 h3 x3=>RF.n ⟨rfl,?_,x2.trans x3⟩;rw [<- Um7];exact h3
theorem RF.cut(h:TP O U s)(ho:s.out.length < lim)(he:s.errs.length < lim)(g:∀ O',TP O' U (s.error "eof-in-tag").eof->Fx O O'->RF (k .none) O' Q):RF (bnd (callK (P p) (d+2) a_cut_tag [.ref 2 U.i]) k) O Q:=by
 refine RF.c (Q1:=fun v O'=>v=.none/\TP O' U (s.error "eof-in-tag").eof/\Fx O O') ?_ fun v O' ⟨e,h',x⟩=>by subst e;exact g O' h' x
 rw [Uoq];show RF _ O _;delta F_cut_tag;exact RF.error h he fun O2 h2 x2=>RF.emit_eof h2 ho fun O3 h3 x3=>RF.n ⟨rfl,h3,x2.trans x3⟩
theorem RF.refer(h:TP O U s)(g:∀ O',TP O' U ({ s with back:=s.state }.to "character reference")->Fx O O'->RF (k .none) O' Q):RF (bnd (callK (P p) (d+2) a_begin_reference [.ref 2 U.i]) k) O Q:=by
 refine RF.c (Q1:=fun v O'=>v=.none/\TP O' U ({ s with back:=s.state }.to "character reference")/\Fx O O') ?_ fun v O' ⟨e,h',x⟩=>by subst e;exact g O' h' x
 rw [Ueq];show RF _ O _;delta F_begin_reference;obtain ⟨t,h,hw,rfl⟩:=h;obtain ⟨O1,e1,h1,f1⟩:=Us8 (p:=p) h t.state;exact RF.b (Ufe h) (RF.b e1 (RF.to ⟨_,h1,hw,rfl⟩ fun O2 h2 x2=>RF.n ⟨rfl,h2,f1.trans x2⟩))
theorem RF.leave(h:TP O U s)(hd:s.draft=some D)(ha:D.attrs=init++[a])(hl:init.length < 5000)(he:s.errs.length < lim)(g:∀ O',TP O' U s.check->Fx O O'->RF (k .none) O' Q) :
  RF (bnd (callK (P p) (d+2) a_leave_name [.ref 2 U.i]) k) O Q:=by
 refine RF.c (Q1:=fun v O'=>v=.none/\TP O' U s.check/\Fx O O') ?_ fun v O' ⟨e,h',x⟩=>by subst e;exact g O' h' x
 rw [Ui4];show RF _ O _;delta F_leave_name;refine Uio (c':=callK (P p) 0) (k':=fun v=>ret (.ret v)) h hd ha hl fun O2 h2 x2=>?_;show RF (if (!!toldP init a)=true then _ else _) O2 _;delta PS.check;rw [Ugr hd ha];cases ht:toldP init a with
 | true =>
  refine RF.pos rfl ?_;rw [ht] at h2;refine RF.error h2 he fun O3 h3 x3=>RF.n ⟨rfl,?_,x2.trans x3⟩;rw [if_pos rfl,Ua3 hd ha];exact h3
 | false =>
  refine RF.neg Bool.false_ne_true (RF.n ⟨rfl,?_,x2⟩);rw [if_neg Bool.false_ne_true];have e:({ D with attrs:=init++[{ a with k:=if toldP init a=true then false else a.k }] }:PD)=D:=by
   rw [ht];simp only [Bool.false_eq_true,if_false];rw [<- ha]
  rw [e,Uh8 hd] at h2;exact h2
theorem RF.add_low{x:Str}(h:TP O U s)(hd:s.draft=some D)(ha:D.attrs=init++[a])(hx:isUpper x=true->x.length=1/\x.cps.getD 0 0+32 < 0x110000)(hl:a.n.length+(lowerS x).length<=lim)
  (g:∀ O',TP O' U (s.addName (lowerS x))->Fx O O'->RF (k .none) O' Q) :
  RF (bnd (attrV (P p) (.ref 2 U.i) Qp) fun o=>bnd (look (methK (P p) o Qcl)) fun m=>if isRepl m then fail else bnd (callK (P p) (d+2) a_lower [.str x]) fun y=>bnd (methodV (callK (P p) (d+2)) m o [y]) k) O Q:=by
 delta PS.addName at g;rw [Ua3 hd ha] at g;obtain ⟨t,h,hw,rfl⟩:=h;obtain ⟨dr,hdr,rfl⟩:=Option.map_eq_some_iff.mp hd;obtain ⟨i',a',e,rfl,rfl⟩:=Ude ha;refine RF.b (Ubk h) ?_;rw [hdr];have hD:=h.dr dr hdr;refine RF.mk (Uga hD) (RF.b (Umt x hx) (RF.c (Ufc hD e (lowerS x) hl) fun v O' qq=>xAAA qq fun ev h' f=>?_));subst ev;refine g O' ⟨{ t with draft:=some { dr with attrs:=i'++[{ a' with n:=a'.n++lowerS x }] } },h.dx f rfl (by rw [hdr];rfl) (fun d e=>by cases e;exact h'),hw,?_⟩ f.fx;simp [TS.pl,PS.setDraft,Dr.pl,At.pl]
theorem Uiy(h:TP O U s)(f:Fit .endOpen s):RF (F_end_tag_open_state p (callK (P p) (d+3)) (.ref 2 U.i)) O (Ends s U O (s.go (actEndOpen s.cur))):=by
 have ho:=f.out;have he:=f.errs;delta F_end_tag_open_state;refine RF.next h f.pos fun O1 h1 x1=>?_;delta actEndOpen;refine RF.letter (fun c3=>?_) fun c3=>?_
 ·refine gy c3 ?_;exact RF.new_draft h1 (f.dn (.inr rfl)) fun O2 h2 x2=>RF.again h2 fun O3 h3 x3=>RF.n ⟨rfl,h3,x1.trans (x2.trans x3)⟩
 refine gn c3 ?_;refine RF.eq (fun c4=>?_) fun c4=>?_
 ·refine gy c4 ?_;exact RF.error h1 (by show s.errs.length < lim;exact om0 he) fun O2 h2 x2=>RF.to h2 fun O3 h3 x3=>RF.n ⟨rfl,h3,x1.trans (x2.trans x3)⟩
 refine gn c4 ?_;refine RF.eq (fun c5=>?_) fun c5=>?_
 ·refine gy c5 ?_;refine RF.error h1 (by show s.errs.length < lim;exact om0 he) fun O2 h2 x2=>RF.emit_text h2 (by show s.out.length+2 < lim;exact om7 ho) fun O3 h3 x3=>RF.emit_eof h3 (by show ((s.out++[_])++[_]).length < lim;simp;exact om7 ho) fun O4 h4 x4 =>
   RF.n ⟨rfl,?_,x1.trans (x2.trans (x3.trans x4))⟩
  have e:s.go ⟨some "eof-before-tag-name",.lost,none,false⟩=(((s.nxt.error "eof-before-tag-name").put (chV "<")).put (chV "/")).eof:=by
   show (if (s.state==Qae)=true then _ else _:PS).eof=_;rw [f.st,if_neg (by decide)]
  rw [e];exact h4
 refine gn c5 ?_;exact RF.error h1 (by show s.errs.length < lim;exact om0 he) fun O2 h2 x2=>RF.new_draft h2 (f.dn (.inr rfl)) fun O3 h3 x3=>RF.again h3 fun O4 h4 x4=>RF.n ⟨rfl,h4,x1.trans (x2.trans (x3.trans x4))⟩
theorem Ujf(h:TP O U s)(f:Fit .tagName s):RF (F_tag_name_state p (callK (P p) (d+3)) (.ref 2 U.i)) O (Ends s U O (s.go (actTagName s.cur))):=by
 have ho:=f.out;have he:=f.errs;refine xEAAAAA (f.ds nofun nofun) fun D hd hk hl hn w0=>?_;have hput:∀ s1:PS,s1.state=s.state->s1.draft=some D->s1.deed .put s.cur=s1.setDraft { D with name:=D.name++(if s.cur==Qak then Qbs else lowerS s.cur) }:=fun s1 e1 e2=>by
  show (if (s1.state==Qad)=true then _ else _:PS)=_;rw [e1,f.st,if_pos (by kernel_rfl)];delta PS.tagName;rw [e2]
 delta F_tag_name_state;refine RF.next h f.pos fun O1 h1 x1=>?_;delta actTagName;refine RF.blank (fun c1=>?_) fun c1=>?_
 ·refine gy c1 ?_;exact RF.to h1 fun O2 h2 x2=>RF.n ⟨rfl,h2,x1.trans x2⟩
 refine gn c1 ?_;refine RF.eq (fun c2=>?_) fun c2=>?_
 ·refine gy c2 ?_;exact RF.to h1 fun O2 h2 x2=>RF.n ⟨rfl,h2,x1.trans x2⟩
 refine gn c2 ?_;refine RF.eq (fun c3=>?_) fun c3=>?_
 ·refine gy c3 ?_;refine RF.to h1 fun O2 h2 x2=>RF.emit_draft h2 hd hk (by show s.out.length < lim;exact om0 ho) (by show s.errs.length+1 < lim;exact om1 he) (om4 hl) fun O3 h3 x3=>RF.n ⟨rfl,?_,x1.trans (x2.trans x3)⟩;rw [Um7] at h3;exact h3
 refine gn c3 ?_;refine RF.eq (fun c4=>?_) fun c4=>?_
 ·refine gy c4 ?_;refine RF.error h1 (by show s.errs.length < lim;exact om0 he) fun O2 h2 x2=>RF.get_name h2 hd (RF.l (add_str (by show D.name.length+1<=lim;exact om11 hn)) (RF.set_name h2 hd fun O3 h3 x3=>RF.n ⟨rfl,?_,x1.trans (x2.trans x3)⟩));show TP O3 U ((s.nxt.error _).deed .put s.cur);rw [hput (s.nxt.error _) rfl hd,if_pos c4];exact h3
 refine gn c4 ?_;refine RF.eq (fun c5=>?_) fun c5=>?_
 ·refine gy c5 ?_;exact RF.error h1 (by show s.errs.length < lim;exact om0 he) fun O2 h2 x2=>RF.emit_eof h2 (by show s.out.length < lim;exact om0 ho) fun O3 h3 x3=>RF.n ⟨rfl,h3,x1.trans (x2.trans x3)⟩
 refine gn c5 ?_;refine RF.get_name h1 hd (RF.b (Umt _ f.sg) (RF.l (add_str (by have:=Uln f.cl;exact om10 hn this)) (RF.set_name h1 hd fun O3 h3 x3=>RF.n ⟨rfl,?_,x1.trans x3⟩)));show TP O3 U (s.nxt.deed .put s.cur);rw [hput s.nxt rfl hd,if_neg (by rw [c4];decide)];exact h3
theorem Urq(h:TP O U s)(f:Fit .self s):RF (F_self_closing_state p (callK (P p) (d+3)) (.ref 2 U.i)) O (Ends s U O (s.go (actSelf s.cur))):=by
 have ho:=f.out;have he:=f.errs;refine xEAAAAA (f.ds nofun nofun) fun D hd hk hl hn w0=>?_;delta F_self_closing_state;refine RF.next h f.pos fun O1 h1 x1=>?_;delta actSelf;refine RF.eq (fun c1=>?_) fun c1=>?_
 ·refine gy c1 ?_;refine RF.set_closing h1 hd fun O2 h2 x2=>RF.to h2 fun O3 h3 x3=>RF.emit_draft (D:={ D with closing:=true }) h3 rfl hk (by show s.out.length < lim;exact om0 ho) (by show s.errs.length+1 < lim;exact om1 he) (by show D.attrs.length < 5000;exact om4 hl) fun O4 h4 x4=>RF.n ⟨rfl,?_,x1.trans (x2.trans (x3.trans x4))⟩;rw [Um7] at h4;show TP O4 U (s.nxt.closeIt.emitDraft.to "data");have e:s.nxt.closeIt=s.nxt.setDraft { D with closing:=true }:=by delta PS.closeIt;rw [show s.nxt.draft=some D from hd]
  rw [e];exact h4
 refine gn c1 ?_;refine RF.eq (fun c5=>?_) fun c5=>?_
 ·refine gy c5 ?_;exact RF.error h1 (by show s.errs.length < lim;exact om0 he) fun O2 h2 x2=>RF.emit_eof h2 (by show s.out.length < lim;exact om0 ho) fun O3 h3 x3=>RF.n ⟨rfl,h3,x1.trans (x2.trans x3)⟩
 refine gn c5 ?_;exact RF.error h1 (by show s.errs.length < lim;exact om0 he) fun O2 h2 x2=>RF.again h2 fun O3 h3 x3=>RF.n ⟨rfl,h3,x1.trans (x2.trans x3)⟩
end
section
variable {p:Params}{O O' O₁:Store}{U:Rf}{t:TS}{s:PS}{n d:Nat}{D:PD}{dr:Dr}{init:List PA}{a:PA}{Q:V->Store->Prop}{k:V->M Fl}{A B:M Fl}
theorem Uaq(hd:s.draft=some D):s.newAttr=s.setDraft { D with attrs:=D.attrs++[⟨"","",true⟩] }:=by delta PS.newAttr;rw [hd]
theorem Uil(h:TP O U s)(f:Fit .befName s):RF (F_before_attr_name_state p (callK (P p) (d+3)) (.ref 2 U.i)) O (Ends s U O (s.go (actBefName s.cur))):=by
 have ho:=f.out;have he:=f.errs;refine xEAAAAA (f.ds nofun nofun) fun D hd hk hl hn w0=>?_;delta F_before_attr_name_state;refine RF.next h f.pos fun O1 h1 x1=>?_;delta actBefName;refine RF.blank (fun c1=>?_) fun c1=>?_
 ·refine gy c1 ?_;exact RF.r ⟨rfl,h1,x1⟩
 refine gn c1 ?_;rw [Ua7];delta J_before_attr_name_state_0_T0;refine RF.mem (l:=["/",">",""]) rfl (fun c2=>?_) fun c2=>?_
 ·refine gy c2 ?_;exact RF.again h1 fun O2 h2 x2=>RF.n ⟨rfl,h2,x1.trans x2⟩
 refine gn c2 ?_;refine RF.eq (fun c3=>?_) fun c3=>?_
 ·refine gy c3 ?_;refine RF.error h1 (by show s.errs.length < lim;exact om0 he) fun O2 h2 x2=>RF.begin_attr h2 hd (by delta lim;exact om17 hl) fun O3 h3 x3=>RF.add_name (init:=D.attrs) (a:=⟨"","",true⟩) h3 rfl rfl (by have:=f.cl;show 0+s.cur.length<=lim;delta lim;omega) fun O4 h4 x4=>RF.to h4 fun O5 h5 x5=>RF.n ⟨rfl,?_,x1.trans (x2.trans (x3.trans (x4.trans x5)))⟩;show TP O5 U (((s.nxt.error _).newAttr.addName s.cur).to _);rw [Uaq (s:=s.nxt.error _) hd];delta PS.addName;rw [Ua3 (init:=D.attrs) (a:=⟨"","",true⟩) rfl rfl];exact h5
 refine gn c3 ?_;refine RF.begin_attr h1 hd (by delta lim;exact om17 hl) fun O3 h3 x3=>RF.again h3 fun O4 h4 x4=>RF.n ⟨rfl,?_,x1.trans (x3.trans x4)⟩;show TP O4 U ((s.nxt.newAttr).again _);rw [Uaq (s:=s.nxt) hd];exact h4
theorem Url(h:TP O U s)(f:Fit .name s):RF (F_attr_name_state p (callK (P p) (d+3)) (.ref 2 U.i)) O (Ends s U O (s.go (actName s.cur))):=by
 have ho:=f.out;have he:=f.errs;refine xEAAAAA (f.ds nofun nofun) fun D hd hk hl hn hx=>?_;refine xEEAAA (hx (.inl rfl)) fun init a ha hna hva=>?_;have hil:init.length < 5000:=by rw [ha,List.length_append] at hl;simp at hl;exact Nat.lt_of_add_right_lt hl
 have hput:∀ s1:PS,s1.state=s.state->s1.deed .put s.cur=s1.addName (if s.cur==Qak then Qbs else lowerS s.cur):=fun s1 e1=>by
  show (if (s1.state==Qad)=true then _ else if (s1.state==Qac)=true then _ else _:PS)=_;rw [e1,f.st,if_neg (by decide),if_pos (by kernel_rfl)]
 have low:∀ {O2:Store} {s1:PS},TP O2 U s1->Fx O O2->s1.draft=some D->s1.state=s.state->(s.cur==Qak)=false->RF (J_attr_name_state_0 p (callK (P p) (d+3)) [(Qd,.ref 2 U.i),(Qf,.str s.cur)]) O2 (Ends s U O (s1.deed .put s.cur)):=by
  intro O2 s1 h2 x2 hd2 hs2 c4;rw [Ucf];delta J_attr_name_state_0_T0;refine RF.add_low h2 hd2 ha f.sg (by have:=Uln f.cl;exact om10 hna this) fun O3 h3 x3=>RF.n ⟨rfl,?_,x2.trans x3⟩;rw [hput s1 hs2,if_neg (by rw [c4];decide)];exact h3
 delta F_attr_name_state;refine RF.next h f.pos fun O1 h1 x1=>?_;delta actName;refine RF.blankC (fun c1=>?_) fun c1=>?_
 ·refine gy c1 ?_;exact RF.leave h1 hd ha hil (by show s.errs.length < lim;exact om0 he) fun O2 h2 x2=>RF.again h2 fun O3 h3 x3=>RF.n ⟨rfl,h3,x1.trans (x2.trans x3)⟩
 refine gn c1 ?_;refine RF.memC (l:=["/",">",""]) rfl (fun c2=>?_) fun c2=>?_
 ·refine gy c2 ?_;exact RF.leave h1 hd ha hil (by show s.errs.length < lim;exact om0 he) fun O2 h2 x2=>RF.again h2 fun O3 h3 x3=>RF.n ⟨rfl,h3,x1.trans (x2.trans x3)⟩
 refine gn c2 ?_;refine RF.eq (fun c3=>?_) fun c3=>?_
 ·refine gy c3 ?_;exact RF.leave h1 hd ha hil (by show s.errs.length < lim;exact om0 he) fun O2 h2 x2=>RF.to h2 fun O3 h3 x3=>RF.n ⟨rfl,h3,x1.trans (x2.trans x3)⟩
 refine gn c3 ?_;refine RF.eq (fun c4=>?_) fun c4=>?_
 ·refine gy c4 ?_;refine RF.error h1 (by show s.errs.length < lim;exact om0 he) fun O2 h2 x2=>RF.add_name h2 hd ha (by show a.n.length+1<=lim;exact om11 hna) fun O3 h3 x3=>RF.n ⟨rfl,?_,x1.trans (x2.trans x3)⟩;show TP O3 U ((s.nxt.error _).deed .put s.cur);rw [hput (s.nxt.error _) rfl,if_pos c4];delta PS.addName;rw [Ua3 (s:=s.nxt.error _) hd ha];exact h3
 refine gn c4 ?_;refine RF.mem (l:=["\"","'","<"]) rfl (fun c5=>?_) fun c5=>?_
 ·refine gy c5 ?_;exact RF.error h1 (by show s.errs.length < lim;exact om0 he) fun O2 h2 x2=>low h2 (x1.trans x2) hd rfl c4
 refine gn c5 ?_;exact low h1 x1 hd rfl c4
theorem Ui0(h:TP O U s)(f:Fit .aftName s):RF (F_after_attr_name_state p (callK (P p) (d+4)) (.ref 2 U.i)) O (Ends s U O (s.go (actAftName s.cur))):=by
 have ho:=f.out;have he:=f.errs;refine xEAAAAA (f.ds nofun nofun) fun D hd hk hl hn w0=>?_;delta F_after_attr_name_state;refine RF.next h f.pos fun O1 h1 x1=>?_;delta actAftName;refine RF.blank (fun c1=>?_) fun c1=>?_
 ·refine gy c1 ?_;exact RF.r ⟨rfl,h1,x1⟩
 refine gn c1 ?_;rw [Uba];delta J_after_attr_name_state_0_T0;refine RF.eq (fun c2=>?_) fun c2=>?_
 ·refine gy c2 ?_;exact RF.to h1 fun O2 h2 x2=>RF.n ⟨rfl,h2,x1.trans x2⟩
 refine gn c2 ?_;refine RF.eq (fun c3=>?_) fun c3=>?_
 ·refine gy c3 ?_;exact RF.to h1 fun O2 h2 x2=>RF.n ⟨rfl,h2,x1.trans x2⟩
 refine gn c3 ?_;refine RF.eq (fun c4=>?_) fun c4=>?_
 ·refine gy c4 ?_;exact RF.finish h1 hd hk (by show s.out.length < lim;exact om0 ho) (by show s.errs.length+1 < lim;exact om1 he) (om4 hl) fun O2 h2 x2=>RF.n ⟨rfl,h2,x1.trans x2⟩
 refine gn c4 ?_;refine RF.eq (fun c5=>?_) fun c5=>?_
 ·refine gy c5 ?_;exact RF.cut h1 (by show s.out.length < lim;exact om0 ho) (by show s.errs.length < lim;exact om0 he) fun O2 h2 x2=>RF.n ⟨rfl,h2,x1.trans x2⟩
 refine gn c5 ?_;refine RF.begin_attr h1 hd (by delta lim;exact om17 hl) fun O3 h3 x3=>RF.again h3 fun O4 h4 x4=>RF.n ⟨rfl,?_,x1.trans (x3.trans x4)⟩;show TP O4 U ((s.nxt.newAttr).again _);rw [Uaq (s:=s.nxt) hd];exact h4
theorem Ukq(h:TP O U s)(f:Fit .befVal s):RF (F_before_attr_value_state p (callK (P p) (d+4)) (.ref 2 U.i)) O (Ends s U O (s.go (actBefVal s.cur))):=by
 have ho:=f.out;have he:=f.errs;refine xEAAAAA (f.ds nofun nofun) fun D hd hk hl hn w0=>?_;delta F_before_attr_value_state;refine RF.next h f.pos fun O1 h1 x1=>?_;delta actBefVal;refine RF.blank (fun c1=>?_) fun c1=>?_
 ·refine gy c1 ?_;exact RF.r ⟨rfl,h1,x1⟩
 refine gn c1 ?_;rw [Ua6];delta J_before_attr_value_state_0_T0;refine RF.eq (fun c2=>?_) fun c2=>?_
 ·refine gy c2 ?_;exact RF.to h1 fun O2 h2 x2=>RF.n ⟨rfl,h2,x1.trans x2⟩
 refine gn c2 ?_;refine RF.eq (fun c3=>?_) fun c3=>?_
 ·refine gy c3 ?_;exact RF.to h1 fun O2 h2 x2=>RF.n ⟨rfl,h2,x1.trans x2⟩
 refine gn c3 ?_;refine RF.eq (fun c4=>?_) fun c4=>?_
 ·refine gy c4 ?_;exact RF.error h1 (by show s.errs.length < lim;exact om0 he) fun O2 h2 x2=>RF.finish h2 hd hk (by show s.out.length < lim;exact om0 ho) (by show (s.errs++[_]).length+1 < lim;simp;exact Nat.lt_of_succ_lt he) (om4 hl) fun O3 h3 x3=>RF.n ⟨rfl,h3,x1.trans (x2.trans x3)⟩
 refine gn c4 ?_;exact RF.again h1 fun O4 h4 x4=>RF.n ⟨rfl,h4,x1.trans x4⟩
theorem Uhk{q:St}{qt:Str}(hq:q=.dq\/q=.sq)(h:TP O U s)(f:Fit q s):Run (callK (P p) (d+4) a_quoted_value [.ref 2 U.i,.str qt]) O (Ends s U O (s.go (actQuoted qt s.cur))):=by
 have ho:=f.out;have he:=f.errs;refine xEAAAAA (f.ds (by rcases hq with rfl | rfl <;> nofun) (by rcases hq with rfl | rfl <;> nofun)) fun D hd hk hl hn hx=>?_;refine xEEAAA (hx (by rcases hq with rfl | rfl <;> simp)) fun init a ha hna hva=>?_;have hput:∀ s1:PS,s1.state=s.state->s1.deed .put s.cur=s1.addValue (repl s.cur):=fun s1 e1=>by
  show (if (s1.state==Qad)=true then _ else if (s1.state==Qac)=true then _ else _:PS)=_;rw [e1,f.st];rcases hq with rfl | rfl <;> rw [if_neg (by decide),if_neg (by decide)]
 rw [Ugm];show RF _ O _;delta F_quoted_value;refine RF.next h f.pos fun O1 h1 x1=>?_;delta actQuoted;refine RF.eq (fun c1=>?_) fun c1=>?_
 ·refine gy c1 ?_;exact RF.to h1 fun O2 h2 x2=>RF.n ⟨rfl,h2,x1.trans x2⟩
 refine gn c1 ?_;refine RF.eq (fun c2=>?_) fun c2=>?_
 ·refine gy c2 ?_;exact RF.refer h1 fun O2 h2 x2=>RF.n ⟨rfl,h2,x1.trans x2⟩
 refine gn c2 ?_;refine RF.eq (fun c4=>?_) fun c4=>?_
 ·refine gy c4 ?_;refine RF.error h1 (by show s.errs.length < lim;exact om0 he) fun O2 h2 x2=>RF.add_value h2 hd ha (by show a.v.length+1<=lim;exact om11 hva) fun O3 h3 x3=>RF.n ⟨rfl,?_,x1.trans (x2.trans x3)⟩;show TP O3 U ((s.nxt.error _).deed .put s.cur);rw [hput (s.nxt.error _) rfl];delta PS.addValue repl;rw [if_pos c4,Ua3 (s:=s.nxt.error _) hd ha];exact h3
 refine gn c4 ?_;refine RF.eq (fun c5=>?_) fun c5=>?_
 ·refine gy c5 ?_;exact RF.cut h1 (by show s.out.length < lim;exact om0 ho) (by show s.errs.length < lim;exact om0 he) fun O2 h2 x2=>RF.n ⟨rfl,h2,x1.trans x2⟩
 refine gn c5 ?_;refine RF.add_value h1 hd ha (by have:=f.cl;exact om10 hva this) fun O3 h3 x3=>RF.n ⟨rfl,?_,x1.trans x3⟩;show TP O3 U (s.nxt.deed .put s.cur);rw [hput s.nxt rfl];delta PS.addValue repl;rw [if_neg (by rw [c4];decide),Ua3 (s:=s.nxt) hd ha];exact h3
theorem dq_run(h:TP O U s)(f:Fit .dq s):RF (F_double_quoted_state p (callK (P p) (d+4)) (.ref 2 U.i)) O (Ends s U O (s.go (actQuoted "\"" s.cur))):=by
 delta F_double_quoted_state;exact RF.c (Uhk (.inl rfl) h f) fun v O' qq=>xAAA qq fun e h' x=>RF.n ⟨rfl,h',x⟩
theorem sq_run(h:TP O U s)(f:Fit .sq s):RF (F_single_quoted_state p (callK (P p) (d+4)) (.ref 2 U.i)) O (Ends s U O (s.go (actQuoted "'" s.cur))):=by
 delta F_single_quoted_state;exact RF.c (Uhk (.inr rfl) h f) fun v O' qq=>xAAA qq fun e h' x=>RF.n ⟨rfl,h',x⟩
theorem Ur6(h:TP O U s)(f:Fit .bare s):RF (F_unquoted_state p (callK (P p) (d+4)) (.ref 2 U.i)) O (Ends s U O (s.go (actBare s.cur))):=by
 have ho:=f.out;have he:=f.errs;refine xEAAAAA (f.ds nofun nofun) fun D hd hk hl hn hx=>?_;refine xEEAAA (hx (by simp)) fun init a ha hna hva=>?_;have hput:∀ s1:PS,s1.state=s.state->s1.deed .put s.cur=s1.addValue (repl s.cur):=fun s1 e1=>by
  show (if (s1.state==Qad)=true then _ else if (s1.state==Qac)=true then _ else _:PS)=_;rw [e1,f.st,if_neg (by decide),if_neg (by decide)]
 have low:∀ {O2:Store} {s1:PS},TP O2 U s1->Fx O O2->s1.draft=some D->s1.state=s.state->(s.cur==Qak)=false->RF (J_unquoted_state_0 p (callK (P p) (d+4)) [(Qd,.ref 2 U.i),(Qf,.str s.cur)]) O2 (Ends s U O (s1.deed .put s.cur)):=by
  intro O2 s1 h2 x2 hd2 hs2 c4;rw [Ucl];delta J_unquoted_state_0_T0;refine RF.add_value h2 hd2 ha (by have:=f.cl;exact om10 hva this) fun O3 h3 x3=>RF.n ⟨rfl,?_,x2.trans x3⟩;rw [hput s1 hs2];delta PS.addValue repl;rw [if_neg (by rw [c4];decide),Ua3 hd2 ha];exact h3
 delta F_unquoted_state;refine RF.next h f.pos fun O1 h1 x1=>?_;delta actBare;refine RF.blank (fun c1=>?_) fun c1=>?_
 ·refine gy c1 ?_;exact RF.to h1 fun O2 h2 x2=>RF.n ⟨rfl,h2,x1.trans x2⟩
 refine gn c1 ?_;refine RF.eq (fun c2=>?_) fun c2=>?_
 ·refine gy c2 ?_;exact RF.refer h1 fun O2 h2 x2=>RF.n ⟨rfl,h2,x1.trans x2⟩
 refine gn c2 ?_;refine RF.eq (fun c3=>?_) fun c3=>?_
 ·refine gy c3 ?_;exact RF.finish h1 hd hk (by show s.out.length < lim;exact om0 ho) (by show s.errs.length+1 < lim;exact om1 he) (om4 hl) fun O2 h2 x2=>RF.n ⟨rfl,h2,x1.trans x2⟩
 refine gn c3 ?_;refine RF.eq (fun c4=>?_) fun c4=>?_
 ·refine gy c4 ?_;refine RF.error h1 (by show s.errs.length < lim;exact om0 he) fun O2 h2 x2=>RF.add_value h2 hd ha (by show a.v.length+1<=lim;exact om11 hva) fun O3 h3 x3=>RF.n ⟨rfl,?_,x1.trans (x2.trans x3)⟩;show TP O3 U ((s.nxt.error _).deed .put s.cur);rw [hput (s.nxt.error _) rfl];delta PS.addValue repl;rw [if_pos c4,Ua3 (s:=s.nxt.error _) hd ha];exact h3
 refine gn c4 ?_;refine RF.eq (fun c5=>?_) fun c5=>?_
 ·refine gy c5 ?_;exact RF.cut h1 (by show s.out.length < lim;exact om0 ho) (by show s.errs.length < lim;exact om0 he) fun O2 h2 x2=>RF.n ⟨rfl,h2,x1.trans x2⟩
 refine gn c5 ?_;refine RF.mem (l:=["\"","'","<","=","`"]) rfl (fun c6=>?_) fun c6=>?_
 ·refine gy c6 ?_;exact RF.error h1 (by show s.errs.length < lim;exact om0 he) fun O2 h2 x2=>low h2 (x1.trans x2) hd rfl c4
 refine gn c6 ?_;exact low h1 x1 hd rfl c4
theorem Uld(h:TP O U s)(f:Fit .aftVal s):RF (F_after_quoted_state p (callK (P p) (d+4)) (.ref 2 U.i)) O (Ends s U O (s.go (actAftVal s.cur))):=by
 have ho:=f.out;have he:=f.errs;refine xEAAAAA (f.ds nofun nofun) fun D hd hk hl hn w0=>?_;delta F_after_quoted_state;refine RF.next h f.pos fun O1 h1 x1=>?_;delta actAftVal;refine RF.blank (fun c1=>?_) fun c1=>?_
 ·refine gy c1 ?_;exact RF.to h1 fun O2 h2 x2=>RF.n ⟨rfl,h2,x1.trans x2⟩
 refine gn c1 ?_;refine RF.eq (fun c2=>?_) fun c2=>?_
 ·refine gy c2 ?_;exact RF.to h1 fun O2 h2 x2=>RF.n ⟨rfl,h2,x1.trans x2⟩
 refine gn c2 ?_;refine RF.eq (fun c4=>?_) fun c4=>?_
 ·refine gy c4 ?_;exact RF.finish h1 hd hk (by show s.out.length < lim;exact om0 ho) (by show s.errs.length+1 < lim;exact om1 he) (om4 hl) fun O2 h2 x2=>RF.n ⟨rfl,h2,x1.trans x2⟩
 refine gn c4 ?_;refine RF.eq (fun c5=>?_) fun c5=>?_
 ·refine gy c5 ?_;exact RF.cut h1 (by show s.out.length < lim;exact om0 ho) (by show s.errs.length < lim;exact om0 he) fun O2 h2 x2=>RF.n ⟨rfl,h2,x1.trans x2⟩
 refine gn c5 ?_;exact RF.error h1 (by show s.errs.length < lim;exact om0 he) fun O2 h2 x2=>RF.again h2 fun O4 h4 x4=>RF.n ⟨rfl,h4,x1.trans (x2.trans x4)⟩
end
noncomputable def okL:List Nat:=[0,9,10,12,13,0xC9,0x212A,0xFFFD]++(List.range 95).map (·+32)
noncomputable def feedL:Bool->List Nat->List Str
 | _,[]=>[]
 | r,c::cs=>(if c==13 then [Qbp] else if c != 10||!r then [ch c] else [])++feedL (c==13) cs
noncomputable def lastR(r:Bool)(cs:List Nat):Bool:=match cs.getLast? with
 | some c=>c==13
 | none=>r
noncomputable def PS.feed(s:PS)(x:Str):PS:={ s with signs:=s.signs++feedL s.isret x.cps.toList,isret:=lastR s.isret x.cps.toList }
noncomputable def PS.end(s:PS):PS:={ s with closed:=true }
theorem Ual:∀ (r:Bool) (a b:List Nat),feedL r (a++b)=feedL r a++feedL (lastR r a) b
 | r,[],b=>rfl
 | r,c::cs,b=>by
  have e:lastR (c==13) cs=lastR r (c::cs):=by
   delta lastR;cases cs with
   | nil=>rfl
   | cons x y =>
    rw [List.getLast?_cons_cons];cases h:(x::y).getLast? with
    | none=>rw [List.getLast?_eq_none_iff] at h;cases h
    | some z=>rfl
  simp only [feedL,List.cons_append,Ual (c==13) cs b,List.append_assoc,e]
theorem Ufn(r:Bool)(a b:List Nat):lastR r (a++b)=lastR (lastR r a) b:=by
 delta lastR;cases h:b.getLast? with
 | none=>rw [List.getLast?_eq_none_iff] at h;subst h;simp
 | some x=>simp [h]
section
variable {p:Params}{O O' O₁:Store}{U:Rf}{t:TS}{s:PS}{n d:Nat}{D:PD}{dr:Dr}{init:List PA}{a:PA}{Q:V->Store->Prop}{k:V->M Fl}{A B:M Fl}
theorem Un8:okL.map (fun n=>callK (P p) (d+2) a_input_error [.int (Int.ofNat n)] O)=okL.map (fun w0=>some (V.str Qa,O)):=by kernel_rfl
theorem Ugq{n:Nat}(h:n ∈ okL):callK (P p) (d+2) a_input_error [.int n] O=some (.str "",O):=by
 have:=List.map_inj_left.mp (Un8 (p:=p) (d:=d) (O:=O)) n h;exact this
theorem TR.setSg{l:List Str}(h:TR O U t):TR (O.put 7 U.sg (.list (l.map .str))) U { t with signs:=l }/\Fx O (O.put 7 U.sg (.list (l.map .str))) :=
 ⟨⟨Uah.trans h.len,(Uaf h.sg (by decide)).trans h.tok,(Uaf h.sg (by decide)).trans h.str,Uae h.sg,(Uaf h.sg (by decide)).trans h.se,(Uaf h.sg (by decide)).trans h.out,(Uaf h.sg (by decide)).trans h.err,
  (Uaf h.sg (by decide)).trans h.sd,fun d e=>(h.dr d e).put h.sg ⟨by decide,by decide,by decide⟩⟩,Fx.put rfl⟩
theorem TR.setStr{b c:Bool}(h:TR O U t):TR (O.put 1 U.s (.inst c_Stream (strEs U { t with closed:=b,isret:=c }))) U { t with closed:=b,isret:=c }/\Fx O (O.put 1 U.s (.inst c_Stream (strEs U { t with closed:=b,isret:=c }))) :=
 ⟨⟨Uah.trans h.len,(Uaf h.str (by decide)).trans h.tok,Uae h.str,(Uaf h.str (by decide)).trans h.sg,(Uaf h.str (by decide)).trans h.se,(Uaf h.str (by decide)).trans h.out,(Uaf h.str (by decide)).trans h.err,
  (Uaf h.str (by decide)).trans h.sd,fun d e=>(h.dr d e).put h.str ⟨by decide,by decide,by decide⟩⟩,Fx.put rfl⟩
theorem Uo1(h:TR O U t):∃ O',setAttrV (P p) (.ref 1 U.s) Qbi (.bool true) O=some ((),O')/\TR O' U { t with closed:=true }/\Fx O O' :=
 ⟨_,Uaj (es':=strEs U { t with closed:=true,isret:=t.isret }) h.str (by kernel_rfl) (by show 4 < 100;decide) (by kernel_rfl),h.setStr⟩
theorem Um8(h:TR O U t)(b:Bool):∃ O',setAttrV (P p) (.ref 1 U.s) Qbf (.bool b) O=some ((),O')/\TR O' U { t with isret:=b }/\Fx O O' :=
 ⟨_,Uaj (es':=strEs U { t with closed:=t.closed,isret:=b }) h.str (by kernel_rfl) (by show 4 < 100;decide) (by kernel_rfl),h.setStr⟩
theorem Run.ct{α:Type}{a b:M α}{Q:α->Store->Prop}(h:Run a O Q):Run (cond true a b) O Q:=h
theorem Run.cf{α:Type}{a b:M α}{Q:α->Store->Prop}(h:Run b O Q):Run (cond false a b) O Q:=h
noncomputable def Shape(U:Rf)(x:Str)(fr:Fr):Prop:=fr=[(Qe,.ref 1 U.s),(Qc,.str x)]\/(∃ v,fr=[(Qe,.ref 1 U.s),(Qc,.str x),(Qf,v)]) \/
 ∃ v w,fr=[(Qe,.ref 1 U.s),(Qc,.str x),(Qf,v),(Qaf,w)]
noncomputable def Turned(U:Rf)(x:Str)(O:Store)(t:TS):Fl->Store->Prop:=fun fl O'=>∃ fr',fl=.next fr'/\Shape U x fr'/\TR O' U t/\Fx O O'
noncomputable def TS.add(t:TS)(l:List Str)(b:Bool):TS:={ t with signs:=t.signs++l,isret:=b }
theorem Ufl(c k:Nat):(ch c==ch k)=(c==k):=by
 delta ch
 by_cases h:c=k
 ·subst h;simp
 ·have:(⟨#[c]⟩:Str)≠⟨#[k]⟩:=fun e=>h (by cases e;rfl);rw [beq_eq_false_iff_ne.mpr this,beq_eq_false_iff_ne.mpr h]
theorem Umx{x:Str}{c:Nat}{l:List Str}(h:TR O U { t with signs:=t.signs++l })(f:Fx O₁ O):Run (J_Stream_feed_2 p (callK (P p) d) [(Qe,.ref 1 U.s),(Qc,.str x),(Qf,.str (ch c))]) O (Turned U x O₁ (t.add l (c==13))):=by
 rw [Udh];refine xEAAA (Um8 (p:=p) h (c==13)) fun O2 e2 h2 f2=>?_;exact Run.l (a:=c==13) (congrArg some (Ufl c 13)) (Run.b e2 (Run.next ⟨_,rfl,.inr (.inl ⟨_,rfl⟩),h2,f.trans f2⟩))
theorem Ui5{x:Str}{w:V}{c:Nat}{l:List Str}(h:TR O U { t with signs:=t.signs++l })(f:Fx O₁ O):Run (J_Stream_feed_2 p (callK (P p) d) [(Qe,.ref 1 U.s),(Qc,.str x),(Qf,.str (ch c)),(Qaf,w)]) O (Turned U x O₁ (t.add l (c==13))):=by
 rw [Udb];refine xEAAA (Um8 (p:=p) h (c==13)) fun O2 e2 h2 f2=>?_;exact Run.l (a:=c==13) (congrArg some (Ufl c 13)) (Run.b e2 (Run.next ⟨_,rfl,.inr (.inr ⟨_,_,rfl⟩),h2,f.trans f2⟩))
theorem app_sg(h:TR O U t)(x:Str)(hl:t.signs.length < lim){c:CC}:∃ O',methodV c (.bi .append) (.ref 7 U.sg) [.str x] O=some (.none,O')/\TR O' U { t with signs:=t.signs++[x] }/\Fx O O':=by
 have:=h.setSg (l:=t.signs++[x]);rw [List.map_append] at this;exact ⟨_,Uag h.sg (by rw [List.length_map];exact hl),this⟩
theorem Ujr{x:Str}{w:V}{c:Nat}(h:TR O U t)(f:Fx O₁ O)(hl:t.signs.length < lim):Run (J_Stream_feed_3 p (callK (P p) d) [(Qe,.ref 1 U.s),(Qc,.str x),(Qf,.str (ch c)),(Qaf,w)]) O (Turned U x O₁ (t.add [ch c] (c==13))):=by
 rw [Ud1];delta J_Stream_feed_3_T0;refine xEAAA (app_sg h (ch c) hl (c:=callK (P p) d)) fun O2 e2 h2 f2=>?_;exact Run.b (Uea h) (Run.app h.sg (Run.b e2 (Ui5 h2 (f.trans f2))))
theorem ord_of(c:Nat):builtinV .ord [.str (ch c)] O=some (.int c,O):=rfl
theorem Uie{x:Str}{w:V}{c:Nat}(h:TR O U t)(hl:t.signs.length < lim)(hc:c ∈ okL):Run (T_Stream_feed_l0_0 p (callK (P p) (d+2)) (.ref 1 U.s) (.str x) (.str (ch c))) O
  (Turned U x O (t.add (if c==13 then [Qbp] else if c != 10||!t.isret then [ch c] else []) (c==13))):=by
 delta T_Stream_feed_l0_0;refine Run.l (a:=c==13) (congrArg some (Ufl c 13)) ?_;cases c13:c==13 with
 | true =>
  refine xEAAA (app_sg h Qbp hl (c:=callK (P p) (d+2))) fun O2 e2 h2 f2=>?_;refine Run.pos rfl (Run.b (Uea h) (Run.app h.sg (Run.b e2 ?_)));have:=Umx (p:=p) (d:=d+2) (x:=x) (c:=c) (t:=t) (l:=["\n"]) h2 f2;rw [c13] at this;exact this
 | false =>
  have two:∀ {w:V},Run (bnd (builtinV .ord [V.str (ch c)]) fun x8=>bnd (callK (P p) (d+2) a_input_error [x8]) fun x9=>bnd (look (cmpV .NotEq x9 (.str Qa))) fun x10 =>
    (if x10 then fail else J_Stream_feed_3 p (callK (P p) (d+2)) [(Qe,.ref 1 U.s),(Qc,.str x),(Qf,.str (ch c)),(Qaf,x9)])) O (Turned U x O (t.add [ch c] false)):=by
   intro w;refine Run.b (ord_of c) (Run.b (Ugq hc) (Run.l (a:=false) (by kernel_rfl) (Run.neg Bool.false_ne_true ?_)));have:=Ujr (p:=p) (d:=d+2) (x:=x) (w:=.str "") (c:=c) h Fx.rfl hl;rw [c13] at this;exact this
  have three:∀ (K:V->V->M Fl),Run (bnd (builtinV .ord [V.str (ch c)]) fun x8=>bnd (callK (P p) (d+2) a_input_error [x8]) fun x9=>bnd (look (cmpV .NotEq x9 (.str Qa))) fun x10 =>
    (if x10 then K x8 x9 else J_Stream_feed_3 p (callK (P p) (d+2)) [(Qe,.ref 1 U.s),(Qc,.str x),(Qf,.str (ch c)),(Qaf,x9)])) O (Turned U x O (t.add [ch c] false)):=by
   intro K;refine Run.b (ord_of c) (Run.b (Ugq hc) (Run.l (a:=false) (by kernel_rfl) (Run.neg Bool.false_ne_true ?_)));have:=Ujr (p:=p) (d:=d+2) (x:=x) (w:=.str "") (c:=c) h Fx.rfl hl;rw [c13] at this;exact this
  refine Run.neg Bool.false_ne_true (Run.l (a:=!(c==10)) (congrArg (fun b=>some (!b)) (Ufl c 10)) ?_);skip;cases c10:c==10 with
  | false =>
   have e:(c != 10||!t.isret)=true:=by simp only [bne,c10];rfl
   rw [e];exact Run.ct (three _)
  | true =>
   have e:(c != 10||!t.isret)=!t.isret:=by simp only [bne,c10];rfl
   rw [e];refine Run.cf (Run.b (Ufm h) ?_);show Run (cond (!t.isret) _ _) O _;cases hr:t.isret with
   | false =>
    exact Run.ct (three _)
   | true =>
    have:=Umx (p:=p) (d:=d+2) (x:=x) (c:=c) (t:=t) (l:=[]) (by rw [List.append_nil];exact h) Fx.rfl;rw [c13] at this;exact Run.cf this
theorem Um3{x:Str}{w:V}{c:Nat}(h:TR O U t)(hl:t.signs.length < lim)(hc:c ∈ okL):Run (T_Stream_feed_l0_1 p (callK (P p) (d+2)) (.ref 1 U.s) (.str x) (.str (ch c)) w) O
  (Turned U x O (t.add (if c==13 then [Qbp] else if c != 10||!t.isret then [ch c] else []) (c==13))):=by
 delta T_Stream_feed_l0_1;refine Run.l (a:=c==13) (congrArg some (Ufl c 13)) ?_;cases c13:c==13 with
 | true =>
  refine xEAAA (app_sg h Qbp hl (c:=callK (P p) (d+2))) fun O2 e2 h2 f2=>?_;refine Run.pos rfl (Run.b (Uea h) (Run.app h.sg (Run.b e2 ?_)));have:=Ui5 (p:=p) (d:=d+2) (x:=x) (w:=w) (c:=c) (t:=t) (l:=["\n"]) h2 f2;rw [c13] at this;exact this
 | false =>
  have two:∀ {w:V},Run (bnd (builtinV .ord [V.str (ch c)]) fun x8=>bnd (callK (P p) (d+2) a_input_error [x8]) fun x9=>bnd (look (cmpV .NotEq x9 (.str Qa))) fun x10 =>
    (if x10 then fail else J_Stream_feed_3 p (callK (P p) (d+2)) [(Qe,.ref 1 U.s),(Qc,.str x),(Qf,.str (ch c)),(Qaf,x9)])) O (Turned U x O (t.add [ch c] false)):=by
   intro w;refine Run.b (ord_of c) (Run.b (Ugq hc) (Run.l (a:=false) (by kernel_rfl) (Run.neg Bool.false_ne_true ?_)));have:=Ujr (p:=p) (d:=d+2) (x:=x) (w:=.str "") (c:=c) h Fx.rfl hl;rw [c13] at this;exact this
  have three:∀ (K:V->V->M Fl),Run (bnd (builtinV .ord [V.str (ch c)]) fun x8=>bnd (callK (P p) (d+2) a_input_error [x8]) fun x9=>bnd (look (cmpV .NotEq x9 (.str Qa))) fun x10 =>
    (if x10 then K x8 x9 else J_Stream_feed_3 p (callK (P p) (d+2)) [(Qe,.ref 1 U.s),(Qc,.str x),(Qf,.str (ch c)),(Qaf,x9)])) O (Turned U x O (t.add [ch c] false)):=by
   intro K;refine Run.b (ord_of c) (Run.b (Ugq hc) (Run.l (a:=false) (by kernel_rfl) (Run.neg Bool.false_ne_true ?_)));have:=Ujr (p:=p) (d:=d+2) (x:=x) (w:=.str "") (c:=c) h Fx.rfl hl;rw [c13] at this;exact this
  refine Run.neg Bool.false_ne_true (Run.l (a:=!(c==10)) (congrArg (fun b=>some (!b)) (Ufl c 10)) ?_);skip;cases c10:c==10 with
  | false =>
   have e:(c != 10||!t.isret)=true:=by simp only [bne,c10];rfl
   rw [e];exact Run.ct (three _)
  | true =>
   have e:(c != 10||!t.isret)=!t.isret:=by simp only [bne,c10];rfl
   rw [e];refine Run.cf (Run.b (Ufm h) ?_);show Run (cond (!t.isret) _ _) O _;cases hr:t.isret with
   | false =>
    exact Run.ct (three _)
   | true =>
    have:=Ui5 (p:=p) (d:=d+2) (x:=x) (w:=w) (c:=c) (t:=t) (l:=[]) (by rw [List.append_nil];exact h) Fx.rfl;rw [c13] at this;exact Run.cf this
theorem Uf0(h:TR O U t)(hc:t.closed=false)(x:Str)(hx:∀ c ∈ x.cps.toList,c ∈ okL)(hl:t.signs.length+x.cps.toList.length < 5000) :
  Run (callK (P p) (d+3) a_Stream_feed [.ref 1 U.s,.str x]) O fun v O'=>v=.none/\TR O' U (t.add (feedL t.isret x.cps.toList) (lastR t.isret x.cps.toList))/\Fx O O':=by
 rw [Uhw];show RF _ O _;delta F_Stream_feed;refine RF.b (Ue4 h) ?_;rw [hc];refine RF.neg Bool.false_ne_true ?_;rw [Udf];delta J_Stream_feed_0_T0;have fl:∀ (r:Bool) (l:List Nat),(feedL r l).length<=l.length:=by
  intro r l;induction l generalizing r with
  | nil=>exact Nat.le_refl 0
  | cons c cs ih =>
   simp only [feedL,List.length_cons,List.length_append];have:=ih (c==13);have h1:(if (c==13)=true then [Qbp] else if (c != 10||!r)=true then [ch c] else []).length<=1:=by
    split
    ·exact Nat.le_refl 1
    ·split
     ·exact Nat.le_refl 1
     ·exact Nat.zero_le 1
   exact om14 this h1
 refine forRun (fun k fr s=>TR s U (t.add (feedL t.isret (x.cps.toList.take k)) (lastR t.isret (x.cps.toList.take k)))/\Fx O s/\Shape U x fr)
  (x.cps.toList.map fun c=>.str (ch c)) ⟨by simpa [feedL,lastR,TS.add] using h,Fx.rfl,.inl rfl⟩ (by rw [List.length_map];exact Nat.lt_of_add_left_lt hl) (fun k v fr s hv hI=>?_) (fun fr s hI=>?_) fun fr s hI=>?_
 ·refine xAAA hI fun hT hX hfr=>?_;rw [List.getElem?_map] at hv;obtain ⟨c,hcc,rfl⟩:=Option.map_eq_some_iff.mp hv;have hk:k < x.cps.toList.length:=by rw [List.getElem?_eq_some_iff] at hcc;exact hcc.1
  have hc':x.cps.toList[k]=c:=by rw [List.getElem?_eq_some_iff] at hcc;exact hcc.2
  have hm:c ∈ okL:=hx c (List.mem_of_getElem? hcc);refine ⟨Ue9 (by rw [<- hcc];simp),?_⟩;have hll:(t.add (feedL t.isret (x.cps.toList.take k)) (lastR t.isret (x.cps.toList.take k))).signs.length < lim:=by
   have h1:=fl t.isret (x.cps.toList.take k);have h2:=List.length_take_le k x.cps.toList;show (t.signs++_).length < lim;rw [List.length_append];delta lim;exact om312 hl hk h1 h2
  have tk:t.add (feedL t.isret (x.cps.toList.take (k+1))) (lastR t.isret (x.cps.toList.take (k+1))) =
    (t.add (feedL t.isret (x.cps.toList.take k)) (lastR t.isret (x.cps.toList.take k))).add (if c==13 then [Qbp] else if c != 10||!(lastR t.isret (x.cps.toList.take k)) then [ch c] else []) (c==13):=by
   rw [List.take_succ_eq_append_getElem hk,Ual,Ufn,hc'];simp [TS.add,feedL,lastR]
  have done:∀ {fl:Fl} {s':Store},Turned U x s ((t.add (feedL t.isret (x.cps.toList.take k)) (lastR t.isret (x.cps.toList.take k))).add (if c==13 then [Qbp] else if c != 10||!(lastR t.isret (x.cps.toList.take k)) then [ch c] else []) (c==13)) fl s' ->
    (∃ fr',fl=.next fr'/\TR s' U (t.add (feedL t.isret (x.cps.toList.take (k+1))) (lastR t.isret (x.cps.toList.take (k+1))))/\Fx O s'/\Shape U x fr')\/∃ v,fl=.ret v/\(v=V.none/\TR s' U (t.add (feedL t.isret x.cps.toList) (lastR t.isret x.cps.toList))/\Fx O s'):=by
   intro fl s' ⟨fr',e,sh,hT',f'⟩;exact .inl ⟨fr',e,by rw [tk];exact hT',hX.trans f',sh⟩
  rcases hfr with rfl | ⟨v,rfl⟩ | ⟨v,w,rfl⟩
  ·exact ⟨[(Qe,.ref 1 U.s),(Qc,.str x),(Qf,.str (ch c))],by rw [Ubi (by kernel_rfl)];kernel_rfl,by rw [Ua8];exact (Uie (w:=.none) hT hll hm).mono fun fl s' h=>done h⟩
  ·exact ⟨[(Qe,.ref 1 U.s),(Qc,.str x),(Qf,.str (ch c))],by rw [Ubi (by kernel_rfl)];kernel_rfl,by rw [Ua8];exact (Uie (w:=.none) hT hll hm).mono fun fl s' h=>done h⟩
  ·exact ⟨[(Qe,.ref 1 U.s),(Qc,.str x),(Qf,.str (ch c)),(Qaf,w)],by rw [Ubi (by kernel_rfl)];kernel_rfl,by rw [Ucs];exact (Um3 hT hll hm).mono fun fl s' h=>done h⟩
 ·exact Ugl (by simp)
 ·obtain ⟨hT,hX,hfr⟩:=hI;rw [List.length_map,List.take_length] at hT;rcases hfr with rfl | ⟨v,rfl⟩ | ⟨v,w,rfl⟩
  ·rw [Uds];exact RF.n ⟨rfl,hT,hX⟩
  ·rw [Udi];exact RF.n ⟨rfl,hT,hX⟩
  ·rw [Ud2];exact RF.n ⟨rfl,hT,hX⟩
theorem Uri(h:TP O U s)(hc:s.closed=false)(x:Str)(hx:∀ c ∈ x.cps.toList,c ∈ okL)(hl:s.signs.length+x.cps.toList.length < 5000) :
  Run (callK (P p) (d+4) a_Tokenizer_feed [.ref 2 U.i,.str x]) O fun v O'=>v=.none/\TP O' U (s.feed x)/\Fx O O':=by
 rw [Ufk];show RF _ O _;delta F_Tokenizer_feed;obtain ⟨t,h,hw,rfl⟩:=h;refine RF.b (Ub5 h) (RF.mk (Utj h) (RF.c (Uf0 h hc x hx hl) fun v O' ⟨e,h',f⟩=>?_));subst e;obtain ⟨O2,e2,h2,f2⟩:=Ucn (p:=p) h' false;exact RF.b e2 (RF.n ⟨rfl,⟨_,h2,rfl,rfl⟩,f.trans f2⟩)
theorem Usx(h:TP O U s):Run (callK (P p) (d+2) a_Tokenizer_end [.ref 2 U.i]) O fun v O'=>v=.none/\TP O' U s.end/\Fx O O':=by
 rw [Uf3];show RF _ O _;delta F_Tokenizer_end;obtain ⟨t,h,hw,rfl⟩:=h;obtain ⟨O1,e1,h1,f1⟩:=Uo1 (p:=p) h;obtain ⟨O2,e2,h2,f2⟩:=Ucn (p:=p) h1 false;refine RF.b (Ub5 h) (RF.mk (ms_end h) (RF.b (a:=.none) (O₁:=O1) ?_ (RF.b e2 (RF.n ⟨rfl,⟨_,h2,rfl,rfl⟩,f1.trans f2⟩))));show callK (P p) (d+1) a_Stream_end [.ref 1 U.s] O=_;rw [Ui6];delta F_Stream_end;refine ba_of e1 ?_
 rfl
end
noncomputable def PS.step(s:PS):PS:=match ofStr s.state with
 | some q=>s.go (act q s.cur)
 | none=>s
noncomputable def PS.ready(s:PS):Bool:=!s.done&&((ofStr s.state).isSome&&(s.closed||decide (s.pos < s.signs.length)))
noncomputable def PS.fit(s:PS):Prop:=∃ q,Fit q s
inductive Runs:PS->Nat->PS->Prop
 | stop {s:PS}:s.ready=false->Runs s 0 s
 | go {s s':PS} {n:Nat}:s.ready=true->s.fit->Runs s.step n s'->Runs s (n+1) s'
theorem Ugi{α β:Type}(f:β->Str)(g:β->α)(x:Str):∀ l:List β,lk x (l.map fun q=>(f q,g q))=(l.find? fun q=>f q==x).map g
 | []=>rfl
 | q::r=>by
  simp only [List.map_cons,lk,List.find?_cons,Ugi f g x r];cases f q==x <;> rfl
theorem Up4(x:Str):lk x stEs=(ofStr x).map fun q=>.fn q.addr:=by
 have e:stEs=allSt.map fun q=>(q.str,V.fn q.addr):=by kernel_rfl
 rw [e,Ugi];rfl
theorem Uai(q:St):ofStr q.str=some q:=by cases q <;> kernel_rfl
section
variable {p:Params}{O O' O₁:Store}{U:Rf}{t:TS}{s s':PS}{n d:Nat}{D:PD}{dr:Dr}{init:List PA}{a:PA}{Q:V->Store->Prop}{k:V->M Fl}{A B:M Fl}
theorem Uqd{q:St}(h:TP O U s)(f:Fit q s):Run (callK (P p) (d+5) q.addr [.ref 2 U.i]) O (Ends s U O (s.go (act q s.cur))):=by
 cases q with
 | tagOpen=>show Run (callK (P p) (d+5) a_tag_open_state _) O _;rw [Ufw];exact Uiw (d:=d+1) h f
 | endOpen=>show Run (callK (P p) (d+5) a_end_tag_open_state _) O _;rw [Uc5];exact Uiy (d:=d+1) h f
 | tagName=>show Run (callK (P p) (d+5) a_tag_name_state _) O _;rw [Ufx];exact Ujf (d:=d+1) h f
 | self=>show Run (callK (P p) (d+5) a_self_closing_state _) O _;rw [Uc8];exact Urq (d:=d+1) h f
 | befName=>show Run (callK (P p) (d+5) a_before_attr_name_state _) O _;rw [Ub4];exact Uil (d:=d+1) h f
 | name=>show Run (callK (P p) (d+5) a_attr_name_state _) O _;rw [Uev];exact Url (d:=d+1) h f
 | aftName=>show Run (callK (P p) (d+5) a_after_attr_name_state _) O _;rw [Ucg];exact Ui0 (d:=d) h f
 | befVal=>show Run (callK (P p) (d+5) a_before_attr_value_state _) O _;rw [Ubw];exact Ukq (d:=d) h f
 | dq=>show Run (callK (P p) (d+5) a_double_quoted_state _) O _;rw [Uct];exact dq_run (d:=d) h f
 | sq=>show Run (callK (P p) (d+5) a_single_quoted_state _) O _;rw [Ucx];exact sq_run (d:=d) h f
 | bare=>show Run (callK (P p) (d+5) a_unquoted_state _) O _;rw [Ufr];exact Ur6 (d:=d) h f
 | aftVal=>show Run (callK (P p) (d+5) a_after_quoted_state _) O _;rw [Uda];exact Uld (d:=d) h f
theorem Unt{q:St}{c:CC}{vs:List V}:applyV (P p) c (.fn q.addr) vs=c q.addr vs:=by
 have e:lkN q.addr clsL=none:=by cases q <;> kernel_rfl
 show (match lkN q.addr clsL with | some c=>_ | none=>_)=_;rw [e]
theorem Urx(h:TP O U s)(f:s.fit):Run (callK (P p) (d+6) a_Tokenizer_step [.ref 2 U.i]) O (Ends s U O s.step):=by
 refine xEA f fun q f=>?_;have es:s.step=s.go (act q s.cur):=by delta PS.step;rw [f.st,Uai]
 have hlk:lk s.state stEs=some (.fn q.addr):=by rw [f.st,Up4,Uai];rfl
 rw [es,Ue7];show RF _ O _;delta F_Tokenizer_step;obtain ⟨t,h,hw,rfl⟩:=h;have hlk:lk t.state stEs=some (.fn q.addr):=hlk;refine RF.b (Ufe h) (RF.b (Ug7 h) (RF.l (a:=false) (by show (inV O _ _).map (!·)=_;rw [Uj5 h.sd,hlk];rfl) (RF.neg Bool.false_ne_true ?_)));rw [Uci];delta J_Tokenizer_step_0_T0;refine xEAAA (Ucn (p:=p) h false) fun O1 e1 h1 f1=>?_;refine RF.b e1 (RF.b (ga_at h1) (RF.b (Ug7 h1) (RF.b (Ufe h1) (RF.l (a:=.fn q.addr) (Ubq h1.sd hlk) ?_))));have hp:TP O1 U t.pl:=⟨_,h1,rfl,rfl⟩
 rw [Unt];refine RF.c (Uqd (p:=p) (d:=d) hp f) fun v O2 ⟨ev,⟨t2,h2,w2,e2⟩,f2⟩=>?_;refine RF.b (Uef h2) ?_;show RF (if t2.waiting=true then _ else _) O2 _;rw [w2];exact RF.neg Bool.false_ne_true (RF.n ⟨rfl,⟨t2,h2,w2,e2⟩,f1.trans f2⟩)
theorem Uo4(h:TP O U s):callK (P p) (d+1) a_Tokenizer_is_ready [.ref 2 U.i] O=some (.bool s.ready,O):=by
 obtain ⟨t,h,hw,rfl⟩:=h;have e:RF (F_Tokenizer_is_ready p (callK (P p) d) (.ref 2 U.i)) O fun v O'=>v=.bool t.pl.ready/\O'=O:=by
  delta F_Tokenizer_is_ready PS.ready;refine RF.b (Ufq h) ?_;show RF (cond t.done _ _) O _;show RF _ O fun v O'=>v=.bool (!t.done&&((ofStr t.state).isSome&&(t.closed||decide (t.pos < t.signs.length))))/\O'=O;cases hd:t.done with
  | true=>exact RF.r ⟨rfl,rfl⟩
  | false =>
   show RF (bnd (attrV (P p) (.ref 2 U.i) Qbq) _) O _;refine RF.b (Uef h) ?_;show RF (cond t.waiting _ _) O _;rw [hw];show RF (bnd (attrV (P p) (.ref 2 U.i) Qy) _) O _;refine RF.b (Ufe h) (RF.b (Ug7 h) (RF.l (a:=!(ofStr t.state).isSome) (by show (inV O _ _).map (!·)=_;rw [Uj5 h.sd,Up4];cases ofStr t.state <;> rfl) ?_));cases ho:(ofStr t.state).isSome with
   | false=>exact RF.r ⟨rfl,rfl⟩
   | true =>
    show RF (J_Tokenizer_is_ready_0 p _ _) O _;rw [Ubv];delta J_Tokenizer_is_ready_0_T0;refine RF.b (Ub5 h) (RF.b (Ue4 h) ?_);show RF (cond t.closed _ _) O _;cases hc:t.closed with
    | true=>exact RF.r ⟨rfl,rfl⟩
    | false =>
     show RF (bnd (attrV (P p) (.ref 2 U.i) Qt) _) O _;refine RF.b (ga_at h) (RF.b (Ub5 h) (RF.b (Uea h) (RF.b (len_list h.sg) (RF.l (a:=decide (t.pos < t.signs.length)) (by rw [List.length_map];rfl) (RF.r ⟨rfl,rfl⟩)))))
 rw [Uc3];refine xEEAAA e fun v O' e qz1 qz2=>?_;subst qz1;subst qz2;exact e
theorem Urk(r:Runs s n s'):∀ {O:Store} {m:Nat},TP O U s->n < m ->
  Run (loopW (testL (P p) (callK (P p) (d+6)) (sc_Tokenizer_run p) 58 (st_Tokenizer_run_l0 p)) (turnL (P p) (callK (P p) (d+6)) (sc_Tokenizer_run p) 58 (st_Tokenizer_run_l0 p)) m [(Qe,.ref 2 U.i)]) O
   fun fl O'=>fl=.next [(Qe,.ref 2 U.i)]/\TP O' U s'/\Fx O O':=by
 have test:∀ {s:PS} {O:Store},TP O U s->testL (P p) (callK (P p) (d+6)) (sc_Tokenizer_run p) 58 (st_Tokenizer_run_l0 p) [(Qe,.ref 2 U.i)] O=some (s.ready,O):=by
  intro s O h;rw [Uch];delta Q_Tokenizer_run_l0_0;have hr:=Uo4 (p:=p) (d:=d+5) h;obtain ⟨t,h,hw,rfl⟩:=h;have e:Run (bnd (look (methK (P p) (.ref 2 U.i) Qdq)) fun x3=>if isRepl x3 then fail else bnd (methodV (callK (P p) (d+6)) x3 (.ref 2 U.i) []) fun x4=>(match isT x4 with
   | some x5=>ret (Fl.ret (.bool x5))
   | none=>fail)) O fun fl O'=>fl=.ret (.bool t.pl.ready)/\O'=O:=Run.m (Uk9 h) (Run.b hr ⟨_,_,rfl,rfl,rfl⟩)
  refine xEEAAA e fun fl O' e qz1 qz2=>?_;subst qz1;subst qz2;exact bnd_of e
 induction r with
 | stop hs =>
  intro O m h hm;obtain ⟨m,rfl⟩:∃ k,m=k+1:=⟨m - 1,((Nat.sub_eq_iff_eq_add hm).mp rfl)⟩
  rw [loopW];refine Run.b (test h) ?_;rw [hs];exact Run.neg Bool.false_ne_true (Run.r ⟨rfl,h,Fx.rfl⟩)
 | @go u u' m' hs hf r ih =>
  intro O m h hm;obtain ⟨m,rfl⟩:∃ k,m=k+1:=⟨m - 1,((Nat.sub_add_cancel (Nat.lt_of_le_of_lt (Nat.zero_le _) hm)).symm)⟩
  rw [loopW];refine Run.b (test h) ?_;rw [hs];refine Run.pos rfl ?_;rw [Uce];delta T_Tokenizer_run_l0_0;have hstep:=Urx (p:=p) (d:=d) h hf;refine Run.c (Q1:=fun fl O'=>fl=.next [(Qe,.ref 2 U.i)]/\TP O' U u.step/\Fx O O') ?_ fun fl O1 qq=>xAAA qq fun e h1 f1=>?_
  ·obtain ⟨t,h,hw,rfl⟩:=h;exact Run.m (Use h) (Run.c hstep fun v O1 ⟨e,h1,f1⟩=>Run.next ⟨rfl,h1,f1⟩)
  ·subst e;exact (ih h1 (om6 hm)).mono fun fl O2 qq=>xAAA qq fun e h2 f2=>⟨e,h2,f1.trans f2⟩
theorem Uqb(h:TP O U s)(r:Runs s n s')(hn:n < 5000):Run (callK (P p) (d+7) a_Tokenizer_run [.ref 2 U.i]) O fun v O'=>v=.bool s'.done/\TP O' U s'/\Fx O O':=by
 rw [Uf2];show RF _ O _;delta F_Tokenizer_run;refine RF.c (Urk r h hn) fun fl O1 qq=>xAAA qq fun e h1 f1=>?_;subst e;show RF (J_Tokenizer_run_0 p _ _) O1 _;rw [Ucr];refine xEAAA h1 fun t h hw qz1=>?_;subst qz1;exact RF.b (Ufq h) (RF.r ⟨rfl,⟨t,h,hw,rfl⟩,f1⟩)
end
noncomputable def PS.new(state last:Str):PS:=⟨0,state,"data",last,[],[],none,false,[],false,false,[]⟩
section
variable {p:Params}{O O' O₁:Store}{U:Rf}{t:TS}{s s':PS}{n d:Nat}{Q:V->Store->Prop}{k:V->M Fl}
theorem Uab{r i r' i':Nat}{o:Ob}(hr:r'≠r):(O.put r i o).get r' i'=O.get r' i':=by delta Store.get;rw [Ua9 hr]
theorem Uad{r r' i':Nat}{o:Ob}(hr:r'≠r):(O.add r o).get r' i'=O.get r' i':=by delta Store.get;rw [Uca hr]
theorem Fx.put'{r i:Nat}{o:Ob}(f:Fx O₁ O)(h:tokR r=true):Fx O₁ (O.put r i o):=f.trans (Fx.put h)
theorem Fx.add'{r:Nat}{o:Ob}(f:Fx O₁ O)(h:tokR r=true):Fx O₁ (O.add r o):=f.trans (Fx.add h)
theorem RF.nl{r:Nat}{vs:List V}(hlen:O.length=24)(hr:r < 24)(g:∀ i,(O.add r (.list vs)).get r i=some (.list vs)->(∀ r' i' o,O.get r' i'=some o->(O.add r (.list vs)).get r' i'=some o)->RF (k (.ref r i)) (O.add r (.list vs)) Q):RF (bnd (newL r vs) k) O Q:=by
 refine xEA (reg_of hlen hr) fun l hl=>?_;exact RF.b (Uh0 hl) (g l.length (Ua1 hl) fun r' i' o e=>Ubg hl e)
theorem Uf5{i:Nat}(h0:O.get 1 i=some (.inst c_Stream []))(hlen:O.length=24):Run (callK (P p) (d+1) a_Stream_init [.ref 1 i]) O fun v O'=>v=.none/\(∃ sg se,O'.length=24 /\
  O'.get 1 i=some (.inst c_Stream [(Qaq,.ref 7 sg),(Qbi,.bool false),(Qbf,.bool false),(Qab,.ref 8 se)])/\O'.get 7 sg=some (.list [])/\O'.get 8 se=some (.list [])/\(∀ r,r≠1->r≠7->r≠8->O'[r]?=O[r]?)):=by
 rw [Uia];show RF _ O _;delta F_Stream_init;refine RF.nl hlen (by decide) fun sg h7 o7=>?_;refine RF.sg (o7 _ _ _ h0) (by kernel_rfl) (by kernel_rfl) fun h1=>RF.sg h1 (by kernel_rfl) (by kernel_rfl) fun h2=>RF.sg h2 (by kernel_rfl) (by kernel_rfl) fun h3=>?_;refine RF.nl (by simp only [Uah,Uau];exact hlen) (by decide) fun se h8 o8=>?_;refine RF.sg (o8 _ _ _ h3) (by kernel_rfl) (by kernel_rfl) fun h4=>RF.n ⟨rfl,sg,se,by simp only [Uah,Uau];exact hlen,?_,?_,?_,?_⟩
 ·rw [h4];have e:∀ a b:V,setK Qab b (setK Qbf (.bool false) (setK Qbi (.bool false) (setK Qaq a [])))=[(Qaq,a),(Qbi,.bool false),(Qbf,.bool false),(Qab,b)]:=fun a b=>by kernel_rfl
  exact congrArg (fun q=>some (Ob.inst c_Stream q)) (e _ _)
 ·repeat first | rw [Uab (by decide)] | rw [Uad (by decide)]
  exact h7
 ·rw [Uab (by decide)];exact h8
 ·intro r r1 r7 r8;simp only [Ua9 r1,Uca r7,Uca r8]
theorem Uno(hlen:O.length=24):Run (applyV (P p) (callK (P p) (d+1)) (.fn c_Stream) []) O fun v O'=>∃ i sg se,v=.ref 1 i/\O'.length=24 /\
  O'.get 1 i=some (.inst c_Stream [(Qaq,.ref 7 sg),(Qbi,.bool false),(Qbf,.bool false),(Qab,.ref 8 se)])/\O'.get 7 sg=some (.list [])/\O'.get 8 se=some (.list [])/\(∀ r,r≠1->r≠7->r≠8->O'[r]?=O[r]?):=by
 refine xEA (reg_of (r:=1) (O:=O) hlen (by decide)) fun l hl=>?_;refine (new_of (f:=a_Stream_init) (R:=fun O'=>∃ sg se,O'.length=24 /\
  O'.get 1 l.length=some (.inst c_Stream [(Qaq,.ref 7 sg),(Qbi,.bool false),(Qbf,.bool false),(Qab,.ref 8 se)])/\O'.get 7 sg=some (.list [])/\O'.get 8 se=some (.list [])/\(∀ r,r≠1->r≠7->r≠8->O'[r]?=O[r]?)) (by kernel_rfl) hl ?_).mono fun v O' qq=>xAEEA qq fun e sg se h=>⟨l.length,sg,se,e,h⟩
 refine (Uf5 (Ua1 hl) (Uau.trans hlen)).mono fun v O' qq=>xAEEAAAAA qq fun e sg se h1 h2 h3 h4 h5=>⟨e,sg,se,h1,h2,h3,h4,fun r r1 r7 r8=>(h5 r r1 r7 r8).trans (Uca r1)⟩
theorem Uim{i sd:Nat}{state last:Str}(h0:O.get 2 i=some (.inst c_Tokenizer []))(hlen:O.length=24)(hsd:O.get 3 sd=some (.dict stEs)) :
  Run (bnd (F_Tokenizer_init p (callK (P p) (d+1)) (.ref 2 i) (.ref 3 sd) (.str state) (.str last)) unFl) O fun v O'=>v=.none/\(∃ U:Rf,U.i=i/\TP O' U (PS.new state last))/\Fx O O':=by
 show RF _ O _;delta F_Tokenizer_init;refine RF.sg h0 (by kernel_rfl) (by kernel_rfl) fun h1=>RF.c (Uno (by simp only [Uah];exact hlen)) fun v O2 qq=>xEEEAAAAAA qq fun j sg se ev l2 g1 g7 g8 k2=>?_;subst ev;have h2:O2.get 2 i=some (.inst c_Tokenizer (setK Qn (.ref 3 sd) [])):=by delta Store.get;rw [k2 2 (by decide) (by decide) (by decide)];exact h1
 have s2:O2.get 3 sd=some (.dict stEs):=by delta Store.get;rw [k2 3 (by decide) (by decide) (by decide),Ua9 (by decide)];exact hsd
 have f2:Fx O O2:=fun r hr=>(k2 r (by rintro rfl;cases hr) (by rintro rfl;cases hr) (by rintro rfl;cases hr)).trans (Ua9 (by rintro rfl;cases hr));refine RF.sg h2 (by kernel_rfl) (by kernel_rfl) fun h3=>RF.sg h3 (by kernel_rfl) (by kernel_rfl) fun h4=>RF.sg h4 (by kernel_rfl) (by kernel_rfl) fun h5=>RF.sg h5 (by kernel_rfl) (by kernel_rfl) fun h6=>?_;refine RF.nl (by simp only [Uah];exact l2) (by decide) fun o h9 o9=>?_;refine RF.sg (o9 _ _ _ h6) (by kernel_rfl) (by kernel_rfl) fun h7=>RF.nl (by simp only [Uah,Uau];exact l2) (by decide) fun er h10 o10=>?_;refine RF.sg (o10 _ _ _ h7) (by kernel_rfl) (by kernel_rfl) fun h11=>RF.sg h11 (by kernel_rfl) (by kernel_rfl) fun h12=>RF.sg h12 (by kernel_rfl) (by kernel_rfl) fun h13=>RF.sg h13 (by kernel_rfl) (by kernel_rfl) fun h14 =>
  RF.sg h14 (by kernel_rfl) (by kernel_rfl) fun h15=>RF.sg h15 (by kernel_rfl) (by kernel_rfl) fun h16=>RF.sg h16 (by kernel_rfl) (by kernel_rfl) fun h17=>RF.sg h17 (by kernel_rfl) (by kernel_rfl) fun h18=>?_
 refine RF.n ⟨rfl,⟨⟨i,j,o,er,sg,se,sd⟩,rfl,⟨⟨0,state,"data",last,[],[],none,false,false,[],false,false,[]⟩,⟨?_,?_,?_,?_,?_,?_,?_,?_,fun d e=>by cases e⟩,rfl,rfl⟩⟩,?_⟩
 ·simp only [Uah,Uau];exact l2
 ·rw [h18]
  kernel_rfl
 ·repeat first | rw [Uab (by decide)] | rw [Uad (by decide)]
  exact g1
 ·repeat first | rw [Uab (by decide)] | rw [Uad (by decide)]
  exact g7
 ·repeat first | rw [Uab (by decide)] | rw [Uad (by decide)]
  exact g8
 ·repeat first | rw [Uab (by decide)] | rw [Uad (by decide)]
  exact h9
 ·repeat first | rw [Uab (by decide)] | rw [Uad (by decide)]
  exact h10
 ·repeat first | rw [Uab (by decide)] | rw [Uad (by decide)]
  exact s2
 ·repeat first | refine Fx.put' ?_ rfl | refine Fx.add' ?_ rfl
  exact f2
theorem Ujy{sd:Nat}(hlen:O.length=24)(hsd:O.get 3 sd=some (.dict stEs))(state last:Str):Run (applyV (P p) (callK (P p) (d+2)) (.fn c_Tokenizer) [.ref 3 sd,.str state,.str last]) O fun v O'=>∃ U:Rf,v=.ref 2 U.i/\TP O' U (PS.new state last)/\Fx O O':=by
 refine xEA (reg_of (r:=2) (O:=O) hlen (by decide)) fun l hl=>?_;refine (new_of (f:=a_Tokenizer_init) (R:=fun O'=>(∃ U:Rf,U.i=l.length/\TP O' U (PS.new state last))/\Fx O O') (by kernel_rfl) hl ?_).mono fun v O' ⟨e,⟨U,ht,h⟩,x⟩=>⟨U,by rw [ht];exact e,h,x⟩
 rw [Ufd];exact (Uim (Ua1 hl) (Uau.trans hlen) (by rw [Uad (by decide)];exact hsd)).mono fun v O' qq=>xAAA qq fun e h x=>⟨e,h,(Fx.add rfl).trans x⟩
noncomputable def tagEs:List (Str×V):=stEs.take 4
noncomputable def attrEs:List (Str×V):=stEs.drop 4
theorem Uhp{r:Nat}{l:List Ob}{es:List (Str×V)}(h:O[r]?=some l):newD r es O=some (.ref r l.length,O.add r (.dict es)):=by delta newD;rw [h]
theorem Ued{l:List Ob}(h:O[3]?=some l):callK (P p) (d+1) a_tag_states [] O=some (.ref 3 l.length,O.add 3 (.dict tagEs)):=by
 rw [Uje];delta F_tag_states;rw [Uam];exact bnd_of (Uhp h)
theorem Udd{l:List Ob}(h:O[3]?=some l):callK (P p) (d+1) a_attr_states [] O=some (.ref 3 l.length,O.add 3 (.dict attrEs)):=by
 rw [Uhz];delta F_attr_states;rw [Uam];exact bnd_of (Uhp h)
end
noncomputable def PS.goC(s:PS)(a:Act)(c:Str):PS :=
 let s1:=match a.err with
  | some e=>s.nxt.error e
  | none=>s.nxt
 let s2:=s1.deed a.deed c
 match a.goal with
 | some g=>if a.again then s2.again g else s2.to g
 | none=>s2
structure Sz(k:Nat)(s:PS):Prop where
 out:s.out.length<=3*k
 errs:s.errs.length<=3*k
 dr:∀ D,s.draft=some D->D.name.length<=k/\D.attrs.length<=k/\∀ a ∈ D.attrs,a.n.length<=k/\a.v.length<=k
noncomputable def Dk(s:PS):Nat->Prop
 | 0=>s.draft=none
 | 1=>∃ D,s.draft=some D/\(D.kind="start"\/D.kind="end")
 | _=>∃ D,s.draft=some D/\(D.kind="start"\/D.kind="end")/\D.attrs≠[]
noncomputable def slashy(c:Str):Bool:=[Qaj,">",""].any (·==c)
noncomputable def need(q:St)(c:Option Str):Nat:=match q with
 | .tagOpen | .endOpen=>0
 | .tagName | .self | .befName | .aftVal=>1
 | .name | .befVal | .dq | .sq | .bare=>2
 | .aftName=>match c with
  | some c=>if slashy c then 1 else 2
  | none=>2
structure Inv(k:Nat)(s:PS)(c:Option Str):Prop where
 pos:0<=s.pos
 sz:Sz k s
 dk:∀ q:St,s.state=q.str->Dk s (need q c)
theorem Dk.le{s:PS}{m n:Nat}(h:Dk s n)(hm:m<=n)(h1:1<=m):Dk s m:=by
 cases m with
 | zero=>exact absurd h1 (by decide)
 | succ m =>
  cases n with
  | zero=>exact absurd hm (Nat.not_succ_le_zero _)
  | succ n =>
   cases m with
   | zero=>cases n with
    | zero=>exact h
    | succ n=>exact xEAAA h fun D h1 h2 w0=>⟨D,h1,h2⟩
   | succ m=>cases n with
    | zero=>exact absurd hm (by omega)
    | succ n=>exact h
theorem St.inj{q q':St}(h:q.str=q'.str):q=q':=by
 have:=congrArg ofStr h;rw [Uai,Uai] at this;exact Option.some.inj this
section
variable {s s':PS}{k:Nat}{c:Str}{D:PD}
theorem Sz.mono(h:Sz k s){k':Nat}(hk:k<=k'):Sz k' s :=
 ⟨by have:=h.out;exact om30 hk this,by have:=h.errs;exact om30 hk this,fun D e=>by
  refine xAAA (h.dr D e) fun h1 h2 h3=>?_;exact ⟨(om9 hk h1),(om9 hk h2),fun a m=>⟨by have:=(h3 a m).1;exact om9 hk this,by have:=(h3 a m).2;exact om9 hk this⟩⟩⟩
theorem Ukd{as:List PA}{f:List PA->PA->PA}{a:PA}(h:as.getLast?=some a):as=as.dropLast++[a]:=by
 refine xEA (List.getLast?_eq_some_iff.mp h) fun l qz1=>?_;subst qz1;simp
theorem Udp{f:List PA->PA->PA}(hd:s.draft=some D):∃ as,(s.last' f).draft=some { D with attrs:=as }/\as.length=D.attrs.length/\∀ b ∈ as,b ∈ D.attrs\/∃ a ∈ D.attrs,b=f D.attrs.dropLast a:=by
 delta PS.last';rw [hd];dsimp only;cases h:D.attrs.getLast? with
 | none=>exact ⟨D.attrs,hd,rfl,fun b m=>.inl m⟩
 | some a =>
  have e:=Ukd (f:=f) h;refine ⟨_,rfl,?_,fun b m=>?_⟩
  ·conv=>rhs;rw [e]
   simp
  ·rcases List.mem_append.mp m with m | m
   ·left;rw [e];exact List.mem_append_left _ m
   ·right
    rw [List.mem_singleton] at m;exact ⟨a,by rw [e];simp,m⟩
theorem Ub8{f:List PA->PA->PA}:(s.last' f).out=s.out/\(s.last' f).errs=s.errs:=by
 delta PS.last';cases s.draft with
 | none=>exact ⟨rfl,rfl⟩
 | some D=>dsimp only;cases D.attrs.getLast? <;> exact ⟨rfl,rfl⟩
theorem Ud8:s.emitDraft.out.length<=s.out.length+1/\s.emitDraft.errs.length<=s.errs.length+2/\(∀ D,s.emitDraft.draft=some D->s.draft=some D):=by
 delta PS.emitDraft;cases h:s.draft with
 | none=>exact ⟨by simp,by simp,fun D e=>by rw [h] at e;cases e⟩
 | some D =>
  refine ⟨by simp,?_,fun D e=>by cases e⟩;dsimp only;split <;> split <;> simp
set_option tactic.hygienic true in
theorem Upk(h:Sz k s)(he:s'.errs.length<=s.errs.length+1)(ho:s'.out=s.out)(hd:s'.draft=s.draft)(hc:c.length<=1)(d:Deed):Sz (k+1) (s'.deed d c):=by
 obtain ⟨h1,h2,h3⟩:=h;have hD:∀ D,s'.draft=some D->D.name.length<=k+1/\D.attrs.length<=k+1/\∀ a ∈ D.attrs,a.n.length<=k+1/\a.v.length<=k+1:=fun D e=>by
  refine xAAA (h3 D (hd▸e)) fun a b z=>?_;exact ⟨Nat.le_succ_of_le a,Nat.le_succ_of_le b,fun x m=>⟨Nat.le_succ_of_le (z x m).1,Nat.le_succ_of_le (z x m).2⟩⟩
 have ho3:s'.out.length<=3*k:=by rw [ho];exact h1
 have hE:s'.errs.length<=3*(k+1):=Nat.le_trans he (Nat.add_le_add h2 (by decide:1<=3));have hO:s'.out.length<=3*(k+1):=Nat.le_trans ho3 (Nat.le_add_right _ 3);have o1:∀ l:List V,l.length<=3->(s'.out++l).length<=3*(k+1):=fun l q=>by rw [List.length_append];exact Nat.add_le_add ho3 q
 have hs:Sz (k+1) s':=⟨hO,hE,hD⟩
 have low:∀ x:Str,x=(if c==Qak then (Str.ofString "�") else lowerS c)->x.length<=1:=fun x e=>by
  rw [e];split
  ·exact Nat.le_refl 1
  ·exact Uln hc
 have lrep:(repl c).length<=1:=by
  delta repl;split
  ·exact Nat.le_refl 1
  ·exact hc
 have len_add:∀ x y:Str,(x++y).length=x.length+y.length:=fun x y=>by
  show (x.cps++y.cps).size=_;rw [Array.size_append];rfl
 have addL:∀ f:List PA->PA->PA,(∀ l a,(f l a).n.length<=a.n.length+1/\(f l a).v.length<=a.v.length+1)->Sz (k+1) (s'.last' f):=fun f hf=>by
  refine ⟨by rw [Ub8.1,ho];exact Nat.le_trans h1 (Nat.le_add_right _ 3),by rw [Ub8.2];omega,fun D' e=>?_⟩;cases hdr:s'.draft with
  | none =>
   unfold PS.last' at e;rw [hdr] at e;dsimp only at e;rw [hdr] at e;cases e
  | some D =>
   refine xEAAA (Udp (f:=f) hdr) fun as e2 hl hm=>?_;rw [e2] at e;cases e;refine xAAA (h3 D (hd▸hdr)) fun a1 b1 z1=>?_;refine ⟨Nat.le_succ_of_le a1,by show as.length<=_;exact Nat.le_succ_of_le (hl▸b1),fun b m=>?_⟩;rcases hm b m with m | ⟨a,m2,rfl⟩
   ·exact ⟨Nat.le_succ_of_le (z1 b m).1,Nat.le_succ_of_le (z1 b m).2⟩
   ·have:=z1 a m2;have:=hf D.attrs.dropLast a
    omega
 have newA:Sz (k+1) s'.newAttr:=by
  delta PS.newAttr;cases hdr:s'.draft with
  | none=>exact hs
  | some D =>
   refine ⟨hO,hE,fun D' e=>?_⟩;cases e;refine xAAA (h3 D (hd▸hdr)) fun a1 b1 z1=>?_;refine ⟨Nat.le_succ_of_le a1,by rw [List.length_append];exact Nat.succ_le_succ b1,fun b m=>?_⟩;rcases List.mem_append.mp m with m | m
   ·exact ⟨Nat.le_succ_of_le (z1 b m).1,Nat.le_succ_of_le (z1 b m).2⟩
   ·rw [List.mem_singleton] at m;subst m;exact ⟨Nat.zero_le _,Nat.zero_le _⟩
 have beg:∀ kd:Str,Sz (k+1) (s'.begin kd):=fun kd=>⟨hO,hE,fun D e=>by
  cases e;exact ⟨Nat.zero_le _,Nat.zero_le _,fun a m=>by cases m⟩⟩
 cases d with
 | none=>exact hs
 | start=>exact beg _
 | end_=>exact beg _
 | comment=>exact beg _
 | lost =>
  show Sz (k+1) (if (s'.state==Qae)=true then _ else _:PS).eof;split
  ·exact ⟨by show ((s'.out++[_])++[_]).length<=_;rw [List.append_assoc];exact o1 _ (Nat.le_succ 2),hE,hD⟩
  ·exact ⟨by show (((s'.out++[_])++[_])++[_]).length<=_;rw [List.append_assoc,List.append_assoc];exact o1 _ (Nat.le_refl 3),hE,hD⟩
 | lone=>exact ⟨o1 [_] (by decide:1<=3),hE,hD⟩
 | give =>
  refine xAAA (Ud8 (s:=s')) fun a b z=>?_;exact ⟨by show s'.emitDraft.out.length<=_;rw [ho] at a;exact om31 h1 a,by show s'.emitDraft.errs.length<=_;exact om32 he h2 b,fun D e=>hD D (z D e)⟩
 | close =>
  refine xAAA (Ud8 (s:=s'.closeIt)) fun a b z=>?_;have ec:s'.closeIt.out=s'.out/\s'.closeIt.errs=s'.errs/\∀ D,s'.closeIt.draft=some D->D.name.length<=k+1/\D.attrs.length<=k+1/\∀ a ∈ D.attrs,a.n.length<=k+1/\a.v.length<=k+1:=by
   delta PS.closeIt;cases hdr:s'.draft with
   | none=>exact ⟨rfl,rfl,fun D e=>hD D e⟩
   | some D=>exact ⟨rfl,rfl,fun D' e=>by cases e;exact hD D hdr⟩
  exact ⟨by show s'.closeIt.emitDraft.out.length<=_;rw [ec.1,ho] at a;exact om31 h1 a,by show s'.closeIt.emitDraft.errs.length<=_;rw [ec.2.1] at b;exact om32 he h2 b,fun D e=>ec.2.2 D (z D e)⟩
 | put =>
  show Sz (k+1) (if (s'.state==Qad)=true then _ else if (s'.state==Qac)=true then _ else _:PS);split
  ·delta PS.tagName;cases hdr:s'.draft with
   | none=>exact hs
   | some D =>
    refine ⟨hO,hE,fun D' e=>?_⟩;cases e;refine xAAA (h3 D (hd▸hdr)) fun a1 b1 z1=>?_;refine ⟨?_,Nat.le_succ_of_le b1,(hD D hdr).2.2⟩;show (D.name++_).length<=_;rw [len_add];have:=low _ rfl;exact Nat.add_le_add a1 this
  ·split
   ·exact addL _ fun l a=>⟨by show (a.n++_).length<=_;rw [len_add];have:=low _ rfl;exact om33 this,by show a.v.length<=_;exact om16⟩
   ·exact addL _ fun l a=>⟨by show a.n.length<=_;exact om16,by show (a.v++_).length<=_;rw [len_add];exact om33 lrep⟩
 | quit=>exact ⟨o1 [_] (by decide:1<=3),hE,hD⟩
 | new=>exact newA
 | first =>
  obtain ⟨n1,n2,n3⟩:=newA;refine ⟨by show (s'.newAttr.last' _).out.length<=_;rw [Ub8.1];exact n1,by show (s'.newAttr.last' _).errs.length<=_;rw [Ub8.2];exact n2,fun D' e=>?_⟩;cases hdr:s'.draft with
  | none =>
   have e:(s'.newAttr.last' fun w0 a=>{ a with n:=a.n++c }).draft=some D':=e;have:s'.newAttr=s':=by delta PS.newAttr;rw [hdr]
   rw [this] at e;delta PS.last' at e;rw [hdr] at e;dsimp only at e;rw [hdr] at e;cases e
  | some D =>
   have e:(s'.newAttr.last' fun w0 a=>{ a with n:=a.n++c }).draft=some D':=e;rw [Uaq hdr,Ua3 (init:=D.attrs) (a:=⟨"","",true⟩) rfl rfl] at e;cases e;refine xAAA (h3 D (hd▸hdr)) fun a1 b1 z1=>?_;refine ⟨Nat.le_succ_of_le a1,by rw [List.length_append];exact Nat.succ_le_succ b1,fun b m=>?_⟩;rcases List.mem_append.mp m with m | m
   ·exact ⟨Nat.le_succ_of_le (z1 b m).1,Nat.le_succ_of_le (z1 b m).2⟩
   ·rw [List.mem_singleton] at m;subst m;exact ⟨by show (Qa++c).length<=_;rw [len_add];show 0+_<=_;exact (Nat.zero_add _).symm▸Nat.le_trans hc (Nat.succ_le_succ (Nat.zero_le _)),Nat.zero_le _⟩
 | check =>
  show Sz (k+1) s'.check;delta PS.check;split
  ·rename_i ht;obtain ⟨n1,n2,n3⟩:=addL (fun w0 a=>{ a with k:=false }) fun l a=>⟨Nat.le_succ _,Nat.le_succ _⟩
   refine ⟨n1,?_,n3⟩;show ((s'.last' _).errs++[_]).length<=_;rw [Ub8.2];simp;exact Nat.succ_le_succ (Nat.le_trans he (Nat.add_le_add h2 (show 1<=2 by decide)))
  ·exact hs
 | refer=>exact ⟨hO,hE,hD⟩
end
noncomputable def Deed.isEnd:Deed->Bool
 | .quit | .lost=>true
 | _=>false
noncomputable def post(d:Deed)(x:Nat):Option Nat:=match d with
 | .none | .refer | .put | .check=>some x
 | .start | .end_=>some 1
 | .new | .first=>if Nat.ble 1 x then some 2 else Option.none
 | _=>Option.none
noncomputable def okk(m n:Nat):Bool:=Nat.beq m n||(Nat.ble 1 m&&Nat.ble m n)
noncomputable def statA(q:St)(c:Str)(x:Nat)(a:Act):Bool:=match a.goal with
 | some g=>match ofStr g with
  | some q'=>match post a.deed x with
   | some y=>okk (need q' (if a.again then some c else none)) y
   | none=>false
  | none=>true
 | none=>a.deed.isEnd||match post a.deed x with
  | some y=>okk (need q none) y
  | none=>false
theorem iteA{P:Act->Prop}{b:Bool}{x y:Act}(h1:b=true->P x)(h2:b=false->P y):P (if b=true then x else y):=by
 cases b
 ·exact h2 rfl
 ·exact h1 rfl
theorem Ujb{c:Str}(h:slashy c=true):c="/"\/c=">"\/c="":=by
 delta slashy at h;simp only [List.any_cons,List.any_nil,Bool.or_false,Bool.or_eq_true] at h;rcases h with h | h | h
 ·exact .inl (eq_of_beq h).symm
 ·exact .inr (.inl (eq_of_beq h).symm)
 ·exact .inr (.inr (eq_of_beq h).symm)
theorem Usf(q:St)(c:Str):statA q c (need q (some c)) (act q c)=true:=by
 cases hs:slashy c with
 | true =>
  rcases Ujb hs with rfl | rfl | rfl <;> cases q <;> kernel_rfl
 | false =>
  have hn:need .aftName (some c)=2:=by show (if slashy c=true then 1 else 2)=2;rw [hs];rfl
  have hm:∀ {A:Act},([Qaj,">",""].any (·==c))=true->statA .befName c 1 A=true:=fun h=>by rw [show ([Qaj,">",""].any (·==c))=slashy c from rfl,hs] at h;cases h
  have hm2:∀ {A:Act},([Qaj,">",""].any (·==c))=true->statA .name c 2 A=true:=fun h=>by rw [show ([Qaj,">",""].any (·==c))=slashy c from rfl,hs] at h;cases h
  cases q with
  | tagOpen =>
   let P:Act->Prop:=fun a=>statA .tagOpen c 0 a=true
   exact iteA (P:=P) (fun w0=>by kernel_rfl) fun w0=>iteA (P:=P) (fun w0=>by kernel_rfl) fun w0=>iteA (P:=P) (fun w0=>by kernel_rfl) fun w0=>iteA (P:=P) (fun w0=>by kernel_rfl) fun w0=>iteA (P:=P) (fun w0=>by kernel_rfl) fun w0=>by kernel_rfl
  | endOpen =>
   let P:Act->Prop:=fun a=>statA .endOpen c 0 a=true
   exact iteA (P:=P) (fun w0=>by kernel_rfl) fun w0=>iteA (P:=P) (fun w0=>by kernel_rfl) fun w0=>iteA (P:=P) (fun w0=>by kernel_rfl) fun w0=>by kernel_rfl
  | tagName =>
   let P:Act->Prop:=fun a=>statA .tagName c 1 a=true
   exact iteA (P:=P) (fun w0=>by kernel_rfl) fun w0=>iteA (P:=P) (fun w0=>by kernel_rfl) fun w0=>iteA (P:=P) (fun w0=>by kernel_rfl) fun w0=>iteA (P:=P) (fun w0=>by kernel_rfl) fun w0=>iteA (P:=P) (fun w0=>by kernel_rfl) fun w0=>by kernel_rfl
  | self =>
   let P:Act->Prop:=fun a=>statA .self c 1 a=true
   exact iteA (P:=P) (fun w0=>by kernel_rfl) fun w0=>iteA (P:=P) (fun w0=>by kernel_rfl) fun w0=>by kernel_rfl
  | befName =>
   let P:Act->Prop:=fun a=>statA .befName c 1 a=true
   exact iteA (P:=P) (fun w0=>by kernel_rfl) fun w0=>iteA (P:=P) hm (fun w0=>iteA (P:=P) (fun w0=>by kernel_rfl) fun w0=>by kernel_rfl)
  | name =>
   let P:Act->Prop:=fun a=>statA .name c 2 a=true
   exact iteA (P:=P) (fun w0=>by show okk (need .aftName (some c)) 2=true;rw [hn];rfl) fun w0=>iteA (P:=P) hm2 fun w0=>iteA (P:=P) (fun w0=>by kernel_rfl) fun w0=>iteA (P:=P) (fun w0=>by kernel_rfl) fun w0=>iteA (P:=P) (fun w0=>by kernel_rfl) fun w0=>by kernel_rfl
  | aftName =>
   rw [hn];let P:Act->Prop:=fun a=>statA .aftName c 2 a=true;exact iteA (P:=P) (fun w0=>by kernel_rfl) fun w0=>iteA (P:=P) (fun w0=>by kernel_rfl) fun w0=>iteA (P:=P) (fun w0=>by kernel_rfl) fun w0=>iteA (P:=P) (fun w0=>by kernel_rfl) fun w0=>iteA (P:=P) (fun w0=>by kernel_rfl) fun w0=>by kernel_rfl
  | befVal =>
   let P:Act->Prop:=fun a=>statA .befVal c 2 a=true
   exact iteA (P:=P) (fun w0=>by kernel_rfl) fun w0=>iteA (P:=P) (fun w0=>by kernel_rfl) fun w0=>iteA (P:=P) (fun w0=>by kernel_rfl) fun w0=>iteA (P:=P) (fun w0=>by kernel_rfl) fun w0=>by kernel_rfl
  | dq =>
   let P:Act->Prop:=fun a=>statA .dq c 2 a=true
   exact iteA (P:=P) (fun w0=>by kernel_rfl) fun w0=>iteA (P:=P) (fun w0=>by kernel_rfl) fun w0=>iteA (P:=P) (fun w0=>by kernel_rfl) fun w0=>iteA (P:=P) (fun w0=>by kernel_rfl) fun w0=>by kernel_rfl
  | sq =>
   let P:Act->Prop:=fun a=>statA .sq c 2 a=true
   exact iteA (P:=P) (fun w0=>by kernel_rfl) fun w0=>iteA (P:=P) (fun w0=>by kernel_rfl) fun w0=>iteA (P:=P) (fun w0=>by kernel_rfl) fun w0=>iteA (P:=P) (fun w0=>by kernel_rfl) fun w0=>by kernel_rfl
  | bare =>
   let P:Act->Prop:=fun a=>statA .bare c 2 a=true
   exact iteA (P:=P) (fun w0=>by kernel_rfl) fun w0=>iteA (P:=P) (fun w0=>by kernel_rfl) fun w0=>iteA (P:=P) (fun w0=>by kernel_rfl) fun w0=>iteA (P:=P) (fun w0=>by kernel_rfl) fun w0=>iteA (P:=P) (fun w0=>by kernel_rfl) fun w0=>iteA (P:=P) (fun w0=>by kernel_rfl) fun w0=>by kernel_rfl
  | aftVal =>
   let P:Act->Prop:=fun a=>statA .aftVal c 1 a=true
   exact iteA (P:=P) (fun w0=>by kernel_rfl) fun w0=>iteA (P:=P) (fun w0=>by kernel_rfl) fun w0=>iteA (P:=P) (fun w0=>by kernel_rfl) fun w0=>iteA (P:=P) (fun w0=>by kernel_rfl) fun w0=>by kernel_rfl
theorem Ud7(q:St)(c:Str):(fun a:Act=>!a.again||(a.goal.isSome&&!a.deed.isEnd)) (act q c)=true:=by
 let P:Act->Prop:=fun a=>(fun a:Act=>!a.again||(a.goal.isSome&&!a.deed.isEnd)) a=true
 cases q with
 | tagOpen=>exact iteA (P:=P) (fun w0=>rfl) fun w0=>iteA (P:=P) (fun w0=>rfl) fun w0=>iteA (P:=P) (fun w0=>rfl) fun w0=>iteA (P:=P) (fun w0=>rfl) fun w0=>iteA (P:=P) (fun w0=>rfl) fun w0=>rfl
 | endOpen=>exact iteA (P:=P) (fun w0=>rfl) fun w0=>iteA (P:=P) (fun w0=>rfl) fun w0=>iteA (P:=P) (fun w0=>rfl) fun w0=>rfl
 | tagName=>exact iteA (P:=P) (fun w0=>rfl) fun w0=>iteA (P:=P) (fun w0=>rfl) fun w0=>iteA (P:=P) (fun w0=>rfl) fun w0=>iteA (P:=P) (fun w0=>rfl) fun w0=>iteA (P:=P) (fun w0=>rfl) fun w0=>rfl
 | self=>exact iteA (P:=P) (fun w0=>rfl) fun w0=>iteA (P:=P) (fun w0=>rfl) fun w0=>rfl
 | befName=>exact iteA (P:=P) (fun w0=>rfl) fun w0=>iteA (P:=P) (fun w0=>rfl) fun w0=>iteA (P:=P) (fun w0=>rfl) fun w0=>rfl
 | name=>exact iteA (P:=P) (fun w0=>rfl) fun w0=>iteA (P:=P) (fun w0=>rfl) fun w0=>iteA (P:=P) (fun w0=>rfl) fun w0=>iteA (P:=P) (fun w0=>rfl) fun w0=>iteA (P:=P) (fun w0=>rfl) fun w0=>rfl
 | aftName=>exact iteA (P:=P) (fun w0=>rfl) fun w0=>iteA (P:=P) (fun w0=>rfl) fun w0=>iteA (P:=P) (fun w0=>rfl) fun w0=>iteA (P:=P) (fun w0=>rfl) fun w0=>iteA (P:=P) (fun w0=>rfl) fun w0=>rfl
 | befVal=>exact iteA (P:=P) (fun w0=>rfl) fun w0=>iteA (P:=P) (fun w0=>rfl) fun w0=>iteA (P:=P) (fun w0=>rfl) fun w0=>iteA (P:=P) (fun w0=>rfl) fun w0=>rfl
 | dq=>exact iteA (P:=P) (fun w0=>rfl) fun w0=>iteA (P:=P) (fun w0=>rfl) fun w0=>iteA (P:=P) (fun w0=>rfl) fun w0=>iteA (P:=P) (fun w0=>rfl) fun w0=>rfl
 | sq=>exact iteA (P:=P) (fun w0=>rfl) fun w0=>iteA (P:=P) (fun w0=>rfl) fun w0=>iteA (P:=P) (fun w0=>rfl) fun w0=>iteA (P:=P) (fun w0=>rfl) fun w0=>rfl
 | bare=>exact iteA (P:=P) (fun w0=>rfl) fun w0=>iteA (P:=P) (fun w0=>rfl) fun w0=>iteA (P:=P) (fun w0=>rfl) fun w0=>iteA (P:=P) (fun w0=>rfl) fun w0=>iteA (P:=P) (fun w0=>rfl) fun w0=>iteA (P:=P) (fun w0=>rfl) fun w0=>rfl
 | aftVal=>exact iteA (P:=P) (fun w0=>rfl) fun w0=>iteA (P:=P) (fun w0=>rfl) fun w0=>iteA (P:=P) (fun w0=>rfl) fun w0=>iteA (P:=P) (fun w0=>rfl) fun w0=>rfl
theorem Unl(q:St)(c:Str)(hc:c≠""):(fun a:Act=>!a.deed.isEnd) (act q c)=true:=by
 let P:Act->Prop:=fun a=>(fun a:Act=>!a.deed.isEnd) a=true
 have hn:∀ {x},(c==Qa)=true->P x:=fun h=>absurd (eq_of_beq h) hc;cases q with
 | tagOpen=>exact iteA (P:=P) (fun w0=>rfl) fun w0=>iteA (P:=P) (fun w0=>rfl) fun w0=>iteA (P:=P) (fun w0=>rfl) fun w0=>iteA (P:=P) (fun w0=>rfl) fun w0=>iteA (P:=P) hn fun w0=>rfl
 | endOpen=>exact iteA (P:=P) (fun w0=>rfl) fun w0=>iteA (P:=P) (fun w0=>rfl) fun w0=>iteA (P:=P) hn fun w0=>rfl
 | tagName=>exact iteA (P:=P) (fun w0=>rfl) fun w0=>iteA (P:=P) (fun w0=>rfl) fun w0=>iteA (P:=P) (fun w0=>rfl) fun w0=>iteA (P:=P) (fun w0=>rfl) fun w0=>iteA (P:=P) hn fun w0=>rfl
 | self=>exact iteA (P:=P) (fun w0=>rfl) fun w0=>iteA (P:=P) hn fun w0=>rfl
 | befName=>exact iteA (P:=P) (fun w0=>rfl) fun w0=>iteA (P:=P) (fun w0=>rfl) fun w0=>iteA (P:=P) (fun w0=>rfl) fun w0=>rfl
 | name=>exact iteA (P:=P) (fun w0=>rfl) fun w0=>iteA (P:=P) (fun w0=>rfl) fun w0=>iteA (P:=P) (fun w0=>rfl) fun w0=>iteA (P:=P) (fun w0=>rfl) fun w0=>iteA (P:=P) (fun w0=>rfl) fun w0=>rfl
 | aftName=>exact iteA (P:=P) (fun w0=>rfl) fun w0=>iteA (P:=P) (fun w0=>rfl) fun w0=>iteA (P:=P) (fun w0=>rfl) fun w0=>iteA (P:=P) (fun w0=>rfl) fun w0=>iteA (P:=P) hn fun w0=>rfl
 | befVal=>exact iteA (P:=P) (fun w0=>rfl) fun w0=>iteA (P:=P) (fun w0=>rfl) fun w0=>iteA (P:=P) (fun w0=>rfl) fun w0=>iteA (P:=P) (fun w0=>rfl) fun w0=>rfl
 | dq=>exact iteA (P:=P) (fun w0=>rfl) fun w0=>iteA (P:=P) (fun w0=>rfl) fun w0=>iteA (P:=P) (fun w0=>rfl) fun w0=>iteA (P:=P) hn fun w0=>rfl
 | sq=>exact iteA (P:=P) (fun w0=>rfl) fun w0=>iteA (P:=P) (fun w0=>rfl) fun w0=>iteA (P:=P) (fun w0=>rfl) fun w0=>iteA (P:=P) hn fun w0=>rfl
 | bare=>exact iteA (P:=P) (fun w0=>rfl) fun w0=>iteA (P:=P) (fun w0=>rfl) fun w0=>iteA (P:=P) (fun w0=>rfl) fun w0=>iteA (P:=P) (fun w0=>rfl) fun w0=>iteA (P:=P) hn fun w0=>iteA (P:=P) (fun w0=>rfl) fun w0=>rfl
 | aftVal=>exact iteA (P:=P) (fun w0=>rfl) fun w0=>iteA (P:=P) (fun w0=>rfl) fun w0=>iteA (P:=P) (fun w0=>rfl) fun w0=>iteA (P:=P) hn fun w0=>rfl
noncomputable def PS.goto(s:PS)(goal:Option Str)(again:Bool):PS:=match goal with
 | some g=>if again then s.again g else s.to g
 | none=>s
structure Same(s s':PS):Prop where
 pos:s'.pos=s.pos
 state:s'.state=s.state
 signs:s'.signs=s.signs
 closed:s'.closed=s.closed
 isret:s'.isret=s.isret
 serr:s'.serr=s.serr
section
variable {s s':PS}{k n:Nat}{c:Str}{D:PD}
theorem Same.rfl:Same s s:=⟨Eq.refl _,Eq.refl _,Eq.refl _,Eq.refl _,Eq.refl _,Eq.refl _⟩
theorem Same.trans{a b c:PS}(x:Same a b)(y:Same b c):Same a c:=⟨y.pos.trans x.pos,y.state.trans x.state,y.signs.trans x.signs,y.closed.trans x.closed,y.isret.trans x.isret,y.serr.trans x.serr⟩
theorem Udq{f:List PA->PA->PA}:Same s (s.last' f)/\(s.last' f).done=s.done:=by
 delta PS.last';cases s.draft with
 | none=>exact ⟨Same.rfl,rfl⟩
 | some D=>dsimp only;cases D.attrs.getLast? <;> exact ⟨⟨rfl,rfl,rfl,rfl,rfl,rfl⟩,rfl⟩
theorem Udv:Same s s.emitDraft/\s.emitDraft.done=s.done:=by
 delta PS.emitDraft;cases s.draft <;> exact ⟨⟨rfl,rfl,rfl,rfl,rfl,rfl⟩,rfl⟩
theorem Ugt:Same s s.newAttr/\s.newAttr.done=s.done:=by
 delta PS.newAttr;cases s.draft <;> exact ⟨⟨rfl,rfl,rfl,rfl,rfl,rfl⟩,rfl⟩
theorem Ujn(d:Deed):Same s (s.deed d c)/\(s.deed d c).done=(s.done||d.isEnd):=by
 cases d with
 | none=>exact ⟨Same.rfl,(Bool.or_false _).symm⟩
 | start=>exact ⟨⟨rfl,rfl,rfl,rfl,rfl,rfl⟩,(Bool.or_false _).symm⟩
 | end_=>exact ⟨⟨rfl,rfl,rfl,rfl,rfl,rfl⟩,(Bool.or_false _).symm⟩
 | comment=>exact ⟨⟨rfl,rfl,rfl,rfl,rfl,rfl⟩,(Bool.or_false _).symm⟩
 | lost =>
  show Same s (if (s.state==Qae)=true then _ else _:PS).eof/\(if (s.state==Qae)=true then _ else _:PS).eof.done=_;split <;> exact ⟨⟨rfl,rfl,rfl,rfl,rfl,rfl⟩,(Bool.or_true _).symm⟩
 | lone=>exact ⟨⟨rfl,rfl,rfl,rfl,rfl,rfl⟩,(Bool.or_false _).symm⟩
 | give=>exact ⟨Udv.1,Udv.2.trans (Bool.or_false _).symm⟩
 | close =>
  have h:Same s s.closeIt/\s.closeIt.done=s.done:=by delta PS.closeIt;cases s.draft <;> exact ⟨⟨rfl,rfl,rfl,rfl,rfl,rfl⟩,rfl⟩
  exact ⟨h.1.trans Udv.1,(Udv.2.trans h.2).trans (Bool.or_false _).symm⟩
 | put =>
  show Same s (if (s.state==Qad)=true then _ else if (s.state==Qac)=true then _ else _:PS)/\(if (s.state==Qad)=true then _ else if (s.state==Qac)=true then _ else _:PS).done=_;split
  ·delta PS.tagName;cases s.draft <;> exact ⟨⟨rfl,rfl,rfl,rfl,rfl,rfl⟩,(Bool.or_false _).symm⟩
  ·split <;> exact ⟨Udq.1,Udq.2.trans (Bool.or_false _).symm⟩
 | quit=>exact ⟨⟨rfl,rfl,rfl,rfl,rfl,rfl⟩,(Bool.or_true _).symm⟩
 | new=>exact ⟨Ugt.1,Ugt.2.trans (Bool.or_false _).symm⟩
 | first=>exact ⟨Ugt.1.trans (Udq (s:=s.newAttr) (f:=fun w0 a=>{ a with n:=a.n++c })).1,((Udq (s:=s.newAttr) (f:=fun w0 a=>{ a with n:=a.n++c })).2.trans Ugt.2).trans (Bool.or_false _).symm⟩
 | check =>
  show Same s s.check/\s.check.done=_;delta PS.check;split
  ·have:=Udq (s:=s) (f:=fun w0 a=>{ a with k:=false });exact ⟨⟨this.1.pos,this.1.state,this.1.signs,this.1.closed,this.1.isret,this.1.serr⟩,this.2.trans (Bool.or_false _).symm⟩
  ·exact ⟨Same.rfl,(Bool.or_false _).symm⟩
 | refer=>exact ⟨⟨rfl,rfl,rfl,rfl,rfl,rfl⟩,(Bool.or_false _).symm⟩
theorem Ul2{f:List PA->PA->PA}{x:Nat}(h:Dk s x):Dk (s.last' f) x:=by
 match x,h with
 | 0,h =>
  show (s.last' f).draft=none;have h:s.draft=none:=h;delta PS.last';rw [h];exact h
 | 1,⟨D,hd,hk⟩=>refine xEAAA (Udp (f:=f) hd) fun as e w0 w0=>?_;exact ⟨_,e,hk⟩
 | x+2,⟨D,hd,hk,hn⟩ =>
  refine xEAAA (Udp (f:=f) hd) fun as e hl w0=>?_;exact ⟨_,e,hk,fun e=>hn (by cases hD:D.attrs with | nil=>rfl | cons a b=>rw [hD] at hl;rw [show as=[] from e] at hl;cases hl)⟩
theorem dk_new{x:Nat}(h:Dk s x)(hx:Nat.ble 1 x=true):Dk s.newAttr 2:=by
 have:∃ D,s.draft=some D/\(D.kind="start"\/D.kind="end"):=by
  match x,h,hx with
  | 1,⟨D,hd,hk⟩,_=>exact ⟨D,hd,hk⟩
  | x+2,⟨D,hd,hk,_⟩,_=>exact ⟨D,hd,hk⟩
 refine xEAA this fun D hd hk=>?_;rw [Uaq hd];exact ⟨_,rfl,hk,by simp⟩
theorem Upd{x y:Nat}{d:Deed}(h:Dk s x)(hp:post d x=some y):Dk (s.deed d c) y:=by
 cases d with
 | none=>cases hp;exact h
 | start=>cases hp;exact ⟨_,rfl,.inl rfl⟩
 | end_=>cases hp;exact ⟨_,rfl,.inr rfl⟩
 | comment=>cases hp
 | lost=>cases hp
 | lone=>cases hp
 | give=>cases hp
 | close=>cases hp
 | put =>
  cases hp;show Dk (if (s.state==Qad)=true then _ else if (s.state==Qac)=true then _ else _:PS) x;split
  ·delta PS.tagName
   match x,h with
   | 0,h=>have h:s.draft=none:=h;rw [h];exact h
   | 1,⟨D,hd,hk⟩=>rw [hd];exact ⟨_,rfl,hk⟩
   | x+2,⟨D,hd,hk,hn⟩=>rw [hd];exact ⟨_,rfl,hk,hn⟩
  ·split <;> exact Ul2 h
 | quit=>cases hp
 | new =>
  delta post at hp;cases hx:Nat.ble 1 x with
  | false=>rw [hx] at hp;cases hp
  | true=>rw [hx] at hp;cases hp;exact dk_new h hx
 | first =>
  delta post at hp;cases hx:Nat.ble 1 x with
  | false=>rw [hx] at hp;cases hp
  | true=>rw [hx] at hp;cases hp;exact Ul2 (dk_new h hx)
 | check =>
  cases hp;show Dk s.check x;delta PS.check;split
  ·have:=Ul2 (f:=fun w0 a=>{ a with k:=false }) h
   match x,this with
   | 0,h=>exact h
   | 1,h=>exact h
   | x+2,h=>exact h
  ·exact h
 | refer =>
  cases hp
  match x,h with
  | 0,h=>exact h
  | 1,h=>exact h
  | x+2,h=>exact h
theorem dk_okk{m n:Nat}(h:Dk s n)(ho:okk m n=true):Dk s m:=by
 delta okk at ho;rw [Bool.or_eq_true,Bool.and_eq_true] at ho;rcases ho with ho | ⟨h1,h2⟩
 ·rw [Nat.eq_of_beq_eq_true ho];exact h
 ·exact h.le (Nat.le_of_ble_eq_true h2) (Nat.le_of_ble_eq_true h1)
theorem Uay(s:PS)(a:Act)(c:Str):(s.goC a c).signs=s.signs/\(s.goC a c).closed=s.closed/\(s.goC a c).isret=s.isret/\(s.goC a c).serr=s.serr/\(s.goC a c).done=(s.done||a.deed.isEnd) /\
  (s.goC a c).pos=(if a.again&&a.goal.isSome then s.pos else s.pos+1)/\(s.goC a c).state=(a.goal.getD s.state):=by
 obtain ⟨err,deed,goal,again⟩:=a;have key:∀ s1:PS,Same s.nxt s1->s1.done=s.done->((s1.deed deed c).goto goal again).signs=s.signs /\
   ((s1.deed deed c).goto goal again).closed=s.closed/\((s1.deed deed c).goto goal again).isret=s.isret /\
   ((s1.deed deed c).goto goal again).serr=s.serr/\((s1.deed deed c).goto goal again).done=(s.done||deed.isEnd) /\
   ((s1.deed deed c).goto goal again).pos=(if again&&goal.isSome then s.pos else s.pos+1) /\
   ((s1.deed deed c).goto goal again).state=goal.getD s.state:=by
  intro s1 h1 hd1;refine xAA (Ujn (s:=s1) (c:=c) deed) fun h2 hd2=>?_;have h:=h1.trans h2;rw [hd1] at hd2;cases goal with
  | none=>exact ⟨h.signs,h.closed,h.isret,h.serr,hd2,by rw [Bool.and_comm];exact h.pos,h.state⟩
  | some g =>
   cases again with
   | false=>exact ⟨h.signs,h.closed,h.isret,h.serr,hd2,h.pos,rfl⟩
   | true=>exact ⟨h.signs,h.closed,h.isret,h.serr,hd2,by show (s1.deed deed c).pos - 1=s.pos;rw [h.pos];show s.pos+1 - 1=s.pos;exact om19,rfl⟩
 cases err with
 | none=>exact key s.nxt Same.rfl rfl
 | some e=>exact key (s.nxt.error e) ⟨rfl,rfl,rfl,rfl,rfl,rfl⟩ rfl
theorem goC_sz(h:Sz k s)(a:Act)(hc:c.length<=1):Sz (k+1) (s.goC a c):=by
 obtain ⟨err,deed,goal,again⟩:=a;have key:∀ s2:PS,Sz (k+1) s2->Sz (k+1) (s2.goto goal again):=by
  intro s2 h2;cases goal with
  | none=>exact h2
  | some g=>cases again <;> exact ⟨h2.out,h2.errs,h2.dr⟩
 cases err with
 | none=>exact key (s.nxt.deed deed c) (Upk (s':=s.nxt) h (by show s.errs.length<=_;exact om16) rfl rfl hc deed)
 | some e=>exact key ((s.nxt.error e).deed deed c) (Upk (s':=s.nxt.error e) h (by show (s.errs++[_]).length<=_;simp) rfl rfl hc deed)
theorem goC_dk(a:Act){x y:Nat}(h:Dk s x)(hp:post a.deed x=some y):Dk (s.goC a c) y:=by
 obtain ⟨err,deed,goal,again⟩:=a;have key:∀ s2:PS,Dk s2 y->Dk (s2.goto goal again) y:=by
  intro s2 h2;cases goal with
  | none=>exact h2
  | some g =>
   cases again
   ·match y,h2 with
    | 0,h=>exact h
    | 1,h=>exact h
    | y+2,h=>exact h
   ·match y,h2 with
    | 0,h=>exact h
    | 1,h=>exact h
    | y+2,h=>exact h
 have nx:∀ s1:PS,s1.draft=s.draft->Dk s1 x:=by
  intro s1 e
  match x,h with
  | 0,h=>exact e.trans h
  | 1,⟨D,hd,hk⟩=>exact ⟨D,e.trans hd,hk⟩
  | x+2,⟨D,hd,hk⟩=>exact ⟨D,e.trans hd,hk⟩
 cases err with
 | none=>exact key (s.nxt.deed deed c) (Upd (s:=s.nxt) (nx _ rfl) hp)
 | some e=>exact key ((s.nxt.error e).deed deed c) (Upd (s:=s.nxt.error e) (nx _ rfl) hp)
theorem Uan{x:Str}{q:St}(h:ofStr x=some q):x=q.str:=by
 delta ofStr at h;have h2:=List.find?_some (p:=fun q:St=>q.str==x) h;exact (eq_of_beq h2).symm
theorem inv_go{q:St}(h:Inv k s (some c))(hq:s.state=q.str)(hc:c.length<=1)(he:c≠""\/(act q c).again=true):Inv (k+1) (s.goC (act q c) c) (if (act q c).again then some c else none):=by
 have hst:=Usf q c;have hst2:=Ud7 q c;have hst3:=Unl q c;have hdk:=h.dk q hq;revert he hst hst2 hst3
 generalize act q c=a
 intro he hst hst2 hst3;refine xAAAAAAA (Uay s a c) fun f1 f2 f3 f4 f5 f6 f7=>?_;have hE:a.deed.isEnd=false:=by
  rcases he with he | he
  ·have:=hst3 he;dsimp only at this;cases hh:a.deed.isEnd with
   | false=>rfl
   | true=>rw [hh] at this;cases this
  ·dsimp only at hst2;rw [he] at hst2;cases hh:a.deed.isEnd with
   | false=>rfl
   | true=>rw [hh] at hst2;simp at hst2
 refine ⟨?_,goC_sz h.sz a hc,fun q' hq'=>?_⟩
 ·rw [f6];have:=h.pos;split <;> omega
 ·rw [f7] at hq';delta statA at hst;cases hg:a.goal with
  | none =>
   rw [hg] at hst hq';have:a.again=false:=by
    cases ha:a.again with
    | false=>rfl
    | true=>dsimp only at hst2;rw [ha,hg] at hst2;cases hst2
   rw [this];have hq2:q'=q:=(St.inj (hq.symm.trans hq')).symm;subst hq2;dsimp only at hst;rw [hE,Bool.false_or] at hst;cases hp:post a.deed (need q' (some c)) with
   | none=>rw [hp] at hst;cases hst
   | some y =>
    rw [hp] at hst;exact dk_okk (goC_dk a hdk hp) hst
  | some g =>
   rw [hg] at hst hq';have hq2:ofStr g=some q':=by rw [show g=q'.str from hq'];exact Uai q'
   dsimp only at hst;rw [hq2] at hst;dsimp only at hst;cases hp:post a.deed (need q (some c)) with
   | none=>rw [hp] at hst;cases hst
   | some y =>
    rw [hp] at hst;exact dk_okk (goC_dk a hdk hp) hst
end
noncomputable def okSign(c:Str):Prop:=c=""\/∃ n ∈ okL,c=ch n
noncomputable def adv:Nat->PS->Str->PS
 | 0,s,_=>s
 | n+1,s,c=>match ofStr s.state with
  | none=>s
  | some q=>if (act q c).again then adv n (s.goC (act q c) c) c else s.goC (act q c) c
noncomputable def ends:Nat->St->Str->Bool
 | 0,_,_=>false
 | n+1,q,c=>!(act q c).again||(match (act q c).goal with
  | some g=>(match ofStr g with
   | some q'=>ends n q' c
   | none=>true)
  | none=>false)
noncomputable def endsE:Nat->St->Bool
 | 0,_=>false
 | n+1,q=>if (act q "").again then (match (act q "").goal with
  | some g=>(match ofStr g with
   | some q'=>endsE n q'
   | none=>true)
  | none=>false) else (act q "").deed.isEnd
theorem Uqo:(allSt.all fun q=>ends 4 q ""&&okL.all fun n=>ends 4 q (ch n))=true:=by kernel_rfl
theorem Uo0:(allSt.all fun q=>endsE 4 q)=true:=by kernel_rfl
theorem Urh(q:St):allSt[q.ctorIdx]?=some q:=by cases q <;> rfl
theorem Uez(q:St):q ∈ allSt:=List.mem_of_getElem? (Urh q)
theorem Ud0{q:St}{c:Str}(hc:okSign c):ends 4 q c=true:=by
 have h:=List.all_eq_true.mp Uqo q (Uez q);rw [Bool.and_eq_true] at h;rcases hc with rfl | ⟨n,hn,rfl⟩
 ·exact h.1
 ·exact List.all_eq_true.mp h.2 n hn
theorem Uqr(q:St):endsE 4 q=true:=List.all_eq_true.mp Uo0 q (Uez q)
theorem okL_lt:okL.all (fun n=>Nat.blt n 100000)=true:=by kernel_rfl
theorem ok_sg{c:Str}(hc:okSign c):isUpper c=true->c.length=1/\c.cps.getD 0 0+32 < 0x110000:=by
 rcases hc with rfl | ⟨n,hn,rfl⟩
 ·intro h;exact absurd h (by decide)
 ·intro _;have:=Nat.le_of_ble_eq_true (List.all_eq_true.mp okL_lt n hn);exact ⟨rfl,by show n+32 < _;omega⟩
theorem ok_len{c:Str}(hc:okSign c):c.length<=1:=by
 rcases hc with rfl | ⟨n,hn,rfl⟩
 ·exact Nat.zero_le 1
 ·exact Nat.le_refl 1
section
variable {s s':PS}{k n:Nat}{c:Str}{D:PD}
theorem Inv.weak(h:Inv k s none):Inv k s (some c):=⟨h.pos,h.sz,fun q hq=>by
 have:=h.dk q hq;cases q with
 | aftName =>
  show Dk s (if slashy c=true then 1 else 2);split
  ·exact Dk.le this (by decide) (by decide)
  ·exact this
 | _=>exact this⟩
theorem Uti{q:St}(h:Inv k s (some c))(hq:s.state=q.str)(hk:k<=1500)(hc:okSign c)(e:s.cur=c):Fit q s:=by
 obtain ⟨hp,⟨h1,h2,h3⟩,h4⟩:=h;have h4:=h4 q hq;refine ⟨hq,hp,by delta lim;exact om46 hk h1,by delta lim;exact om46 hk h2,by rw [e];exact ok_sg hc,by rw [e];exact ok_len hc,fun hh=>?_,fun n1 n2=>?_⟩
 ·rcases hh with rfl | rfl <;> exact h4
 ·have one:∃ D,s.draft=some D/\(D.kind="start"\/D.kind="end"):=by
   have:1<=need q (some c):=by
    cases q with
    | tagOpen=>exact absurd rfl n1
    | endOpen=>exact absurd rfl n2
    | aftName=>show 1<=(if slashy c=true then 1 else 2);split <;> decide
    | _=>first | exact Nat.le_refl 1 | exact Nat.le_succ 1
   exact h4.le this (Nat.le_refl 1)
  refine xEAA one fun D hd hk'=>?_;refine xAAA (h3 D hd) fun z1 z2 z3=>?_;refine ⟨D,hd,hk',(Nat.lt_of_le_of_lt (Nat.succ_le_succ (Nat.le_trans z2 hk)) (by decide)),by delta lim;exact Nat.lt_of_le_of_lt (Nat.succ_le_succ (Nat.le_trans z1 hk)) (by decide),fun hh=>?_⟩;have two:need q (some c)=2:=by rcases hh with rfl | rfl | rfl | rfl | rfl <;> rfl
  rw [two] at h4;refine xEAAA h4 fun D' hd' w0 hne=>?_;rw [hd] at hd';cases hd';have ha:=Ukd (f:=fun w0 a=>a) (List.getLast?_eq_some_getLast hne);have hm:=z3 _ (List.getLast_mem hne);exact ⟨_,_,ha,by delta lim;omega,by delta lim;omega⟩
theorem Utl(a:Act)(h:a.again=true)(hg:a.goal.isSome=true):(s.goC a c).cur=s.cur:=by
 refine xAAAAAAA (Uay s a c) fun f1 f2 f3 f4 f5 f6 f7=>?_;delta PS.cur;rw [f6,f1,h,hg]
 rfl
theorem chain:∀ (n:Nat) (s:PS) (q:St) (k:Nat),s.state=q.str->ends n q c=true->Inv k s (some c)->s.done=false->s.cur=c->(s.closed=true\/s.pos < s.signs.length)->okSign c->k+n<=1500 ->
  ∀ (m:Nat) (s':PS),Runs (adv n s c) m s'->∃ m',m'<=m+n/\Runs s m' s'
 | 0,s,q,k,hq,he,_,_,_,_,_,_=>by cases he
 | n+1,s,q,k,hq,he,hI,hd,hcur,hr,hc,hk=>by
  intro m s' hR;have ho:ofStr s.state=some q:=by rw [hq,Uai]
  have ready:s.ready=true:=by
   delta PS.ready;rw [hd,ho];rcases hr with hr | hr
   ·rw [hr];rfl
   ·rw [decide_eq_true hr,Bool.or_true];rfl
  have hfit:s.fit:=⟨q,Uti hI hq (Nat.le_of_add_right_le hk) hc hcur⟩
  have hstep:s.step=s.goC (act q c) c:=by delta PS.step;rw [ho,<- hcur];rfl
  have hst2:=Ud7 q c;have hinv:(act q c).again=true->Inv (k+1) (s.goC (act q c) c) (some c):=fun ha=>by
   have:=inv_go hI hq (ok_len hc) (.inr ha);rw [if_pos ha] at this;exact this
  rw [adv,ho] at hR;dsimp only at hR;rw [ends] at he;revert hst2 hinv he;have hfacts:=Uay s (act q c) c;have hcur2:=Utl (s:=s) (c:=c) (act q c);revert hR hstep hfacts hcur2
  generalize act q c=a
  intro hR hstep hfacts hcur2 he hst2 hinv;refine xAAAAAAA hfacts fun f1 f2 f3 f4 f5 f6 f7=>?_;cases ha:a.again with
  | false =>
   rw [ha,if_neg Bool.false_ne_true] at hR;exact ⟨m+1,(om47 hk),.go ready hfit (by rw [hstep];exact hR)⟩
  | true =>
   rw [ha,if_pos rfl] at hR;dsimp only at hst2;rw [ha] at hst2 he;simp only [Bool.not_true,Bool.false_or,Bool.and_eq_true,Bool.not_eq_true'] at hst2 he;refine xEA (Option.isSome_iff_exists.mp hst2.1) fun g hg=>?_;rw [hg] at he f7;have f7:(s.goC a c).state=g:=f7;cases hog:ofStr g with
   | none =>
    have:adv n (s.goC a c) c=s.goC a c:=by
     cases n with
     | zero=>rfl
     | succ n=>rw [adv,f7,hog]
    rw [this] at hR;exact ⟨m+1,(om47 hk),.go ready hfit (by rw [hstep];exact hR)⟩
   | some q' =>
    simp only [hog] at he;obtain ⟨m',hm',hR'⟩:=chain n (s.goC a c) q' (k+1) (by rw [f7];exact Uan hog) he (hinv ha) (by rw [f5,hd,hst2.2];rfl) ((hcur2 ha hst2.1).trans hcur) (by
     rw [f2,f1,f6,ha,hst2.1];exact hr) hc (Nat.le_trans (Nat.le_of_eq (Nat.succ_add _ _)) hk) m s' hR
    exact ⟨m'+1,(Nat.add_le_add_right hm' 1),.go ready hfit (by rw [hstep];exact hR')⟩
theorem Uex:∀ (n:Nat) (s:PS) (c:Str),(adv n s c).signs=s.signs/\(adv n s c).closed=s.closed/\(adv n s c).isret=s.isret/\(adv n s c).serr=s.serr
 | 0,s,c=>⟨rfl,rfl,rfl,rfl⟩
 | n+1,s,c=>by
  rw [adv];cases ofStr s.state with
  | none=>exact ⟨rfl,rfl,rfl,rfl⟩
  | some q =>
   dsimp only;refine xAAAAAAA (Uay s (act q c) c) fun f1 f2 f3 f4 f5 f6 f7=>?_;split
   ·refine xAAAA (Uex n (s.goC (act q c) c) c) fun g1 g2 g3 g4=>?_;exact ⟨g1.trans f1,g2.trans f2,g3.trans f3,g4.trans f4⟩
   ·exact ⟨f1,f2,f3,f4⟩
theorem Ull:∀ (n:Nat) (s:PS) (q:St) (k:Nat),s.state=q.str->ends n q c=true->Inv k s (some c)->s.done=false->okSign c->c≠"" ->
  (adv n s c).done=false/\Sz (k+n) (adv n s c)/\(ofStr (adv n s c).state=none\/(adv n s c).pos=s.pos+1/\Inv (k+n) (adv n s c) none)
 | 0,s,q,k,hq,he,_,_,_,_=>by cases he
 | n+1,s,q,k,hq,he,hI,hd,hc,hne=>by
  have ho:ofStr s.state=some q:=by rw [hq,Uai]
  have hst2:=Ud7 q c;have hst3:=Unl q c hne;have hinv:=inv_go hI hq (ok_len hc) (.inl hne);rw [adv,ho];dsimp only;rw [ends] at he;have hfacts:=Uay s (act q c) c;have hszz:=goC_sz hI.sz (act q c) (ok_len hc);revert hst2 hst3 hinv he hfacts hszz
  generalize act q c=a
  intro he hst2 hst3 hinv hfacts hszz;refine xAAAAAAA hfacts fun f1 f2 f3 f4 f5 f6 f7=>?_;dsimp only at hst3;have hE:a.deed.isEnd=false:=by cases h:a.deed.isEnd with | false=>rfl | true=>rw [h] at hst3;cases hst3
  have hd':(s.goC a c).done=false:=by rw [f5,hd,hE];rfl
  cases ha:a.again with
  | false =>
   rw [ha,if_neg Bool.false_ne_true] at hinv;rw [if_neg Bool.false_ne_true];refine ⟨hd',hszz.mono om13,.inr ⟨by rw [f6,ha];rfl,hinv.pos,hinv.sz.mono om13,hinv.dk⟩⟩
  | true =>
   rw [ha,if_pos rfl] at hinv;rw [if_pos rfl];dsimp only at hst2;rw [ha] at hst2 he;simp only [Bool.not_true,Bool.false_or,Bool.and_eq_true,Bool.not_eq_true'] at hst2 he;refine xEA (Option.isSome_iff_exists.mp hst2.1) fun g hg=>?_;rw [hg] at he f7;have f7:(s.goC a c).state=g:=f7;cases hog:ofStr g with
   | none =>
    have:adv n (s.goC a c) c=s.goC a c:=by
     cases n with
     | zero=>rfl
     | succ n=>rw [adv,f7,hog]
    rw [this];exact ⟨hd',hszz.mono om13,.inl (by rw [f7];exact hog)⟩
   | some q' =>
    simp only [hog] at he;refine xAAA (Ull n (s.goC a c) q' (k+1) (by rw [f7];exact Uan hog) he hinv hd' hc hne) fun r1 r2 r3=>?_;refine ⟨r1,r2.mono om48,r3.imp id fun qq=>xAA qq fun p1 p2=>⟨?_,p2.pos,p2.sz.mono om48,p2.dk⟩⟩;rw [p1,f6,ha,hst2.1];rfl
theorem Upx:∀ (n:Nat) (s:PS) (q:St),s.state=q.str->endsE n q=true->(adv n s "").done=true\/ofStr (adv n s "").state=none
 | 0,s,q,hq,he=>by cases he
 | n+1,s,q,hq,he=>by
  have ho:ofStr s.state=some q:=by rw [hq,Uai]
  rw [adv,ho];dsimp only;rw [endsE] at he;have hst2:=Ud7 q "";have hfacts:=Uay s (act q "") "";revert hst2 he hfacts
  generalize act q ""=a
  intro he hst2 hfacts;refine xAAAAAAA hfacts fun f1 f2 f3 f4 f5 f6 f7=>?_;cases ha:a.again with
  | false =>
   rw [ha,if_neg Bool.false_ne_true] at he;rw [if_neg Bool.false_ne_true];exact .inl (by rw [f5,he,Bool.or_true])
  | true =>
   rw [ha,if_pos rfl] at he;rw [if_pos rfl];dsimp only at hst2;rw [ha] at hst2;simp only [Bool.not_true,Bool.false_or,Bool.and_eq_true,Bool.not_eq_true'] at hst2;refine xEA (Option.isSome_iff_exists.mp hst2.1) fun g hg=>?_;rw [hg] at he f7;have f7:(s.goC a "").state=g:=f7;cases hog:ofStr g with
   | none =>
    have:adv n (s.goC a "") ""=s.goC a "":=by
     cases n with
     | zero=>rfl
     | succ n=>rw [adv,f7,hog]
    rw [this];exact .inr (by rw [f7];exact hog)
   | some q' =>
    simp only [hog] at he;exact Upx n (s.goC a "") q' (by rw [f7];exact Uan hog) he
theorem Ubt(n:Nat)(h:ofStr s.state=none):adv n s c=s:=by
 cases n with
 | zero=>rfl
 | succ n=>rw [adv,h]
theorem Ug4:∀ (l:List Str) (s:PS),ofStr s.state=none->l.foldl (adv 4) s=s
 | [],s,h=>rfl
 | c::l,s,h=>by rw [List.foldl_cons,Ubt 4 h,Ug4 l s h]
structure Mid(k:Nat)(s:PS):Prop where
 done:s.done=false
 sz:Sz k s
 at_:ofStr s.state=none\/s.pos=s.signs.length/\Inv k s none
theorem cur_at{pre rest:List Str}(h1:s.signs=pre++c::rest)(h2:s.pos=pre.length):s.cur=c/\s.pos < s.signs.length:=by
 have hl:s.pos < s.signs.length:=by rw [h1,h2];simp;exact Int.lt_add_succ (_) _
 refine ⟨?_,hl⟩;delta PS.cur;rw [if_pos hl,h2,h1];simp
theorem Unk:∀ (rest pre:List Str) (s:PS) (k:Nat),(ofStr s.state=none\/(s.signs=pre++rest/\s.pos=pre.length/\Inv k s none))->Sz k s->s.done=false->s.closed=false->(∀ c ∈ rest,okSign c/\c≠"")->k+4*rest.length<=1500 ->
  (∃ m,m<=4*rest.length/\Runs s m (rest.foldl (adv 4) s))/\Mid (k+4*rest.length) (rest.foldl (adv 4) s)
 | rest,pre,s,k,.inl hn,hz,hd,hc,hr,hk=>by
  rw [Ug4 rest s hn];exact ⟨⟨0,Nat.zero_le _,.stop (by delta PS.ready;rw [hn];simp)⟩,hd,hz.mono (Nat.le_add_right _ _),.inl hn⟩
 | [],pre,s,k,.inr ⟨h1,h2,hI⟩,hz,hd,hc,hr,hk=>by
  rw [List.append_nil] at h1;refine ⟨⟨0,Nat.zero_le _,.stop ?_⟩,hd,hz,.inr ⟨by show s.pos=s.signs.length;rw [h1];exact h2,hI⟩⟩;show s.ready=false;delta PS.ready;rw [hc,h1,h2];simp
 | c::rest,pre,s,k,.inr ⟨h1,h2,hI⟩,hz,hd,hc,hr,hk=>by
  refine xAA (hr c List.mem_cons_self) fun hok hne=>?_;refine xAA (cur_at h1 h2) fun hcur hlt=>?_;rw [List.foldl_cons];rw [List.length_cons] at hk ⊢;cases ho:ofStr s.state with
  | none =>
   rw [Ubt 4 ho,Ug4 rest s ho];exact ⟨⟨0,Nat.zero_le _,.stop (by delta PS.ready;rw [ho];simp)⟩,hd,hz.mono (Nat.le_add_right _ _),.inl ho⟩
  | some q =>
   have hq:=Uan ho;refine xAAA (Ull 4 s q k hq (Ud0 hok) hI.weak hd hok hne) fun a1 a2 a3=>?_;refine xAAAA (Uex 4 s c) fun b1 b2 b3 b4=>?_;refine xAA (Unk rest (pre++[c]) (adv 4 s c) (k+4) (a3.imp id fun ⟨p1,p2⟩=>⟨by rw [b1,h1];simp,by rw [p1,h2];simp,p2⟩) a2 a1 (b2.trans hc) (fun x m=>hr x (List.mem_cons_of_mem _ m)) (Nat.le_trans (Nat.le_of_eq (Nat.add_right_comm _ 4 (4*_))) hk)) fun qz1 hM=>?_;obtain ⟨m,hm,hR⟩:=qz1;refine xEAA (chain 4 s q k hq (Ud0 hok) hI.weak hd hcur (.inr hlt) hok (Nat.le_trans (Nat.add_le_add_left (Nat.le_add_left 4 (4*_)) _) hk) m _ hR) fun m' hm' hR'=>?_;refine ⟨⟨m',(Nat.le_trans hm' (Nat.add_le_add_right hm 4)),hR'⟩,?_⟩;rw [show k+4*(rest.length+1)=k+4+4*rest.length by omega];exact hM
theorem Uon(h:Mid k s)(hc:s.closed=false)(x:Str)(hx:∀ c ∈ feedL s.isret x.cps.toList,okSign c/\c≠"")(hk:k+4*(feedL s.isret x.cps.toList).length<=1500) :
  (∃ m,m<=4*(feedL s.isret x.cps.toList).length/\Runs (s.feed x) m ((feedL s.isret x.cps.toList).foldl (adv 4) (s.feed x)))/\Mid (k+4*(feedL s.isret x.cps.toList).length) ((feedL s.isret x.cps.toList).foldl (adv 4) (s.feed x)):=by
 refine Unk (feedL s.isret x.cps.toList) s.signs (s.feed x) k (h.at_.imp id fun qq=>xAA qq fun h1 h2=>⟨rfl,h1,h2.pos,⟨h2.sz.out,h2.sz.errs,h2.sz.dr⟩,fun q hq=>?_⟩) ⟨h.sz.out,h.sz.errs,h.sz.dr⟩ h.done hc hx hk;have:=h2.dk q hq;revert this
 generalize need q none=x
 intro this
 match x,this with
 | 0,h=>exact h
 | 1,h=>exact h
 | x+2,h=>exact h
theorem Uqv(h:Mid k s)(hk:k<=1400):∃ m,m<=4/\Runs s.end m (adv 4 s.end ""):=by
 rcases h.at_ with hn | ⟨h1,h2⟩
 ·have hn':ofStr s.end.state=none:=hn;rw [Ubt 4 hn'];exact ⟨0,Nat.zero_le _,.stop (by delta PS.ready;rw [hn'];simp)⟩
 ·cases ho:ofStr s.state with
  | none =>
   have hn':ofStr s.end.state=none:=ho;rw [Ubt 4 hn'];exact ⟨0,Nat.zero_le _,.stop (by delta PS.ready;rw [hn'];simp)⟩
  | some q =>
   have hq:s.end.state=q.str:=Uan ho;have hI:Inv k s.end none:=⟨h2.pos,⟨h2.sz.out,h2.sz.errs,h2.sz.dr⟩,fun q hq=>by
    have:=h2.dk q hq;revert this
    generalize need q none=x
    intro this
    match x,this with
    | 0,h=>exact h
    | 1,h=>exact h
    | x+2,h=>exact h⟩
   have hcur:s.end.cur="":=by
    delta PS.cur;rw [if_neg];show ¬ (s.pos < s.signs.length);rw [h1];exact Int.lt_irrefl _
   have hfin:=Upx 4 s.end q hq (Uqr q);obtain ⟨m',hm',hR'⟩:=chain 4 s.end q k hq (Ud0 (.inl rfl)) hI.weak h.done hcur (.inl rfl) (.inl rfl) (by omega) 0 _ (.stop (by
    delta PS.ready;rcases hfin with e | e
    ·rw [e];rfl
    ·rw [e];simp))
   exact ⟨m',by omega,hR'⟩
end
section
section
variable {p:Params}{O O' O₁:Store}{n d:Nat}{Q:V->Store->Prop}{k:V->M Fl}
theorem Uqa{o:V}{elt:V->M V}{test:V->M Bool}(f:V->Option V)(items:List V)(hd:∀ k,k<=items.length->drawV o k O=some items[k]?)
  (ht:∀ v ∈ items,(f v=Option.none/\test v O=some (false,O))\/∃ w,f v=some w/\test v O=some (true,O)/\elt v O=some (w,O)) :
  ∀ (rest pre:List V) (n:Nat) (acc:List V),items=pre++rest->rest.length < n->acc.length+rest.length < lim->compK o elt test n pre.length acc O=some (.lst (acc++rest.filterMap f),O)
 | [],pre,0,acc,h,hn,hl=>absurd hn (Nat.not_lt_zero _)
 | c::r,pre,0,acc,h,hn,hl=>absurd hn (Nat.not_lt_zero _)
 | [],pre,n+1,acc,h,hn,hl=>by
  rw [compK];have e:=hd pre.length (by rw [h];simp);rw [bnd_of (a:=none) (O₁:=O) (by delta look;rw [e,h];simp)];simp [ret]
 | c::r,pre,n+1,acc,h,hn,hl=>by
  rw [compK];have e:=hd pre.length (by rw [h];simp);rw [bnd_of (a:=some c) (O₁:=O) (by delta look;rw [e,h];simp)];have ih:=fun acc' hl'=>Uqa f items hd ht r (pre++[c]) n acc' (by rw [h];simp) (by rw [List.length_cons] at hn;exact om6 hn) hl';rw [List.length_append,List.length_singleton] at ih;rw [List.length_cons] at hl;rcases ht c (by rw [h];simp) with ⟨h1,h2⟩ | ⟨w,h1,h2,h3⟩
  ·show (bnd (test c) fun b=>if b=true then bnd (elt c) (fun w=>if acc.length < lim then compK o elt test n (pre.length+1) (acc++[w]) else fail) else compK o elt test n (pre.length+1) acc) O=_;rw [bnd_of h2,if_neg Bool.false_ne_true,ih acc (Nat.lt_of_succ_lt hl),List.filterMap_cons,h1]
  ·show (bnd (test c) fun b=>if b=true then bnd (elt c) (fun w=>if acc.length < lim then compK o elt test n (pre.length+1) (acc++[w]) else fail) else compK o elt test n (pre.length+1) acc) O=_;rw [bnd_of h2,if_pos rfl,bnd_of h3,if_pos (Nat.lt_of_add_right_lt hl),ih (acc++[w]) (by simp;exact Nat.lt_of_le_of_lt (Nat.le_of_eq (Nat.succ_add _ _)) hl),List.filterMap_cons,h1];simp
theorem Umc{o:V}{elt:V->M V}{test:V->M Bool}(f:V->Option V)(items:List V)(hd:∀ k,k<=items.length->drawV o k O=some items[k]?)
  (ht:∀ v ∈ items,(f v=Option.none/\test v O=some (false,O))\/∃ w,f v=some w/\test v O=some (true,O)/\elt v O=some (w,O)) (hl:items.length < 200) :
  compK o elt test 200 0 [] O=some (.lst (items.filterMap f),O):=by
 have:=Uqa f items hd ht items [] 200 [] rfl hl (by delta lim;simp;omega)
 simpa using this
theorem Up0{a b:Int}{k:Nat}:drawV (.rng a b 1) k O=some (if a+(k:Int)*1 < b then some (.int (a+(k:Int)*1)) else none):=by
 show (if (0:Int) < 1 then some (if a+(k:Int)*1 < b then some (V.int (a+(k:Int)*1)) else none) else none)=_;rw [if_pos (by decide)]
theorem Uc7{vs:List V}(k:Nat):drawV (.lst vs) k O=some vs[k]?:=rfl
theorem Ubz{r i:Nat}{es es':List (Str×V)}{x:Str}{v:V}(h:O.get r i=some (.dict es))(hl:es.length < lim)(hx:setK x v es=es'):setItemV (.ref r i) (.str x) v O=some ((),O.put r i (.dict es')):=by
 subst hx;exact (ob_of (f:=_) (Uf8 h)).trans (if_pos hl)
theorem ext_of{c:CC}{r i:Nat}{vs ws:List V}{v:V}(h:O.get r i=some (.list vs))(hv:asList O v=some ws)(hl:vs.length+ws.length < lim):methodV c (.bi .extend) (.ref r i) [v] O=some (.none,O.put r i (.list (vs++ws))):=by
 show ob (lref O (.ref r i)) (fun z=>ob (asList O v) _ _) _=_;rw [Ufi h];show ob (asList O v) _ _=_;rw [hv];exact if_pos hl
theorem RF.ext{r i:Nat}{vs:List V}{k:MK->M Fl}{Q:V->Store->Prop}(h:O.get r i=some (.list vs))(g:RF (k (.bi .extend)) O Q) :
  RF (bnd (look (methK (P p) (.ref r i) Qbn)) fun m=>if isRepl m then fail else k m) O Q:=RF.ml h (by kernel_rfl) (by decide) g
theorem RF.upd{r i:Nat}{es:List (Str×V)}{k:MK->M Fl}{Q:V->Store->Prop}(h:O.get r i=some (.dict es))(g:RF (k (.bi .update)) O Q) :
  RF (bnd (look (methK (P p) (.ref r i) Qde)) fun m=>if isRepl m then fail else k m) O Q:=RF.md h (by kernel_rfl) (by decide) g
theorem RF.getm{r i:Nat}{es:List (Str×V)}{k:MK->M Fl}{Q:V->Store->Prop}(h:O.get r i=some (.dict es))(g:RF (k (.bi .get)) O Q) :
  RF (bnd (look (methK (P p) (.ref r i) (Y "get"))) fun m=>if isRepl m then fail else k m) O Q:=RF.md h (by kernel_rfl) (by decide) g
theorem upd_of{c:CC}{r i r' i':Nat}{es fs es':List (Str×V)}(h:O.get r i=some (.dict es))(h':O.get r' i'=some (.dict fs))(hl:es.length+fs.length < lim)(hn:r≠r'\/i≠i')(he:updD es fs=es') :
  methodV c (.bi .update) (.ref r i) [.ref r' i'] O=some (.none,O.put r i (.dict es')):=by
 show ob (dref O (.ref r i)) (fun z=>ob (dref O (.ref r' i')) _ _) _=_;rw [Uf8 h];show ob (dref O (.ref r' i')) _ _=_;rw [Uf8 h',<- he];exact if_pos ⟨hl,hn⟩
theorem get_of{c:CC}{r i:Nat}{es:List (Str×V)}{x:Str}{v w:V}(h:O.get r i=some (.dict es))(hw:(lk x es).getD v=w):methodV c (.bi .get) (.ref r i) [.str x,v] O=some (w,O):=by
 show ob (dref O (.ref r i)) _ _=_;rw [Uf8 h,<- hw];rfl
theorem item_at{o:V}{vs:List V}{k:Nat}{v:V}(h:asSeq O o=some vs)(hs:∀ s,o≠.str s)(hk:vs[k]?=some v):itemV o (.int k) O=some v:=Ufo h hs (Int.natCast_nonneg _) (by simpa using hk)
theorem RF.nd{r:Nat}{es:List (Str×V)}(hlen:O.length=24)(hr:r < 24)(g:∀ i,(O.add r (.dict es)).get r i=some (.dict es)->(∀ r' i' o,O.get r' i'=some o->(O.add r (.dict es)).get r' i'=some o)->(∃ l,O[r]?=some l/\i=l.length)->RF (k (.ref r i)) (O.add r (.dict es)) Q):RF (bnd (newD r es) k) O Q:=by
 refine xEA (reg_of hlen hr) fun l hl=>?_;exact RF.b (Uhp hl) (g l.length (Ua1 hl) (fun r' i' o e=>Ubg hl e) ⟨l,hl,rfl⟩)
end
end
section
section
variable {p:Params}{O O' O₁:Store}{n d:Nat}{Q:V->Store->Prop}{k:V->M Fl}{ν:Nf}{kd:Str}{cl:Bool}{ws ts:List V}{s:PS}{D:PD}
theorem Ulp(l:List Int):intsOf (l.map .int)=some l:=by
 induction l with
 | nil=>rfl
 | cons a r ih=>exact ob_of (f:=fun ds=>some (a::ds)) (z:=none) ih
end
end
section
section
variable {p:Params}{O O' O₁:Store}{n d:Nat}{Q:V->Store->Prop}{k:V->M Fl}{ν:Nf}{kd:Str}{cl:Bool}{ws ts:List V}{s:PS}{D:PD}{A B:M Fl}
theorem RF.yesC{f:Store->Option Bool}(h:f O=some true)(g:RF A O Q):RF (bnd (look f) fun b=>cond b A B) O Q:=RF.l h g
theorem RF.noC{f:Store->Option Bool}(h:f O=some false)(g:RF B O Q):RF (bnd (look f) fun b=>cond b A B) O Q:=RF.l h g
theorem RF.ct{a b:M Fl}(h:RF a O Q):RF (cond true a b) O Q:=h
theorem RF.cf{a b:M Fl}(h:RF b O Q):RF (cond false a b) O Q:=h
end
end
section
noncomputable def rep(y z:List Nat):Nat->List Nat->List Nat
 | 0,l=>l
 | _+1,[]=>[]
 | n+1,c::r=>if (c::r).take y.length==y then z++rep y z n ((c::r).drop y.length) else c::rep y z n r
variable {x y z:Str}
theorem at_iff(k:Nat):StrLaws.At x y x.length k ↔ ((x.cps.toList.drop k).take y.length==y.cps.toList)=true/\k+y.length<=x.length:=by
 delta StrLaws.At;rw [StrLaws.subAt_eq];exact And.comm
theorem miss{k:Nat}(hy:1<=y.length)(h:¬ StrLaws.At x y x.length k):((x.cps.toList.drop k).take y.length==y.cps.toList)=false:=by
 cases q:(x.cps.toList.drop k).take y.length==y.cps.toList with
 | false=>rfl
 | true =>
  refine absurd ((at_iff k).mpr ⟨q,?_⟩) h;have h2:=congrArg List.length (eq_of_beq q);rw [List.length_take,List.length_drop] at h2;have h3:min y.length (x.length - k)=y.length:=h2;exact om303 hy h3
theorem Ur3{u v:List Nat}{c n:Nat}{r:List Nat}(h:((c::r).take u.length==u)=false):rep u v (n+1) (c::r)=c::rep u v n r:=by
 show (if _ then _ else _)=_;rw [h];rfl
theorem Utb{u v:List Nat}{c n:Nat}{r:List Nat}(h:((c::r).take u.length==u)=true):rep u v (n+1) (c::r)=v++rep u v n ((c::r).drop u.length):=by
 show (if _ then _ else _)=_;rw [h];rfl
theorem rep_go{k n:Nat}(hy:1<=y.length)(hlt:k < x.cps.toList.length)(h:¬ StrLaws.At x y x.length k):rep y.cps.toList z.cps.toList (n+1) (x.cps.toList.drop k)=x.cps.toList[k]::rep y.cps.toList z.cps.toList n (x.cps.toList.drop (k+1)):=by
 have q:=miss hy h;rw [List.drop_eq_getElem_cons hlt] at q ⊢;exact Ur3 q
theorem Uiu(hy:1<=y.length):∀ (n a:Nat),(∀ k,a<=k->¬ StrLaws.At x y x.length k)->rep y.cps.toList z.cps.toList n (x.cps.toList.drop a)=x.cps.toList.drop a
 | 0,_,_=>rfl
 | n+1,a,hn=>by
  by_cases hlt:a < x.cps.toList.length
  ·rw [rep_go hy hlt (hn a (Nat.le_refl a)),Uiu hy n (a+1) fun k hk=>hn k (Nat.le_of_succ_le hk),<- List.drop_eq_getElem_cons hlt]
  ·rw [List.drop_eq_nil_of_le (Nat.le_of_not_lt hlt)];rfl
theorem Upv(hy:1<=y.length)(n:Nat):∀ (m a:Nat),a+m<=x.length->(∀ k,a<=k->k < a+m->¬ StrLaws.At x y x.length k) ->
  rep y.cps.toList z.cps.toList (n+m) (x.cps.toList.drop a)=(x.cps.toList.drop a).take m++rep y.cps.toList z.cps.toList n (x.cps.toList.drop (a+m))
 | 0,_,_,_=>rfl
 | m+1,a,hc,hn=>by
  have hlt:a < x.cps.toList.length:=Nat.lt_of_lt_of_le (Nat.lt_add_of_pos_right (Nat.succ_pos m)) hc;have e:a+1+m=a+(m+1):=Nat.succ_add a m;have ih:=Upv hy n m (a+1) (e▸hc) fun k h1 h2=>hn k (Nat.le_of_succ_le h1) (e▸h2);show rep _ _ (n+m+1) _=_;rw [rep_go hy hlt (hn a (Nat.le_refl a) (Nat.lt_add_of_pos_right (Nat.succ_pos m))),ih,e,List.drop_eq_getElem_cons hlt,List.take_succ_cons,List.cons_append]
theorem Uhl(hy:1<=y.length):∀ (cuts:List Nat) (a f n:Nat),x.length<=a+n->StrLaws.ChainG x y x.length a cuts f->(∀ k,f<=k->¬ StrLaws.At x y x.length k) ->
  (Str.join z (StrLaws.partsFrom x y.length a cuts)).cps.toList=rep y.cps.toList z.cps.toList n (x.cps.toList.drop a)
 | [],a,f,n,ha,h,hn=>by
  have e:f=a:=h;subst e;rw [Uiu hy n f hn];show (Builtin.Str.strSub x f x.length).cps.toList=_;rw [StrLaws.strSub_toList];exact List.take_of_length_le (Nat.le_of_eq List.length_drop)
 | c::r,a,f,n,ha,h,hn=>xAAAA h fun h1 h2 h3 h4=>by
  have hAt:=(at_iff c).mp h2;refine xEA (Nat.exists_eq_add_of_le h1) fun m em=>?_;subst em;have hnn:∃ k,n=k+1+m:=⟨n - (m+1),by have:=hAt.2;omega⟩
  refine xEA hnn fun k ek=>?_;subst ek;have ih:=Uhl hy r (a+m+y.length) f k (by omega) h4 hn;have hcx:a+m<=x.length:=Nat.le_trans (Nat.le_add_right _ _) hAt.2;have hlt:a+m < x.cps.toList.length:=Nat.lt_of_lt_of_le (Nat.lt_add_of_pos_right hy) hAt.2;have hj:(Str.join z (StrLaws.partsFrom x y.length a ((a+m)::r))).cps.toList=(x.cps.toList.drop a).take m++(z.cps.toList++(Str.join z (StrLaws.partsFrom x y.length (a+m+y.length) r)).cps.toList):=by
   refine xEEA (StrLaws.partsFrom_ne x y.length (a+m+y.length) r) fun p q hp=>?_;show (Str.join z (Builtin.Str.strSub x a (a+m)::StrLaws.partsFrom x y.length (a+m+y.length) r)).cps.toList=_;rw [hp];show (Builtin.Str.strSub x a (a+m)++z++Str.join z (p::q)).cps.toList=_;rw [Str.cps_append,Str.cps_append,Array.toList_append,Array.toList_append,StrLaws.strSub_toList,List.append_assoc,Nat.add_sub_cancel_left]
  rw [hj,ih,Upv hy (k+1) m a hcx h3];have hs:rep y.cps.toList z.cps.toList (k+1) (x.cps.toList.drop (a+m))=z.cps.toList++rep y.cps.toList z.cps.toList k (x.cps.toList.drop (a+m+y.length)):=by
   have q:=hAt.1;have e:(x.cps.toList.drop (a+m)).drop y.length=x.cps.toList.drop (a+m+y.length):=List.drop_drop;rw [<- e];revert q;rw [List.drop_eq_getElem_cons hlt];exact Utb
  rw [hs]
theorem Ubx(x y z:Str)(hy:1<=y.length):(Txt.replace x y z).cps.toList=rep y.cps.toList z.cps.toList x.length x.cps.toList:=by
 have h0:(y.length==0)=false:=beq_eq_false_iff_ne.mpr (Nat.ne_of_gt hy);refine xEAA (StrLaws.occ_tight x y hy) fun f hch hn=>?_;have hj:=Uhl (z:=z) hy _ 0 f x.length (Nat.le_add_left _ _) hch hn;delta Txt.replace;rw [h0,Bool.false_and,Bool.or_false];cases he:(Builtin.Str.occurrences x y 0 x.length (x.length+1)).isEmpty
 ·rw [if_neg Bool.false_ne_true,StrLaws.glued_eq_join,StrLaws.partsBetween_eq];exact hj
 ·rw [if_pos rfl];have e:Builtin.Str.occurrences x y 0 x.length (x.length+1)=[]:=List.isEmpty_iff.mp he;rw [e] at hch;have hf:f=0:=hch;subst hf;exact (Uiu hy x.length 0 hn).symm
end
theorem Upq(a b:Nat):∀ (n:Nat) (l:List Nat),l.length<=n->rep [a] [b] n l=l.map fun c=>if c=a then b else c
 | 0,l,h=>by
  have:l=[]:=List.length_eq_zero_iff.mp (om8 h);subst this;rfl
 | n+1,[],h=>rfl
 | n+1,c::r,h=>by
  rw [List.length_cons] at h;rw [rep];show (if ([c]==[a])=true then [b]++rep [a] [b] n r else c::rep [a] [b] n r)=_;rw [Upq a b n r (Nat.le_of_lt_succ h),List.map_cons]
  by_cases hc:c=a
  ·subst hc;simp
  ·simp [hc]
section
theorem Ukm(y z:List Nat):∀ (n:Nat) (l:List Nat) (c:Nat),c ∈ rep y z n l->c ∈ l\/c ∈ z
 | 0,l,c,h=>.inl h
 | n+1,[],c,h=>.inl h
 | n+1,d::r,c,h=>by
  rw [rep] at h;split at h
  ·rcases List.mem_append.mp h with h | h
   ·exact .inr h
   ·exact (Ukm y z n _ c h).imp (fun m=>List.mem_of_mem_drop m) id
  ·rcases List.mem_cons.mp h with h | h
   ·exact .inl (by rw [h];exact List.mem_cons_self)
   ·exact (Ukm y z n r c h).imp (fun m=>List.mem_cons_of_mem _ m) id
set_option tactic.hygienic true in
theorem Uj7(y z:List Nat)(hz:z.length<=y.length):∀ (n:Nat) (l:List Nat),(rep y z n l).length<=l.length
 | 0,l=>Nat.le_refl _
 | n+1,[]=>Nat.le_refl _
 | n+1,d::r=>by
  rw [rep];split
  ·rename_i h;have h2:=congrArg List.length (eq_of_beq h);rw [List.length_take] at h2;have:=Uj7 y z hz n ((d::r).drop y.length);rw [List.length_drop] at this;rw [List.length_append];exact om302 hz h2 this
  ·have:=Uj7 y z hz n r;simp;omega
section
variable {p:Params}{O O' O₁:Store}{n d:Nat}{x:Str}
theorem Uph(a b:Str)(hb:b.length<=a.length)(hb2:b.length<=14)(ha:1<=a.length)(hab:(a==b)=false)(hx:∀ c ∈ x.cps.toList,c < 0x110000)(hbc:∀ c ∈ b.cps.toList,c < 0x110000)(hl:x.length<=lim) :
  replS (.str x) a b O=some (.str (Txt.replace x a b),O):=by
 have e:=Ubx x a b ha;show (if b.length<=14/\(a==b)=false/\(Txt.replace x a b).cps.all (· < 0x110000)=true/\(Txt.replace x a b).length<=lim then ret (V.str (Txt.replace x a b)) else fail) O=_;rw [if_pos]
 ·rfl
 ·refine ⟨hb2,hab,?_,?_⟩
  ·rw [<- Array.all_toList,e,List.all_eq_true];intro c hc;rcases Ukm _ _ _ _ c hc with h | h
   ·exact decide_eq_true (hx c h)
   ·exact decide_eq_true (hbc c h)
  ·have:=Uj7 a.cps.toList b.cps.toList (by simpa [Str.length] using hb) x.length x.cps.toList;rw [<- e] at this;have e1:(Txt.replace x a b).cps.toList.length=(Txt.replace x a b).length:=by rfl
   have e2:x.cps.toList.length=x.length:=by rfl
   exact om50 hl this e1 e2
end
end
section
theorem Ug8(n k:Nat):clipAt n (k:Int)=min k n:=by
 delta clipAt;rw [if_neg (Int.not_ofNat_neg _)];exact om300
theorem Umz{α:Type}{l:List α}{n a:Nat}(h:l.length<=n):l.drop (min a n)=l.drop a:=by
 rcases Nat.le_total a n with q | q
 ·rw [Nat.min_eq_left q]
 ·rw [Nat.min_eq_right q,List.drop_eq_nil_of_le h,List.drop_eq_nil_of_le (Nat.le_trans h q)]
theorem Uli{α:Type}{l:List α}{b:Nat}:l.take (min b l.length)=l.take b:=by
 rcases Nat.le_total b l.length with q | q
 ·rw [Nat.min_eq_left q]
 ·rw [Nat.min_eq_right q,List.take_length,List.take_of_length_le q]
theorem Uey{α:Type}(a b:Nat)(l:List α)(h:a<=b):sliceL (some (a:Int)) (some (b:Int)) l=(l.drop a).take (b - a):=by
 show (l.drop (clipAt l.length a)).take (clipAt l.length b - clipAt l.length a)=_;rw [Ug8,Ug8,<- List.drop_take,<- List.drop_take,Uli,Umz (Nat.le_trans (Nat.le_of_eq List.length_take) (Nat.min_le_right _ _))]
theorem Uht{α:Type}(a:Nat)(l:List α):sliceL (some (a:Int)) none l=l.drop a:=by
 show (l.drop (clipAt l.length a)).take (l.length - clipAt l.length a)=_;rw [Ug8,<- List.drop_take,List.take_length,Umz (Nat.le_refl _)]
theorem Uq4{α:Type}(b:Nat)(l:List α):sliceL none (some (b:Int)) l=l.take b:=by
 show (l.drop 0).take (clipAt l.length b - 0)=_;rw [Ug8,Nat.sub_zero,List.drop_zero,Uli]
noncomputable def pickC(L:List Nat)(m i:Int):Nat:=L.getD (i.fmod m).toNat 0
section
variable {p:Params}{O O' O₁:Store}{n d:Nat}{x:Str}
theorem Unu(l:List Nat):strsOf (l.map fun c=>V.str (ch c))=some (l.map ch):=by
 induction l with
 | nil=>rfl
 | cons a r ih=>exact ob_of (f:=fun ds=>some (ch a::ds)) (z:=none) ih
theorem Unj(l:List Nat):(joinS (l.map ch)).cps.toList=l:=by
 delta joinS;skip;induction l with
 | nil=>rfl
 | cons a r ih=>simpa [ch] using ih
theorem Utc{c:CC}(l:List Nat)(hl:l.length<=1000):methodV c (.bi .join) (.str Qa) [.lst (l.map fun c=>V.str (ch c))] O=some (.str (joinS (l.map ch)),O):=by
 show ob (strsOf (l.map fun c=>V.str (ch c))) _ _=_;rw [Unu];refine if_pos ⟨?_,by rw [List.length_map];exact hl,rfl⟩;rw [List.map_map];have:∀ l:List Nat,(l.map ((·.length) ∘ ch)).sum=l.length:=fun l=>by
  induction l with
  | nil=>rfl
  | cons a r ih=>rw [List.map_cons,List.sum_cons,ih];show 1+r.length=_;simp;exact Nat.add_comm 1 _
 rw [this];delta lim
 omega
theorem Ujx(L:List Nat)(m:Nat)(hm:0 < m)(hL:L.length=m)(is:List Int)(hl:is.length < 200) :
  compK (.lst (is.map .int)) (fun x4=>bnd (bnd (look (binV .Mod x4 (.int m))) fun x5=>bnd (look (itemV (.lst (L.map fun c=>V.str (ch c))) x5)) fun x6=>ret (.ret x6)) unFl) (fun x4=>ret true) 200 0 [] O
   = some (.lst ((is.map (pickC L m)).map fun c=>V.str (ch c)),O):=by
 let f:V->Option V:=fun v=>match v with
  | .int i=>some (.str (ch (pickC L m i)))
  | _=>none
 rw [Umc f (is.map .int) (fun k w0=>Uc7 k) (fun v hv=>?_) (by rw [List.length_map];exact hl)]
 ·rw [List.filterMap_map,List.map_map];have e:(f ∘ V.int)=fun i=>some (V.str (ch (pickC L m i))):=rfl;rw [e,List.filterMap_eq_map']
  rfl
 ·refine xEAA (List.mem_map.mp hv) fun i hi qz1=>?_;subst qz1;refine .inr ⟨.str (ch (pickC L m i)),rfl,rfl,?_⟩;have h0:0<=i.fmod m:=Int.fmod_nonneg_of_pos _ (by omega);have h1:i.fmod m < m:=Int.fmod_lt_of_pos _ (by omega);have hb:look (binV .Mod (.int i) (.int m)) O=some (.int (i.fmod m),O):=by
   have e:binV .Mod (.int i) (.int m) O=some (.int (i.fmod m)):=if_pos (show (0:Int) < m by omega);delta look;rw [e]
  have hk:(i.fmod m).toNat < L.length:=hL▸(Int.toNat_lt h0).mpr h1;have hit:look (itemV (.lst (L.map fun c=>V.str (ch c))) (.int (i.fmod m))) O=some (.str (ch (pickC L m i)),O):=by
   delta look;rw [Ufo (vs:=L.map fun c=>V.str (ch c)) rfl (fun w0 e=>by cases e) h0 (v:=.str (ch (pickC L m i)))];rw [List.getElem?_map];delta pickC;rw [List.getD_eq_getElem?_getD,List.getElem?_eq_getElem hk]
   rfl
  refine ba_of hb ?_;refine ba_of hit ?_
  rfl
end
end
section
structure Grow(O O':Store):Prop where
 len:O'.length=O.length
 keep:∀ r i o,O.get r i=some o->O'.get r i=some o
section
variable {p:Params}{O O' O₁ O0:Store}{n d i:Nat}{x:Str}{Q:V->Store->Prop}{k:V->M Fl}{vs ws:List V}{v:V}{c:CC}
theorem Grow.rfl:Grow O O:=⟨Eq.refl _,fun w0 w0 w0 h=>h⟩
theorem Grow.trans{a b c:Store}(x:Grow a b)(y:Grow b c):Grow a c:=⟨y.len.trans x.len,fun r i o h=>y.keep r i o (x.keep r i o h)⟩
theorem Ufa{r:Nat}{l:List Ob}(h:O[r]?=some l):O.get r l.length=none:=by delta Store.get;rw [h];simp
theorem Uj1{a b:V}{us vs:List V}(ha:asList O a=some us)(hb:asList O b=some vs)(h1:∀ s,a≠.str s)(h2:∀ i,a≠.int i)(hl:us.length+vs.length<=lim):binV .Add a b O=some (.lst (us++vs)):=by
 have e:ob2 (asList O) a b (fun x y=>if x.length+y.length<=lim then some (.lst (x++y)) else none) none=some (V.lst (us++vs)):=(ob_of ha).trans ((ob_of hb).trans (if_pos hl));cases a with
 | str s=>exact absurd rfl (h1 s)
 | int i=>exact absurd rfl (h2 i)
 | _=>exact e
end
end
section
theorem mod_of{O:Store}{i m:Int}(h:0 < m):binV .Mod (.int i) (.int m) O=some (.int (i.fmod m)):=by
 show (if 0 < m then some (V.int (i.fmod m)) else none)=_;exact if_pos h
theorem div_of{O:Store}{i m:Int}(h:0 < m/\m.natAbs < 1000000000):binV .FloorDiv (.int i) (.int m) O=some (.int (i.fdiv m)):=by
 show (if 0 < m/\m.natAbs < 1000000000 then some (V.int (i.fdiv m)) else none)=_;exact if_pos h
theorem Usl{O:Store}{r i:Nat}{l:List Int}{k:Int}(h:O.get r i=some (.list (l.map .int))):inV O (.int k) (.ref r i)=some (l.any (·==k)) :=
 (ob_of (f:=memV (.int k)) (z:=Option.none) (asl_of h)).trans (ob_of (f:=fun l:List Int=>some (l.any (·==k))) (z:=Option.none) (Ulp l))
theorem Upo{O:Store}{n:Nat}{vs:List V}{ds:List PyData}(h:toDs O n vs=some ds):toD O (n+1) (.lst vs)=some (.list ds):=ob_of (f:=fun ds=>some (PyData.list ds)) (z:=Option.none) h
theorem Ule{O:Store}{n:Nat}{vs:List V}{ds:List PyData}(h:toDs O n vs=some ds):toD O (n+1) (.tup vs)=some (.tuple ds):=ob_of (f:=fun ds=>some (PyData.tuple ds)) (z:=Option.none) h
theorem Uls{O:Store}{n r i:Nat}{vs:List V}{ds:List PyData}(ho:O.get r i=some (.list vs))(h:toDs O n vs=some ds):toD O (n+1) (.ref r i)=some (.list ds) :=
 (ob_of (f:=fun vs=>ob (toDs O n vs) (fun ds=>some (PyData.list ds)) Option.none) (asl_of ho)).trans (ob_of h)
theorem Uaw{O:Store}{n:Nat}{v:V}{d:PyData}{r:List V}{ds:List PyData}(h:toD O n v=some d)(g:toDs O n r=some ds):toDs O n (v::r)=some (d::ds):=(ob_of h).trans (ob_of (f:=fun ds=>some (d::ds)) g)
theorem eqG_of{O:Store}{a b:V}{x y:PyData}(h:toD O 8 a=some x)(g:toD O 8 b=some y):eqG O a b=some (PyData.eqv x y):=(ob_of h).trans (ob_of g)
theorem Uj4:∀ {v:V} {d:PyData},scal v=some d->PyData.eqv d d=true
 | .none,_,e=>by cases e;simp [PyData.eqv]
 | .bool _,_,e=>by cases e;simp [PyData.eqv]
 | .int _,_,e=>by cases e;simp [PyData.eqv]
 | .str _,_,e=>by cases e;simp [PyData.eqv]
 | .tup _,_,e=>by cases e
 | .lst _,_,e=>by cases e
 | .rng _ _ _,_,e=>by cases e
 | .ref _ _,_,e=>by cases e
 | .fn _,_,e=>by cases e
 | .bi _,_,e=>by cases e
theorem Ui7{f:V->Option PyData}(h:∀ v d,f v=some d->PyData.eqv d d=true):∀ vs ds,allO f vs=some ds->PyData.eqvAll ds ds=true
 | [],_,e=>by cases e;simp [PyData.eqvAll]
 | v::r,ds,e=>obS e fun d hv e'=>obS e' fun ds' hr e''=>by
  cases e'';rw [PyData.eqvAll,h v d hv,Ui7 h r ds' hr];rfl
theorem Uis(O:Store):∀ (n:Nat) (v:V) (d:PyData),toD O n v=some d->PyData.eqv d d=true
 | 0,_,_,e=>Uj4 e
 | n+1,v,d,e=>by
  have e:ob (tupO v) (fun vs=>ob (allO (toD O n) vs) (fun ds=>some (.tuple ds)) none) (ob (asList O v) (fun vs=>ob (allO (toD O n) vs) (fun ds=>some (.list ds)) none) (scal v))=some d:=e;cases ht:tupO v with
  | some vs =>
   rw [ht] at e;exact obS e fun ds hs e'=>by cases e';rw [PyData.eqv];exact Ui7 (Uis O n) _ _ hs
  | none =>
   rw [ht] at e;have e:ob (asList O v) (fun vs=>ob (allO (toD O n) vs) (fun ds=>some (.list ds)) none) (scal v)=some d:=e;cases hl:asList O v with
   | some vs =>
    rw [hl] at e;exact obS e fun ds hs e'=>by cases e';rw [PyData.eqv];exact Ui7 (Uis O n) _ _ hs
   | none=>rw [hl] at e;exact Uj4 e
noncomputable def Pl(n:Nat)(v:V):Prop:=∀ O,∃ d,toD O n v=some d
theorem Pl.sc{v:V}{d:PyData}(ht:tupO v=none)(hl:∀ O,asList O v=none)(h:scal v=some d):∀ {n:Nat},Pl n v
 | 0=>fun w0=>⟨d,h⟩
 | _+1=>fun O=>⟨d,(ob_no ht).trans ((ob_no (hl O)).trans h)⟩
theorem Pl.none{n:Nat}:Pl n .none:=Pl.sc rfl (fun w0=>rfl) rfl
theorem Pl.bool{n:Nat}{b:Bool}:Pl n (.bool b):=Pl.sc rfl (fun w0=>rfl) rfl
theorem Pl.int{n:Nat}{b:Int}:Pl n (.int b):=Pl.sc rfl (fun w0=>rfl) rfl
theorem Pl.str{n:Nat}{b:Str}:Pl n (.str b):=Pl.sc rfl (fun w0=>rfl) rfl
theorem Ulo{n:Nat}{vs:List V}(h:∀ v ∈ vs,Pl n v)(O:Store):∃ ds,toDs O n vs=some ds:=by
 induction vs with
 | nil=>exact ⟨_,rfl⟩
 | cons v r ih =>
  refine xEA (h v List.mem_cons_self O) fun d hd=>?_;refine xEA (ih fun u m=>h u (List.mem_cons_of_mem _ m)) fun ds hds=>?_;exact ⟨d::ds,Uaw hd hds⟩
theorem Pl.tup{n:Nat}{vs:List V}(h:∀ v ∈ vs,Pl n v):Pl (n+1) (.tup vs):=fun O=>by
 refine xEA (Ulo h O) fun ds hd=>?_;exact ⟨_,Ule hd⟩
noncomputable def Ov(s:PS):Prop:=(∀ v ∈ s.out,Pl 6 v)/\∀ v ∈ s.errs,Pl 6 v
theorem pl_tok(D:PD):Pl 6 D.tok:=by
 delta PD.tok;split
 ·exact Pl.tup fun v h=>by simp at h;rcases h with rfl | rfl <;> exact Pl.str
 ·refine Pl.tup fun v h=>?_;simp at h;rcases h with rfl | rfl | rfl | rfl
  ·exact Pl.str
  ·exact Pl.str
  ·refine Pl.tup fun v h=>?_;unfold kept at h;refine xEAA (List.mem_map.mp h) fun a w0 qz1=>?_;subst qz1;exact Pl.tup fun v h=>by simp at h;rcases h with rfl | rfl <;> exact Pl.str
  ·exact Pl.bool
theorem pl_err(c:Str)(k:Int):Pl 6 (errV c k):=Pl.tup fun v h=>by simp at h;rcases h with rfl | rfl;exact Pl.str;exact Pl.int
theorem pl_ch(c:Str):Pl 6 (chV c):=Pl.tup fun v h=>by simp at h;rcases h with rfl | rfl <;> exact Pl.str
theorem pl_eof:Pl 6 eofV:=Pl.tup fun v h=>by simp at h;rw [h];exact Pl.str
theorem Uby{l:List V}{v:V}(h:∀ v ∈ l,Pl 6 v)(hv:Pl 6 v):∀ u ∈ l++[v],Pl 6 u:=fun u m=>by
 rcases List.mem_append.mp m with m | m
 ·exact h u m
 ·rw [List.mem_singleton] at m;rw [m];exact hv
section
variable {s:PS}{c:Str}{k:Nat}
theorem Up8(h:Ov s):Ov s.emitDraft:=by
 delta PS.emitDraft;cases s.draft with
 | none=>exact h
 | some D =>
  refine ⟨Uby h.1 (pl_tok D),?_⟩;dsimp only;split
  ·refine Uby ?_ (pl_err _ _);split
   ·exact Uby h.2 (pl_err _ _)
   ·exact h.2
  ·split
   ·exact Uby h.2 (pl_err _ _)
   ·exact h.2
theorem Upj(h:Ov s)(d:Deed):Ov (s.deed d c):=by
 have lst:∀ f,Ov (s.last' f):=fun f=>⟨by rw [Ub8.1];exact h.1,by rw [Ub8.2];exact h.2⟩
 have new:Ov s.newAttr:=by delta PS.newAttr;cases s.draft <;> exact h
 cases d with
 | none=>exact h
 | start=>exact h
 | end_=>exact h
 | comment=>exact h
 | lost =>
  show Ov (if (s.state==Qae)=true then _ else _:PS).eof;split
  ·exact ⟨Uby (Uby h.1 (pl_ch _)) pl_eof,h.2⟩
  ·exact ⟨Uby (Uby (Uby h.1 (pl_ch _)) (pl_ch _)) pl_eof,h.2⟩
 | lone=>exact ⟨Uby h.1 (pl_ch _),h.2⟩
 | give=>exact Up8 h
 | close =>
  have:Ov s.closeIt:=by delta PS.closeIt;cases s.draft <;> exact h
  exact Up8 this
 | put =>
  show Ov (if (s.state==Qad)=true then _ else if (s.state==Qac)=true then _ else _:PS);split
  ·delta PS.tagName;cases s.draft <;> exact h
  ·split <;> exact lst _
 | quit=>exact ⟨Uby h.1 pl_eof,h.2⟩
 | new=>exact new
 | first=>exact ⟨by show ∀ v ∈ (s.newAttr.last' _).out,_;rw [Ub8.1];exact new.1,by show ∀ v ∈ (s.newAttr.last' _).errs,_;rw [Ub8.2];exact new.2⟩
 | check =>
  show Ov s.check;delta PS.check;split
  ·exact ⟨(lst _).1,Uby (lst _).2 (pl_err _ _)⟩
  ·exact h
 | refer=>exact h
theorem ov_go(h:Ov s)(a:Act):Ov (s.goC a c):=by
 obtain ⟨err,deed,goal,again⟩:=a;have key:∀ s2:PS,Ov s2->Ov (s2.goto goal again):=by
  intro s2 h2;delta PS.goto;cases goal with
  | none=>exact h2
  | some g=>cases again <;> exact h2
 cases err with
 | none=>exact key (s.nxt.deed deed c) (Upj (s:=s.nxt) h deed)
 | some e=>exact key ((s.nxt.error e).deed deed c) (Upj (s:=s.nxt.error e) ⟨h.1,Uby h.2 (pl_err _ _)⟩ deed)
theorem ov_adv:∀ (n:Nat) (s:PS),Ov s->Ov (adv n s c)
 | 0,s,h=>h
 | n+1,s,h=>by
  rw [adv];cases ofStr s.state with
  | none=>exact h
  | some q =>
   dsimp only;split
   ·exact ov_adv n _ (ov_go h _)
   ·exact ov_go h _
noncomputable def PS.wi(s:PS)(l:List Str)(cl ir:Bool):PS:={ s with signs:=l,closed:=cl,isret:=ir }
theorem Uj6(l:List Str)(cl ir:Bool)(f:List PA->PA->PA):(s.wi l cl ir).last' f=(s.last' f).wi l cl ir:=by
 delta PS.last';show (match s.draft with | some D=>_ | none=>_)=_;cases s.draft with
 | none=>rfl
 | some D=>dsimp only;cases D.attrs.getLast? <;> rfl
theorem Upn(l:List Str)(cl ir:Bool):(s.wi l cl ir).emitDraft=s.emitDraft.wi l cl ir:=by
 obtain ⟨pos,state,back,last,out,errs,draft,done,signs,closed,isret,serr⟩:=s;cases draft <;> rfl
theorem wi_new(l:List Str)(cl ir:Bool):(s.wi l cl ir).newAttr=s.newAttr.wi l cl ir:=by
 obtain ⟨pos,state,back,last,out,errs,draft,done,signs,closed,isret,serr⟩:=s;cases draft <;> rfl
theorem Upu(l:List Str)(cl ir:Bool)(d:Deed):(s.wi l cl ir).deed d c=(s.deed d c).wi l cl ir:=by
 cases d with
 | none=>rfl
 | start=>rfl
 | end_=>rfl
 | comment=>rfl
 | lost =>
  show (if (s.state==Qae)=true then _ else _:PS).eof=(if (s.state==Qae)=true then _ else _:PS).eof.wi l cl ir;split <;> rfl
 | lone=>rfl
 | give=>exact Upn l cl ir
 | close =>
  show (s.wi l cl ir).closeIt.emitDraft=s.closeIt.emitDraft.wi l cl ir;rw [<- Upn]
  congr 1
  obtain ⟨pos,state,back,last,out,errs,draft,done,signs,closed,isret,serr⟩:=s;cases draft <;> rfl
 | put =>
  show (if (s.state==Qad)=true then _ else if (s.state==Qac)=true then _ else _:PS)=(if (s.state==Qad)=true then _ else if (s.state==Qac)=true then _ else _:PS).wi l cl ir;split
  ·obtain ⟨pos,state,back,last,out,errs,draft,done,signs,closed,isret,serr⟩:=s;cases draft <;> rfl
  ·split
   ·exact Uj6 l cl ir _
   ·exact Uj6 l cl ir _
 | quit=>rfl
 | new=>exact wi_new l cl ir
 | first =>
  show (s.wi l cl ir).newAttr.addName c=(s.newAttr.addName c).wi l cl ir;rw [wi_new];exact Uj6 l cl ir _
 | check =>
  show (s.wi l cl ir).check=s.check.wi l cl ir;delta PS.check;have e:(s.wi l cl ir).isTold=s.isTold:=rfl;rw [e];split
  ·rw [Uj6];rfl
  ·rfl
 | refer=>rfl
theorem wi_go(l:List Str)(cl ir:Bool)(a:Act):(s.wi l cl ir).goC a c=(s.goC a c).wi l cl ir:=by
 obtain ⟨err,deed,goal,again⟩:=a;have key:∀ s2:PS,(s2.wi l cl ir).goto goal again=(s2.goto goal again).wi l cl ir:=by
  intro s2;cases goal with
  | none=>rfl
  | some g=>cases again <;> rfl
 cases err with
 | none =>
  show ((s.nxt.wi l cl ir).deed deed c).goto goal again=((s.nxt.deed deed c).goto goal again).wi l cl ir;rw [Upu,key]
 | some e =>
  show (((s.nxt.error e).wi l cl ir).deed deed c).goto goal again=(((s.nxt.error e).deed deed c).goto goal again).wi l cl ir;rw [Upu,key]
theorem wi_adv(l:List Str)(cl ir:Bool):∀ (n:Nat) (s:PS),adv n (s.wi l cl ir) c=(adv n s c).wi l cl ir
 | 0,s=>rfl
 | n+1,s=>by
  rw [adv,adv,show (s.wi l cl ir).state=s.state from rfl];cases ofStr s.state with
  | none=>rfl
  | some q =>
   dsimp only;rw [wi_go];split
   ·exact wi_adv l cl ir n _
   ·rfl
theorem Up3(l:List Str)(cl ir:Bool):∀ (cs:List Str) (s:PS),cs.foldl (adv 4) (s.wi l cl ir)=(cs.foldl (adv 4) s).wi l cl ir
 | [],s=>rfl
 | c::r,s=>by rw [List.foldl_cons,List.foldl_cons,wi_adv,Up3]
end
end
section
section
variable {p:Params}{O O' O₁:Store}{n d tb j k:Nat}{s x:PS}{l:List Str}{cl ir:Bool}
theorem Sz.wi(h:Sz k s):Sz k (s.wi l cl ir):=⟨h.out,h.errs,h.dr⟩
theorem Inv.wi{c:Option Str}(h:Inv k s c):Inv k (s.wi l cl ir) c:=⟨h.pos,h.sz.wi,fun q hq=>by
 have:=h.dk q hq;revert this
 generalize need q c=x
 intro this
 match x,this with
 | 0,h=>exact h
 | 1,h=>exact h
 | x+2,h=>exact h⟩
end
end
section
theorem Ubr:∀ (r:Bool) (l:List Nat),(feedL r l).length<=l.length
 | r,[]=>Nat.le_refl 0
 | r,c::cs=>by
  have:=Ubr (c==13) cs;have h1:(if (c==13)=true then [Qbp] else if (c != 10||!r)=true then [ch c] else []).length<=1:=by
   split
   ·exact Nat.le_refl 1
   ·split
    ·exact Nat.le_refl 1
    ·exact Nat.zero_le 1
  simp only [feedL,List.length_append,List.length_cons];exact om14 this h1
section
variable {p:Params}{O O' O₁:Store}{n d tb j k sn:Nat}{s s0:PS}{cs:List Nat}{x y text:Str}{U:Rf}{Q:Fl->Store->Prop}
theorem Ue0(x y:Str):(x++y).cps.toList=x.cps.toList++y.cps.toList:=by show (x.cps++y.cps).toList=_;rw [Array.toList_append]
theorem Udz(x:Str):x.cps.toList.length=x.length:=by rfl
end
end
section
section
variable {p:Params}{O O' O₁:Store}{n d tb j k sn:Nat}{s s0:PS}{cs:List Nat}{x y text:Str}{U:Rf}{Q:Fl->Store->Prop}{A B:M Fl}
theorem len_ch{y:Str}:builtinV .len [.str y] O=some (.int y.length,O):=rfl
theorem Us9(b:Bool):cmpV .Eq (.bool b) (.bool b) O=some true:=by
 have e:eqV O (.bool b) (.bool b)=some (PyData.eqv (.bool b) (.bool b)):=rfl;rw [show PyData.eqv (.bool b) (.bool b)=true by simp [PyData.eqv]] at e;exact e
theorem Usi(b:Bool):cmpV .NotEq (.bool b) (.bool b) O=some false:=congrArg (Option.map (!·)) (Us9 (O:=O) b)
end
end
section
theorem Umr{L:List Nat}{m:Nat}(hm:0 < m)(hL:L.length=m)(i:Int):pickC L m i ∈ L:=by
 have h0:0<=i.fmod m:=Int.fmod_nonneg_of_pos _ (om3 hm hL);have h1:i.fmod m < m:=Int.fmod_lt_of_pos _ (om3 hm hL);have hk:(i.fmod m).toNat < L.length:=om53 hm hL h1;delta pickC;rw [List.getD_eq_getElem?_getD,List.getElem?_eq_getElem hk];exact List.getElem_mem hk
section
variable {p:Params}{O O' O₁:Store}{n d tb j k sn sd:Nat}{s s0 fin:PS}{cs:List Nat}{x y text:Str}{U:Rf}{Q:V->Store->Prop}{K:V->M Fl}
theorem Uik(L:List V)(m:Nat)(hm:0 < m)(hL:L.length=m)(i:Int):∃ v ∈ L,itemV (.lst L) (.int (i.fmod m)) O=some v:=by
 have h0:0<=i.fmod m:=Int.fmod_nonneg_of_pos _ (om3 hm hL);have h1:i.fmod m < m:=Int.fmod_lt_of_pos _ (om3 hm hL);have hk:(i.fmod m).toNat < L.length:=om53 hm hL h1;exact ⟨L[(i.fmod m).toNat],List.getElem_mem hk,Ufo (vs:=L) rfl (fun w0 e=>by cases e) h0 (List.getElem?_eq_getElem hk)⟩
theorem RF.nlG{r:Nat}{vs:List V}(hlen:O.length=24)(hr:r < 24)(g:∀ i O',Grow O O'->O'.get r i=some (.list vs)->RF (K (.ref r i)) O' Q):RF (bnd (newL r vs) K) O Q:=by
 refine xEA (reg_of hlen hr) fun l hl=>?_;exact RF.b (Uh0 hl) (g l.length _ ⟨Uau,fun r' i' o e=>Ubg hl e⟩ (Ua1 hl))
theorem RF.ndG{r:Nat}{es:List (Str×V)}(hlen:O.length=24)(hr:r < 24)(g:∀ i O',Grow O O'->O'.get r i=some (.dict es)->RF (K (.ref r i)) O' Q):RF (bnd (newD r es) K) O Q:=by
 refine xEA (reg_of hlen hr) fun l hl=>?_;exact RF.b (Uhp hl) (g l.length _ ⟨Uau,fun r' i' o e=>Ubg hl e⟩ (Ua1 hl))
end
end
structure Nf where
 n:Nat
 o:Nat
 e:Nat
 w:Nat
 t:Nat
noncomputable def noteEs(ν:Nf)(kd:Str)(cl:Bool)(s:PS):List (Str×V):=[(Qy,.str s.state),(Qt,.int s.pos),(Qau,.ref 17 ν.o),(Qab,.ref 18 ν.e),(Qah,.str kd),(Qz,.ref 15 ν.w),(Qdd,.ref 19 ν.t),(Qcu,.bool cl),
 (Qi,.str s.last),(Qbe,.str s.back),(Qbo,.bool s.done)]
noncomputable def flatA(as:List PA):List V:=as.flatMap fun a=>[.str a.n,.str a.v]
noncomputable def twI:Nat->List PA->List Int
 | _,[]=>[]
 | o,a::r=>(if a.k then [] else [(2*o+1:Int)])++twI (o+1) r
noncomputable def DN(kd:Str)(cl:Bool)(ws ts:List V):Option PD->Prop
 | none=>kd=""
 | some D=>kd=D.kind/\(D.kind="comment"\/((D.kind="start"\/D.kind="end")/\cl=D.closing/\ws=.str D.name::flatA D.attrs/\ts=(twI 0 D.attrs).map .int))
structure NR(O:Store)(ν:Nf)(kd:Str)(cl:Bool)(ws ts:List V)(s:PS):Prop where
 len:O.length=24
 note:O.get 16 ν.n=some (.dict (noteEs ν kd cl s))
 out:O.get 17 ν.o=some (.list s.out)
 err:O.get 18 ν.e=some (.list s.errs)
 wd:O.get 15 ν.w=some (.list ws)
 tw:O.get 19 ν.t=some (.list ts)
noncomputable def noteR(r:Nat):Bool:=r==14||r==15||r==16||r==17||r==18||r==19
noncomputable def Gx(O O':Store):Prop:=∀ r,noteR r=false->O'[r]?=O[r]?
section
variable {p:Params}{O O' O₁:Store}{n d:Nat}{Q:V->Store->Prop}{k:V->M Fl}{ν:Nf}{kd:Str}{cl:Bool}{ws ts:List V}{s:PS}{D:PD}
theorem Gx.rfl:Gx O O:=fun w0 w0=>Eq.refl _
theorem Gx.trans{a b c:Store}(x:Gx a b)(y:Gx b c):Gx a c:=fun r h=>(y r h).trans (x r h)
theorem Gx.put{r i:Nat}{o:Ob}(h:noteR r=true):Gx O (O.put r i o):=fun r' h'=>Ua9 fun e=>by subst e;rw [h] at h';cases h'
theorem Gx.add{r:Nat}{o:Ob}(h:noteR r=true):Gx O (O.add r o):=fun r' h'=>Uca fun e=>by subst e;rw [h] at h';cases h'
theorem Gx.get{r i:Nat}(x:Gx O O')(h:noteR r=false):O'.get r i=O.get r i:=by delta Store.get;rw [x r h]
theorem Ugg(h:NR O ν kd cl ws ts s):itemV (.ref 16 ν.n) (.str Qy) O=some (.str s.state):=Ubq h.note (by kernel_rfl)
theorem n_at(h:NR O ν kd cl ws ts s):itemV (.ref 16 ν.n) (.str Qt) O=some (.int s.pos):=Ubq h.note (by kernel_rfl)
theorem n_out(h:NR O ν kd cl ws ts s):itemV (.ref 16 ν.n) (.str Qau) O=some (.ref 17 ν.o):=Ubq h.note (by kernel_rfl)
theorem n_err(h:NR O ν kd cl ws ts s):itemV (.ref 16 ν.n) (.str Qab) O=some (.ref 18 ν.e):=Ubq h.note (by kernel_rfl)
theorem n_kind(h:NR O ν kd cl ws ts s):itemV (.ref 16 ν.n) (.str Qah) O=some (.str kd):=Ubq h.note (by kernel_rfl)
theorem Ua5(h:NR O ν kd cl ws ts s):itemV (.ref 16 ν.n) (.str Qz) O=some (.ref 15 ν.w):=Ubq h.note (by kernel_rfl)
theorem Upc(h:NR O ν kd cl ws ts s):itemV (.ref 16 ν.n) (.str Qdd) O=some (.ref 19 ν.t):=Ubq h.note (by kernel_rfl)
theorem Uoh(h:NR O ν kd cl ws ts s):itemV (.ref 16 ν.n) (.str Qcu) O=some (.bool cl):=Ubq h.note (by kernel_rfl)
theorem n_last(h:NR O ν kd cl ws ts s):itemV (.ref 16 ν.n) (.str Qi) O=some (.str s.last):=Ubq h.note (by kernel_rfl)
theorem n_back(h:NR O ν kd cl ws ts s):itemV (.ref 16 ν.n) (.str Qbe) O=some (.str s.back):=Ubq h.note (by kernel_rfl)
theorem n_done(h:NR O ν kd cl ws ts s):itemV (.ref 16 ν.n) (.str Qbo) O=some (.bool s.done):=Ubq h.note (by kernel_rfl)
theorem NR.setNote{kd':Str}{cl':Bool}{s':PS}(h:NR O ν kd cl ws ts s)(h1:s'.out=s.out)(h2:s'.errs=s.errs):NR (O.put 16 ν.n (.dict (noteEs ν kd' cl' s'))) ν kd' cl' ws ts s' :=
 ⟨Uah.trans h.len,Uae h.note,by rw [Uab (by decide),h1];exact h.out,by rw [Uab (by decide),h2];exact h.err,by rw [Uab (by decide)];exact h.wd,by rw [Uab (by decide)];exact h.tw⟩
theorem NR.setOut{l:List V}(h:NR O ν kd cl ws ts s):NR (O.put 17 ν.o (.list l)) ν kd cl ws ts { s with out:=l } :=
 ⟨Uah.trans h.len,by rw [Uab (by decide)];exact h.note,Uae h.out,by rw [Uab (by decide)];exact h.err,by rw [Uab (by decide)];exact h.wd,by rw [Uab (by decide)];exact h.tw⟩
theorem NR.setErr{l:List V}(h:NR O ν kd cl ws ts s):NR (O.put 18 ν.e (.list l)) ν kd cl ws ts { s with errs:=l } :=
 ⟨Uah.trans h.len,by rw [Uab (by decide)];exact h.note,by rw [Uab (by decide)];exact h.out,Uae h.err,by rw [Uab (by decide)];exact h.wd,by rw [Uab (by decide)];exact h.tw⟩
theorem NR.setWd{l:List V}(h:NR O ν kd cl ws ts s):NR (O.put 15 ν.w (.list l)) ν kd cl l ts s :=
 ⟨Uah.trans h.len,by rw [Uab (by decide)];exact h.note,by rw [Uab (by decide)];exact h.out,by rw [Uab (by decide)];exact h.err,Uae h.wd,by rw [Uab (by decide)];exact h.tw⟩
theorem NR.setTw{l:List V}(h:NR O ν kd cl ws ts s):NR (O.put 19 ν.t (.list l)) ν kd cl ws l s :=
 ⟨Uah.trans h.len,by rw [Uab (by decide)];exact h.note,by rw [Uab (by decide)];exact h.out,by rw [Uab (by decide)];exact h.err,by rw [Uab (by decide)];exact h.wd,Uae h.tw⟩
theorem NR.draft{s':PS}(h:NR O ν kd cl ws ts s)(e:s'={ s with draft:=s'.draft }):NR O ν kd cl ws ts s':=by
 rw [e];exact ⟨h.len,h.note,h.out,h.err,h.wd,h.tw⟩
theorem Up9(h:NR O ν kd cl ws ts s)(x:Str):∃ O',setItemV (.ref 16 ν.n) (.str Qah) (.str x) O=some ((),O')/\NR O' ν x cl ws ts s/\Gx O O' :=
 ⟨_,Ubz (es':=noteEs ν x cl s) h.note (by show 11 < lim;decide) (by kernel_rfl),h.setNote rfl rfl,Gx.put rfl⟩
theorem Umq(h:NR O ν kd cl ws ts s)(x:Bool):∃ O',setItemV (.ref 16 ν.n) (.str Qcu) (.bool x) O=some ((),O')/\NR O' ν kd x ws ts s/\Gx O O' :=
 ⟨_,Ubz (es':=noteEs ν kd x s) h.note (by show 11 < lim;decide) (by kernel_rfl),h.setNote rfl rfl,Gx.put rfl⟩
theorem Urw(h:NR O ν kd cl ws ts s)(x:Str):∃ O',setItemV (.ref 16 ν.n) (.str Qy) (.str x) O=some ((),O')/\NR O' ν kd cl ws ts { s with state:=x }/\Gx O O' :=
 ⟨_,Ubz (es':=noteEs ν kd cl { s with state:=x }) h.note (by show 11 < lim;decide) (by kernel_rfl),h.setNote rfl rfl,Gx.put rfl⟩
theorem sn_at(h:NR O ν kd cl ws ts s)(x:Int):∃ O',setItemV (.ref 16 ν.n) (.str Qt) (.int x) O=some ((),O')/\NR O' ν kd cl ws ts { s with pos:=x }/\Gx O O' :=
 ⟨_,Ubz (es':=noteEs ν kd cl { s with pos:=x }) h.note (by show 11 < lim;decide) (by kernel_rfl),h.setNote rfl rfl,Gx.put rfl⟩
theorem Usw(h:NR O ν kd cl ws ts s)(x:Str):∃ O',setItemV (.ref 16 ν.n) (.str Qi) (.str x) O=some ((),O')/\NR O' ν kd cl ws ts { s with last:=x }/\Gx O O' :=
 ⟨_,Ubz (es':=noteEs ν kd cl { s with last:=x }) h.note (by show 11 < lim;decide) (by kernel_rfl),h.setNote rfl rfl,Gx.put rfl⟩
theorem Uty(h:NR O ν kd cl ws ts s)(x:Str):∃ O',setItemV (.ref 16 ν.n) (.str Qbe) (.str x) O=some ((),O')/\NR O' ν kd cl ws ts { s with back:=x }/\Gx O O' :=
 ⟨_,Ubz (es':=noteEs ν kd cl { s with back:=x }) h.note (by show 11 < lim;decide) (by kernel_rfl),h.setNote rfl rfl,Gx.put rfl⟩
theorem Utq(h:NR O ν kd cl ws ts s)(x:Bool):∃ O',setItemV (.ref 16 ν.n) (.str Qbo) (.bool x) O=some ((),O')/\NR O' ν kd cl ws ts { s with done:=x }/\Gx O O' :=
 ⟨_,Ubz (es':=noteEs ν kd cl { s with done:=x }) h.note (by show 11 < lim;decide) (by kernel_rfl),h.setNote rfl rfl,Gx.put rfl⟩
theorem Uql(h:NR O ν kd cl ws ts s){w:Nat}{ws':List V}(hw:O.get 15 w=some (.list ws')):∃ O',setItemV (.ref 16 ν.n) (.str Qz) (.ref 15 w) O=some ((),O')/\NR O' { ν with w:=w } kd cl ws' ts s/\Gx O O':=by
 refine ⟨_,Ubz (es':=noteEs { ν with w:=w } kd cl s) h.note (by show 11 < lim;decide) (by kernel_rfl),?_,Gx.put rfl⟩;exact ⟨Uah.trans h.len,Uae h.note,by rw [Uab (by decide)];exact h.out,by rw [Uab (by decide)];exact h.err,by rw [Uab (by decide)];exact hw,by rw [Uab (by decide)];exact h.tw⟩
theorem Ud3(as:List PA):(flatA as).length=2*as.length:=by
 induction as with
 | nil=>rfl
 | cons a r ih=>unfold flatA at *;rw [List.flatMap_cons,List.length_append,ih];simp;exact Nat.add_comm 2 (2*_)
theorem Uix:∀ (as:List PA) (j:Nat) (a:PA),as[j]?=some a->(flatA as)[2*j]?=some (.str a.n)/\(flatA as)[2*j+1]?=some (.str a.v)
 | [],j,a,h=>by cases h
 | b::r,0,a,h=>by cases h;exact ⟨rfl,rfl⟩
 | b::r,j+1,a,h=>by
  have e:flatA (b::r)=.str b.n::.str b.v::flatA r:=rfl;rw [e,show 2*(j+1)=2*j+1+1 by omega];exact Uix r j a h
theorem Ubf(as bs:List PA):flatA (as++bs)=flatA as++flatA bs:=by delta flatA;rw [List.flatMap_append]
theorem Uaz:∀ (o:Nat) (as:List PA) (a:PA),twI o (as++[a])=twI o as++(if a.k then [] else [(2*(o+as.length:Nat)+1:Int)])
 | o,[],a=>by simp [twI]
 | o,b::r,a=>by
  rw [List.cons_append,twI,twI,Uaz (o+1) r a,List.append_assoc,List.length_cons,show o+1+r.length=o+(r.length+1) by omega]
theorem Up2:∀ (o:Nat) (as:List PA) (j:Nat) (a:PA),as[j]?=some a->(twI o as).any (·==(2*(o+j:Nat)+1:Int))=!a.k
 | o,[],j,a,h=>by cases h
 | o,b::r,0,a,h=>by
  cases h;have hlt:∀ (o':Nat) (as:List PA),o+1<=o'->(twI o' as).any (·==(2*(o+0:Nat)+1:Int))=false:=by
   intro o' as ho;induction as generalizing o' with
   | nil=>rfl
   | cons c r ih =>
    rw [twI,List.any_append,ih (o'+1) (by omega),Bool.or_false];split
    ·rfl
    ·rw [List.any_cons,List.any_nil,Bool.or_false];exact beq_eq_false_iff_ne.mpr (by omega)
  rw [twI,List.any_append,hlt (o+1) r (Nat.le_refl _),Bool.or_false];cases b.k <;> simp
 | o,b::r,j+1,a,h=>by
  rw [twI,List.any_append];have ih:=Up2 (o+1) r j a h;rw [show o+(j+1)=o+1+j by omega,ih];have:(if b.k=true then [] else [(2*(o:Int)+1)]).any (·==(2*(o+1+j:Nat)+1:Int))=false:=by
   split
   ·rfl
   ·rw [List.any_cons,List.any_nil,Bool.or_false];exact beq_eq_false_iff_ne.mpr om335
  rw [this,Bool.false_or]
noncomputable def tokS(s:PS):V:=match s.draft with
 | none=>.none
 | some D=>if D.kind=="comment" then .tup [.str "comment",.str ""] else if s.done then .none else D.tok
theorem Ur8(as:List PA):kept as=as.filterMap fun a=>if a.k then some (.tup [.str a.n,.str a.v]) else none:=by
 delta kept;induction as with
 | nil=>rfl
 | cons a r ih=>cases h:a.k <;> simp [h,ih]
theorem Uj9(as:List PA):(List.range as.length).map (fun j=>as[j]?)=as.map some:=by
 apply List.ext_getElem
 ·simp
 ·intro i h1 h2;simp at h1 h2;simp [h1]
theorem Ujs(h:NR O ν kd cl ws ts s)(hD:DN kd cl ws ts s.draft)(hl:∀ D,s.draft=some D->D.attrs.length < 190):callK (P p) (d+1) a__law_token [.ref 16 ν.n] O=some (tokS s,O):=by
 rw [Ui8]
 suffices H:RF (F__law_token p (callK (P p) d) (.ref 16 ν.n)) O fun v O'=>v=tokS s/\O'=O by
  refine xEEAAA H fun v O' e qz1 qz2=>?_;subst qz1;subst qz2;exact e
 delta F__law_token;refine RF.l (Ua5 h) (RF.l (n_kind h) (RF.b1 (RF.l (a:=[Qa,"comment"].any (·==kd)) rfl ?_)));have hend:∀ x:V,(x=if kd=="comment" then V.tup [.str "comment",.str ""] else .none)->RF (bnd (look (itemV (.ref 16 ν.n) (.str Qah))) fun x5=>bnd (look (cmpV .Eq x5 (.str Qat))) fun x6 =>
   (if x6 then ret (.ret (.tup [(.str Qat),(.str Qa)])) else ret (.ret .none))) O fun v O'=>v=x/\O'=O:=fun x hx=>by
  refine RF.l (n_kind h) (RF.eq (fun c=>?_) fun c=>?_)
  ·rw [if_pos c] at hx;subst hx;exact RF.r ⟨rfl,rfl⟩
  ·rw [if_neg (by rw [c];decide)] at hx;subst hx;exact RF.r ⟨rfl,rfl⟩
 cases hd:s.draft with
 | none =>
  rw [hd] at hD;have hD:kd="":=hD;subst hD;exact hend _ (by delta tokS;rw [hd];rfl)
 | some D =>
  have tk:tokS s=if D.kind=="comment" then .tup [.str "comment",.str ""] else if s.done then .none else D.tok:=by delta tokS;rw [hd]
  rw [hd] at hD;obtain ⟨rfl,hD⟩:=hD;rcases hD with hc | ⟨hk,rfl,hw,ht⟩
  ·have hk1:[Qa,"comment"].any (·==D.kind)=true:=by rw [hc];decide
   rw [hk1];exact hend _ (by rw [tk,hc,if_pos (by decide),if_pos (by decide)])
  ·have hk1:[Qa,"comment"].any (·==D.kind)=false:=by rcases hk with e | e <;> rw [e] <;> decide
   have hk2:(D.kind==Qat)=false:=by rcases hk with e | e <;> rw [e] <;> decide
   rw [hk2,if_neg Bool.false_ne_true] at tk;rw [hk1];show RF (bnd (look (itemV (.ref 16 ν.n) (.str Qbo))) _) O _;refine RF.l (n_done h) ?_;show RF (cond s.done _ _) O _;cases hdn:s.done with
   | true =>
    exact hend _ (by rw [tk,hdn,hk2,if_neg Bool.false_ne_true,if_pos rfl])
   | false =>
    rw [hdn,if_neg Bool.false_ne_true] at tk;rw [tk];show RF (J__law_token_0 p _ _) O _;rw [Ud5];delta J__law_token_0_T0;have hwl:ws.length=1+2*D.attrs.length:=by rw [hw,List.length_cons,Ud3];exact om18
    have hlen:=hl D hd;have hr:builtinV .range [.int 1,.int ws.length,.int 2] O=some (.rng 1 ws.length 2,O):=by
     refine bi_of ?_;show (if (1:Int).natAbs<=lim/\(ws.length:Int).natAbs<=lim/\(0:Int) < 2/\(2:Int)<=lim then some (V.rng 1 ws.length 2) else none)=_;rw [if_pos ⟨by decide,by rw [hwl];delta lim;omega,by decide,by decide⟩]
    let f:V->Option V:=fun v=>match v with
     | .int i=>match D.attrs[((i - 1) / 2).toNat]? with
      | some a=>if a.k then some (.tup [.str a.n,.str a.v]) else none
      | none=>none
     | _=>none
    have hf:∀ j:Nat,f (.int (1+(j:Int)*2))=match D.attrs[j]? with
      | some a=>if a.k then some (.tup [.str a.n,.str a.v]) else none
      | none=>none:=fun j=>by
     have e:((1+(j:Int)*2 - 1) / 2).toNat=j:=by omega
     show (match D.attrs[((1+(j:Int)*2 - 1) / 2).toNat]? with | some a=>_ | none=>_)=_;rw [e]
    let items:List V:=(List.range D.attrs.length).map fun j:Nat=>.int (1+(j:Int)*2)
    refine RF.b (len_list h.wd) (RF.b hr (RF.b (Umc f items (fun k hk=>?_) (fun v hv=>?_) (by show ((List.range _).map _).length < 200;rw [List.length_map,List.length_range];omega)) ?_))
    ·show (if (0:Int) < 2 then some (if (1:Int)+(k:Int)*2 < ws.length then some (V.int (1+(k:Int)*2)) else none) else none)=_;rw [if_pos (by decide),hwl];have hk:k<=D.attrs.length:=by simpa [items] using hk
     rw [show items[k]?=((List.range D.attrs.length).map fun j:Nat=>V.int (1+(j:Int)*2))[k]? from rfl,List.getElem?_map]
     by_cases hkk:k < D.attrs.length
     ·rw [if_pos (by omega),List.getElem?_range hkk];rfl
     ·rw [if_neg (by omega),List.getElem?_eq_none (by rw [List.length_range];exact Nat.le_of_not_lt hkk)];rfl
    ·refine xEAA (List.mem_map.mp hv) fun j hj qz1=>?_;subst qz1;have hj:j < D.attrs.length:=by simpa using hj
     have ha:D.attrs[j]?=some D.attrs[j]:=List.getElem?_eq_getElem hj;have htest:(bnd (bnd (look (itemV (.ref 16 ν.n) (.str Qdd))) fun x17=>bnd (look (cmpV .NotIn (.int (1+(j:Int)*2)) x17)) fun x18=>ret (.ret (.bool x18))) unB) O=some (D.attrs[j].k,O):=by
      have hin:cmpV .NotIn (.int (1+(j:Int)*2)) (.ref 19 ν.t) O=some D.attrs[j].k:=by
       show (inV O (.int (1+(j:Int)*2)) (.ref 19 ν.t)).map (!·)=_;have:=Up2 0 D.attrs j _ ha;rw [Usl (l:=twI 0 D.attrs) (by rw [h.tw,ht]),show (1+(j:Int)*2)=(2*(0+j:Nat)+1:Int) by omega,this];simp
      refine ba_of (a:=.ref 19 ν.t) (O₁:=O) (by delta look;rw [Upc h]) ?_;refine ba_of (a:=D.attrs[j].k) (O₁:=O) (by delta look;rw [hin]) ?_
      rfl
     refine xAA (Uix D.attrs j _ ha) fun g1 g2=>?_;have w1:itemV (.ref 15 ν.w) (.int (1+(j:Int)*2)) O=some (.str D.attrs[j].n):=by
      rw [show (1+(j:Int)*2)=((2*j+1:Nat):Int) by omega];exact item_at (Udn h.wd) ne_ref (by rw [hw];exact g1)
     have w2:itemV (.ref 15 ν.w) (.int (1+(j:Int)*2+1)) O=some (.str D.attrs[j].v):=by
      rw [show (1+(j:Int)*2+1)=((2*j+1+1:Nat):Int) by omega];exact item_at (Udn h.wd) ne_ref (by rw [hw];exact g2)
     cases hk:D.attrs[j].k with
     | false=>exact .inl ⟨by rw [hf,ha];dsimp only;rw [hk];rfl,by rw [<- hk];exact htest⟩
     | true =>
      refine .inr ⟨.tup [.str D.attrs[j].n,.str D.attrs[j].v],by rw [hf,ha];dsimp only;rw [hk];rfl,by rw [<- hk];exact htest,?_⟩;refine ba_of (a:=.str D.attrs[j].n) (O₁:=O) (by delta look;rw [w1]) ?_;refine ba_of (a:=.int (1+(j:Int)*2+1)) (O₁:=O) rfl ?_;refine ba_of (a:=.str D.attrs[j].v) (O₁:=O) (by delta look;rw [w2]) ?_
      rfl
    ·have hk3:items.filterMap f=kept D.attrs:=by
      rw [Ur8];show ((List.range D.attrs.length).map fun j:Nat=>V.int (1+(j:Int)*2)).filterMap f=_;rw [List.filterMap_map];have e1:(List.range D.attrs.length).filterMap (f ∘ fun j:Nat=>V.int (1+(j:Int)*2))=((List.range D.attrs.length).map fun j=>D.attrs[j]?).filterMap (fun o=>match o with
        | some a=>if a.k then some (V.tup [.str a.n,.str a.v]) else none
        | none=>none):=by
       rw [List.filterMap_map]
       congr 1
       funext j
       exact hf j
      rw [e1,Uj9,List.filterMap_map]
      rfl
     refine RF.l (n_kind h) (RF.l (item_at (k:=0) (Udn h.wd) ne_ref (by rw [hw];rfl)) (RF.b (a:=.tup (items.filterMap f)) (O₁:=O) rfl (RF.l (Uoh h) (RF.r ⟨?_,rfl⟩))));rw [hk3];delta PD.tok;rw [hk2,if_neg Bool.false_ne_true]
end
section
variable {p:Params}{O O' O₁:Store}{n d:Nat}{Q:V->Store->Prop}{k:V->M Fl}{ν:Nf}{kd:Str}{cl:Bool}{ws ts:List V}{s:PS}{D:PD}{A B:M Fl}
theorem RF.yes{f:Store->Option Bool}(h:f O=some true)(g:RF A O Q):RF (bnd (look f) fun b=>if b then A else B) O Q:=RF.l h (RF.pos rfl g)
theorem RF.no{f:Store->Option Bool}(h:f O=some false)(g:RF B O Q):RF (bnd (look f) fun b=>if b then A else B) O Q:=RF.l h (RF.neg Bool.false_ne_true g)
theorem idx_2{P:List V}{x y:V}:idx (-2) (P++[x,y]).length=some P.length:=by
 delta idx;rw [if_neg (by decide),if_pos (by simp;omega)];simp;exact om310
theorem idx_1{P:List V}{x y:V}:idx (-1) (P++[x,y]).length=some (P.length+1):=by
 delta idx;rw [if_neg (by decide),if_pos (by simp;omega)];simp;exact om308
theorem item_2{r i:Nat}{P:List V}{x y:V}(h:O.get r i=some (.list (P++[x,y]))):itemV (.ref r i) (.int (-2)) O=some x:=Ugp (Udn h) idx_2 (by simp)
theorem item_1{r i:Nat}{P:List V}{x y:V}(h:O.get r i=some (.list (P++[x,y]))):itemV (.ref r i) (.int (-1)) O=some y:=Ugp (Udn h) idx_1 (by simp)
theorem set_2{r i:Nat}{P:List V}{x y v:V}(h:O.get r i=some (.list (P++[x,y]))):setItemV (.ref r i) (.int (-2)) v O=some ((),O.put r i (.list (P++[v,y]))):=by
 show ob (lref O _) _ _=_;rw [Ufi h];show ob (idx (-2) (P++[x,y]).length) _ _=_;rw [idx_2];show some ((),O.put r i (.list ((P++[x,y]).set P.length v)))=_;simp
theorem set_1{r i:Nat}{P:List V}{x y v:V}(h:O.get r i=some (.list (P++[x,y]))):setItemV (.ref r i) (.int (-1)) v O=some ((),O.put r i (.list (P++[x,v]))):=by
 show ob (lref O _) _ _=_;rw [Ufi h];show ob (idx (-1) (P++[x,y]).length) _ _=_;rw [idx_1];show some ((),O.put r i (.list ((P++[x,y]).set (P.length+1) v)))=_;simp
theorem set_0{r i:Nat}{P:List V}{x v:V}(h:O.get r i=some (.list (x::P))):setItemV (.ref r i) (.int 0) v O=some ((),O.put r i (.list (v::P))):=Udk (m:=0) h (by simp)
noncomputable def lowL(c:Str):Str:=if c==Qba then "a" else if c==Qdn then "b" else if c==Qbl then "z" else c
noncomputable def lowEs:List (Str×V):=[(Qba,(.str Qbh)),(Qdn,(.str Qdw)),(Qbl,(.str Qcc))]
theorem low_lk(c:Str):(lk c lowEs).getD (.str c)=.str (lowL c):=by
 unfold lowL lowEs lk lk lk lk;rw [BEq.comm (a:=Qba),BEq.comm (a:=Qdn),BEq.comm (a:=Qbl)];split
 ·rfl
 ·split
  ·rfl
  ·split <;> rfl
noncomputable def placeEs:List (Str×V):=[(Qad,(.int 0)),(Qac,(.int (-2)))]
noncomputable def fff(c x:Str):Str:=if c==Qak then "�" else x
theorem NR.add14{o:Ob}(h:NR O ν kd cl ws ts s):NR (O.add 14 o) ν kd cl ws ts s :=
 ⟨Uau.trans h.len,by rw [Uad (by decide)];exact h.note,by rw [Uad (by decide)];exact h.out,by rw [Uad (by decide)];exact h.err,by rw [Uad (by decide)];exact h.wd,by rw [Uad (by decide)];exact h.tw⟩
theorem Umv{c:Str}{pl:Int}{w:Str}{ws':List V}(h:NR O ν kd cl ws ts s)(h1:itemV (.ref 15 ν.w) (.int pl) O=some (.str w))(h2:∀ v,v=.str (w++fff c c)->setItemV (.ref 15 ν.w) (.int pl) v O=some ((),O.put 15 ν.w (.list ws')))
  (hl:w.length+1<=lim) (hc:c.length<=1):RF (J__law_put_0 p (callK (P p) d) [(Qb,.ref 16 ν.n),(Qg,.str c),(Qr,.int pl)]) O fun v O'=>v=.none/\NR O' ν kd cl ws' ts s/\Gx O O':=by
 rw [Ufb];delta J__law_put_0_T0;refine RF.l (Ua5 h) (RF.l h1 (RF.eq (fun cc=>?_) fun cc=>?_))
 ·refine RF.l (add_str (by show w.length+1<=lim;exact Nat.succ_le_of_lt hl)) (RF.l (Ua5 h) (RF.b (h2 _ (by delta fff;rw [if_pos cc])) (RF.n ⟨rfl,h.setWd,Gx.put rfl⟩)))
 ·refine RF.l (add_str (Nat.le_trans (Nat.add_le_add_left hc _) hl)) (RF.l (Ua5 h) (RF.b (h2 _ (by delta fff;rw [if_neg (by rw [cc];decide)])) (RF.n ⟨rfl,h.setWd,Gx.put rfl⟩)))
theorem Uq1{c:Str}{x:PS}(h:NR O ν kd cl ws ts x)(hc:c.length<=1)(hcl:(lowL c).length<=1)(pl:Int)(w:Str)(ws':List V)(hp:(lk x.state placeEs).getD (.int (-1))=.int pl)
  (h1:∀ O2,NR O2 ν kd cl ws ts x->itemV (.ref 15 ν.w) (.int pl) O2=some (.str w)) (hl:w.length+1<=lim)
  (h2:∀ O2,NR O2 ν kd cl ws ts x->∀ v,v=.str (w++(if pl != -1 then fff (lowL c) (lowL c) else fff c c))->setItemV (.ref 15 ν.w) (.int pl) v O2=some ((),O2.put 15 ν.w (.list ws'))) :
  Run (callK (P p) (d+1) a__law_put [.ref 16 ν.n,.str c]) O fun v O'=>v=.none/\NR O' ν kd cl ws' ts x/\Gx O O':=by
 rw [Umu];show RF _ O _;delta F__law_put;refine RF.nd h.len (by decide) fun i hi w0 w0=>RF.getm hi (RF.l (Ugg h.add14) (RF.b (get_of (w:=.int pl) hi hp) ?_));have h':=h.add14 (o:=.dict placeEs);refine RF.l (a:=pl != -1) rfl ?_;cases hpl:pl != -1 with
 | false =>
  refine RF.neg Bool.false_ne_true ((Umv (p:=p) (d:=d) h' (h1 _ h') (fun v hv=>h2 _ h' v (by rw [hpl];exact hv)) hl hc).mono fun v s2 qq=>xAAA qq fun e g1 g2=>⟨e,g1,(Gx.add rfl).trans g2⟩)
 | true =>
  refine RF.pos rfl (RF.nd h'.len (by decide) fun i hi w0 w0=>RF.getm hi (RF.b (get_of (w:=.str (lowL c)) hi (low_lk c)) ?_));have h'':=h'.add14 (o:=.dict lowEs);refine ((Umv (p:=p) (d:=d) h'' (h1 _ h'') (fun v hv=>h2 _ h'' v (by rw [hpl];exact hv)) hl hcl).mono fun v s2 qq=>xAAA qq fun e g1 g2=>⟨e,g1,(Gx.add rfl).trans ((Gx.add rfl).trans g2)⟩)
end
noncomputable def PS.b1(s:PS):PS:={ s with pos:=s.pos - 1 }
section
variable {p:Params}{O O' O₁:Store}{n d:Nat}{Q:V->Store->Prop}{k:V->M Fl}{ν:Nf}{kd:Str}{cl:Bool}{ws ts:List V}{s x:PS}{D:PD}{A B:M Fl}
theorem NR.err'{e:V}(h:NR O ν kd cl ws ts x)(hl:x.errs.length < lim){c:CC}:∃ O',methodV c (.bi .append) (.ref 18 ν.e) [e] O=some (.none,O')/\NR O' ν kd cl ws ts { x with errs:=x.errs++[e] }/\Gx O O' :=
 ⟨_,Uag h.err hl,h.setErr,Gx.put rfl⟩
theorem NR.out'{e:V}(h:NR O ν kd cl ws ts x)(hl:x.out.length < lim){c:CC}:∃ O',methodV c (.bi .append) (.ref 17 ν.o) [e] O=some (.none,O')/\NR O' ν kd cl ws ts { x with out:=x.out++[e] }/\Gx O O' :=
 ⟨_,Uag h.out hl,h.setOut,Gx.put rfl⟩
noncomputable abbrev Gave(ν:Nf)(cl:Bool)(ws ts:List V)(O:Store)(x:PS):V->Store->Prop:=fun v O'=>v=.none/\NR O' ν "" cl ws ts x/\Gx O O'
theorem Umi{tok:V}(h:NR O ν kd cl ws ts x)(hl:x.out.length < lim):RF (J__law_give_2 p (callK (P p) d) [(Qb,.ref 16 ν.n),(Qal,tok)]) O (Gave ν cl ws ts O { x with out:=x.out++[tok] }):=by
 rw [Uen];delta J__law_give_2_T0;refine xEAAA (h.out' (e:=tok) hl (c:=callK (P p) d)) fun O1 e1 h1 f1=>?_;refine xEAAA (Up9 h1 "") fun O2 e2 h2 f2=>?_;exact RF.l (n_out h) (RF.app h.out (RF.b e1 (RF.b e2 (RF.n ⟨rfl,h2,f1.trans f2⟩))))
theorem Ub6{vs:List V}{j:Nat}{v:V}(h:vs[j]?=some v):itemV (.tup vs) (.int j) O=some v:=item_at (vs:=vs) rfl (fun w0 e=>by cases e) h
theorem Ugo{kind name:Str}{r:List V}(h:NR O ν kd cl ws ts x)(hl:x.out.length < lim):RF (J__law_give_1 p (callK (P p) d) [(Qb,.ref 16 ν.n),(Qal,.tup (.str kind::.str name::r))]) O
  (Gave ν cl ws ts O { x with last:=if kind=="start" then name else x.last,out:=x.out++[.tup (.str kind::.str name::r)] }):=by
 rw [Uek];delta J__law_give_1_T0;refine RF.l (Ub6 (j:=0) rfl) (RF.eq (fun c=>?_) fun c=>?_)
 ·refine xEAAA (Usw h name) fun O1 e1 h1 f1=>?_;refine RF.l (Ub6 (j:=1) rfl) (RF.b e1 ((Umi h1 hl).mono fun v s2 qq=>xAAA qq fun e g1 g2=>⟨e,?_,f1.trans g2⟩));rw [if_pos c];exact g1
 ·refine (Umi h hl).mono fun v s2 qq=>xAAA qq fun e g1 g2=>⟨e,?_,g2⟩
  rw [if_neg (by rw [c];decide)];exact g1
theorem Uih{kind name:Str}{y:V}{b:Bool}(h:NR O ν kd cl ws ts x)(hl:x.out.length < lim)(he:x.errs.length < lim):RF (J__law_give_0 p (callK (P p) d) [(Qb,.ref 16 ν.n),(Qal,.tup [.str kind,.str name,y,.bool b])]) O
  (Gave ν cl ws ts O { x with errs:=if kind=="end"&&b then x.errs++[errV "end-tag-with-trailing-solidus" x.pos] else x.errs,last:=if kind=="start" then name else x.last,out:=x.out++[.tup [.str kind,.str name,y,.bool b]] }):=by
 rw [Uep];delta J__law_give_0_T0;refine RF.l (Ub6 (j:=0) rfl) (RF.l (a:=kind==Qar) rfl ?_);cases hk:kind==Qar with
 | false=>exact Ugo h hl
 | true =>
  refine RF.ct (RF.l (Ub6 (j:=3) rfl) ?_);show RF (cond b _ _) O _;cases b with
  | false=>exact Ugo h hl
  | true =>
   refine xEAAA (h.err' (e:=errV "end-tag-with-trailing-solidus" x.pos) he (c:=callK (P p) d)) fun O1 e1 h1 f1=>?_;exact RF.ct (RF.l (n_err h) (RF.app h.err (RF.l (n_at h) (RF.b e1 ((Ugo h1 hl).mono fun v s2 qq=>xAAA qq fun e g1 g2=>⟨e,g1,f1.trans g2⟩)))))
theorem Uou(h:NR O ν kd cl ws ts s.b1)(hd:s.draft=some D)(hk:D.kind="start"\/D.kind="end")(hD:DN kd cl ws ts s.draft)(hdn:s.done=false)(hl:D.attrs.length < 190)(ho:s.out.length < lim)(he:s.errs.length+1 < lim) :
  Run (callK (P p) (d+2) a__law_give [.ref 16 ν.n]) O (Gave ν cl ws ts O s.emitDraft.b1):=by
 have hk2:(D.kind==Qat)=false:=by rcases hk with e | e <;> rw [e] <;> decide
 have htok:D.tok=.tup [.str D.kind,.str D.name,.tup (kept D.attrs),.bool D.closing]:=by delta PD.tok;rw [hk2,if_neg Bool.false_ne_true]
 have htk:tokS s.b1=.tup [.str D.kind,.str D.name,.tup (kept D.attrs),.bool D.closing]:=by
  rw [<- htok];show (match s.draft with | none=>V.none | some D=>if D.kind=="comment" then .tup [.str "comment",.str ""] else if s.done then .none else D.tok)=_;rw [hd];dsimp only;rw [hk2,hdn,if_neg Bool.false_ne_true,if_neg Bool.false_ne_true]
 have hw:ws=.str D.name::flatA D.attrs:=by
  rw [hd] at hD;refine xAA hD fun w0 hD=>?_;rcases hD with e | ⟨-,-,hw,-⟩
  ·rw [e] at hk2;exact absurd hk2 (by decide)
  ·exact hw
 have hwl:ws.length=1+2*D.attrs.length:=by rw [hw,List.length_cons,Ud3];exact om18
 have het:s.emitDraft.b1={ s.b1 with errs:=(if D.kind=="end"&&D.closing then (if D.kind=="end"&&decide (0 < D.attrs.length) then s.errs++[errV "end-tag-with-attributes" (s.pos - 1)] else s.errs)++[errV "end-tag-with-trailing-solidus" (s.pos - 1)] else (if D.kind=="end"&&decide (0 < D.attrs.length) then s.errs++[errV "end-tag-with-attributes" (s.pos - 1)] else s.errs)),draft:=none,last:=if D.kind=="start" then D.name else s.last,out:=s.out++[.tup [.str D.kind,.str D.name,.tup (kept D.attrs),.bool D.closing]] }:=by
  delta PS.emitDraft PS.b1;rw [hd];dsimp only;rw [htok]
 rw [het,Uk6];show RF _ O _;delta F__law_give;refine RF.b (Ujs h hD (fun D' e=>by rw [show s.draft=some D' from e] at hd;cases hd;exact hl)) ?_;rw [htk];refine RF.l (Ub6 (j:=0) rfl) (RF.l (a:=D.kind==Qar) rfl ?_);have dn:∀ {O2:Store} {y:PS},NR O2 ν "" cl ws ts y->NR O2 ν "" cl ws ts { y with draft:=none }:=fun g=>g.draft rfl;cases hke:D.kind==Qar with
 | false =>
  refine RF.cf ((Uih (p:=p) (d:=d+1) (name:=D.name) (kind:=D.kind) (y:=.tup (kept D.attrs)) (b:=D.closing) h ho (by show s.errs.length < lim;exact om5 he)).mono fun v s2 qq=>xAAA qq fun e g1 g2=>⟨e,?_,g2⟩);rw [hke] at g1;exact dn g1
 | true =>
  refine RF.ct (RF.l (Ua5 h) (RF.b (len_list h.wd) (RF.l (a:=decide ((1:Int) < ws.length)) rfl ?_)))
  by_cases hn:0 < D.attrs.length
  ·rw [decide_eq_true (by rw [hwl];exact Int.ofNat_lt.mpr (Nat.lt_add_of_pos_right (Nat.mul_pos (by decide) hn)):(1:Int) < ws.length)];refine xEAAA (h.err' (e:=errV "end-tag-with-attributes" (s.pos - 1)) (by show s.errs.length < lim;exact om5 he) (c:=callK (P p) (d+1))) fun O1 e1 h1 f1=>?_;refine RF.ct (RF.l (n_err h) (RF.app h.err (RF.l (n_at h) (RF.b e1 ((Uih (p:=p) (d:=d+1) (name:=D.name) (kind:=D.kind) (y:=.tup (kept D.attrs)) (b:=D.closing) h1 ho (by show (s.errs++[_]).length < lim;simp;exact om42 he)).mono fun v s2 qq=>xAAA qq fun e g1 g2=>⟨e,?_,f1.trans g2⟩)))));rw [hke] at g1;rw [decide_eq_true hn];exact dn g1
  ·rw [decide_eq_false (by rw [hwl];exact om328 hl hn:¬ (1:Int) < ws.length)];refine RF.cf ((Uih (p:=p) (d:=d+1) (name:=D.name) (kind:=D.kind) (y:=.tup (kept D.attrs)) (b:=D.closing) h ho (by show s.errs.length < lim;exact om5 he)).mono fun v s2 qq=>xAAA qq fun e g1 g2=>⟨e,?_,g2⟩);rw [hke] at g1;rw [decide_eq_false hn];exact dn g1
end
section
variable {p:Params}{O O' O₁:Store}{n d:Nat}{Q:V->Store->Prop}{k:V->M Fl}{ν:Nf}{kd:Str}{cl:Bool}{ws ts:List V}{s x:PS}{D:PD}{A B:M Fl}{init:List PA}{a:PA}
theorem Ui2{α β:Type}{f g:α->Option β}:∀ {l:List α},(∀ a ∈ l,f a=g a)->l.filterMap f=l.filterMap g
 | [],_=>rfl
 | a::r,h=>by rw [List.filterMap_cons,List.filterMap_cons,h a List.mem_cons_self,Ui2 fun b m=>h b (List.mem_cons_of_mem _ m)]
theorem Ukv(init:List PA):(List.range init.length).filterMap (fun k=>(flatA init)[2*k]?)=init.map fun a=>V.str a.n:=by
 have e:(List.range init.length).filterMap (fun k=>(flatA init)[2*k]?)=((List.range init.length).map fun j=>init[j]?).filterMap fun o=>o.map fun a=>V.str a.n:=by
  rw [List.filterMap_map];apply Ui2;intro j hj;have hj:j < init.length:=by simpa using hj
  have ha:=List.getElem?_eq_getElem hj;rw [(Uix init j _ ha).1];simp [ha]
 rw [e,Uj9,List.filterMap_map];simp [Function.comp_def]
theorem Ump(h:V)(init:List PA)(x y:V):stepL (some 1) (some (-2)) 2 ((h::flatA init)++[x,y])=init.map fun a=>V.str a.n:=by
 have hn:((h::flatA init)++[x,y]).length=2*init.length+3:=by simp [Ud3]
 have hb:sliceBounds (some 1) (some (-2)) (some 2) (2*init.length+3)=(1,(2*init.length+1:Int),2):=by
  delta sliceBounds;skip;refine Prod.ext ?_ (Prod.ext ?_ rfl)
  ·simp;omega
  ·simp;omega
 have hr:sliceRange 1 (2*init.length+1:Int) 2=(List.range init.length).map fun k=>1+2*k:=by
  delta sliceRange;simp only [show ((2:Int) > 0)=True from eq_true (by decide),if_true];have hc:(if (1:Int) < 2*(init.length:Int)+1 then (2*(init.length:Int)+1 - 1+2 - 1) / 2 else 0).toNat=init.length:=by
   split <;> omega
  rw [hc];apply List.map_congr_left;intro k _
  omega
 delta stepL;rw [hn,hb];skip;rw [hr,List.filterMap_map,<- Ukv init];apply Ui2;intro k hk;have hk:k < init.length:=by simpa using hk
 show ((h::flatA init)++[x,y])[1+2*k]?=_;rw [List.getElem?_append_left (by simp [Ud3];omega),show 1+2*k=2*k+1 by omega]
 rfl
theorem Ujk(l:List PA):strsOf (l.map fun a=>V.str a.n)=some (l.map (·.n)):=by
 induction l with
 | nil=>rfl
 | cons a r ih=>exact ob_of (f:=fun ds=>some (a.n::ds)) (z:=none) ih
noncomputable def KA(as:List PA):Prop:=∀ (pre:List PA) (b:PA) (post:List PA),as=pre++b::post->b.k=false->∃ b' ∈ pre,b'.k=true/\b'.n=b.n
theorem KA.told(h:KA init)(a:PA):(init.any fun b=>b.n==a.n)=toldP init a:=by
 delta toldP;rw [Bool.eq_iff_iff,List.any_eq_true,List.any_eq_true];constructor
 ·rintro ⟨b,hb,e⟩
  cases hk:b.k with
  | true=>exact ⟨b,hb,by rw [hk,e];rfl⟩
  | false =>
   refine xEEA (List.append_of_mem hb) fun pre post hp=>?_;refine xEAAA (h pre b post hp hk) fun b' hb' hk' hn'=>?_;exact ⟨b',by rw [hp];exact List.mem_append_left _ hb',by rw [hk',hn',e];rfl⟩
 ·rintro ⟨b,hb,e⟩
  rw [Bool.and_eq_true] at e;exact ⟨b,hb,e.2⟩
noncomputable def Deed.str:Deed->Str
 | .none=>"" | .start=>"start" | .end_=>"end" | .comment=>"comment" | .lost=>"lost" | .lone=>"lone" | .give=>"give" | .close=>"close" | .put=>"put" | .quit=>"quit" | .new=>"new" | .first=>"first" | .check=>"check" | .refer=>"refer"
noncomputable def fresh(s:PS):Prop:=s.state="tag open"\/s.state="end tag open"
noncomputable def NS(O:Store)(n:Nat)(s:PS):Prop:=∃ ν kd cl ws ts,ν.n=n/\NR O ν kd cl ws ts s/\DN kd cl ws ts s.draft/\(s.draft=none->fresh s->ts=[]/\cl=false)
theorem Urd{dd:Str}{c w:V}(h:NR O ν kd cl ws ts s.b1)(hq:[Qbt,"quit"].any (·==dd)=false) :
  RF (J__law_deed_0 p (callK (P p) d) [(Qb,.ref 16 ν.n),(Qao,.str dd),(Qg,c),(Qz,w)]) O fun v O'=>v=.none/\NR O' ν kd cl ws ts s.b1/\Gx O O':=by
 rw [Ucc];delta J__law_deed_0_T0;exact RF.b1 (RF.no (by show some ([Qbt,"quit"].any (·==dd))=_;rw [hq]) (RF.n ⟨rfl,h,Gx.rfl⟩))
theorem Uof{dd:Str}{c w:V}(h:NR O ν kd cl ws ts s.b1)(hq:[Qbt,"quit"].any (·==dd)=true)(ho:s.out.length < lim) :
  RF (J__law_deed_0 p (callK (P p) d) [(Qb,.ref 16 ν.n),(Qao,.str dd),(Qg,c),(Qz,w)]) O fun v O'=>v=.none/\NR O' ν kd cl ws ts s.eof.b1/\Gx O O':=by
 rw [Ucc];delta J__law_deed_0_T0;refine xEAAA (h.out' (e:=eofV) ho (c:=callK (P p) d)) fun O1 e1 h1 f1=>?_;refine xEAAA (Utq h1 true) fun O2 e2 h2 f2=>?_;exact RF.b1 (RF.yes (by show some ([Qbt,"quit"].any (·==dd))=_;rw [hq]) (RF.l (n_out h) (RF.app h.out (RF.b e1 (RF.b e2 (RF.n ⟨rfl,h2,f1.trans f2⟩))))))
end
noncomputable def codes3:List Nat:=[0,9,10,12,32,33,34,38,39,47,60,61,62,63,64,65,66,90,91,96,97,98,99,122,123,8490]
noncomputable def alph3:List Str:=""::codes3.map ch
theorem Uo7:alph3.all (fun c=>Nat.ble c.length 1&&Nat.ble (lowL c).length 1&&(fff (lowL c) (lowL c)==(if c==Qak then Qbs else lowerS c)))=true:=by kernel_rfl
noncomputable def DPre(dd:Deed)(s:PS):Prop:=match dd with
 | .start | .end_ | .comment=>s.draft=Option.none/\fresh s
 | .lone=>s.state="tag open"
 | .lost=>fresh s
 | .give | .close=>∃ D,s.draft=some D/\(D.kind="start"\/D.kind="end")/\D.closing=false/\D.attrs.length < 190/\¬ fresh s
 | .put=>∃ D,s.draft=some D/\(D.kind="start"\/D.kind="end")/\D.name.length+1<=lim/\(s.state≠"tag name"->∃ init a,D.attrs=init++[a]/\a.n.length+1<=lim/\a.v.length+1<=lim)
 | .new | .first=>∃ D,s.draft=some D/\(D.kind="start"\/D.kind="end")/\D.attrs.length < 1000
 | .check=>∃ D init a,s.draft=some D/\(D.kind="start"\/D.kind="end")/\D.attrs=init++[a]/\a.k=true/\KA init/\init.length < 1000
 | _=>True
section
variable {p:Params}{O O' O₁:Store}{n d:Nat}{Q:V->Store->Prop}{k:V->M Fl}{ν:Nf}{kd:Str}{cl:Bool}{ws ts:List V}{s x:PS}{D:PD}{A B:M Fl}{init:List PA}{a:PA}{c:Str}
theorem Ur5(hc:c ∈ alph3):c.length<=1/\(lowL c).length<=1/\fff (lowL c) (lowL c)=(if c==Qak then Qbs else lowerS c):=by
 have:=List.all_eq_true.mp Uo7 c hc;rw [Bool.and_eq_true,Bool.and_eq_true] at this;exact ⟨Nat.le_of_ble_eq_true this.1.1,Nat.le_of_ble_eq_true this.1.2,eq_of_beq this.2⟩
theorem DN.words(h:DN kd cl ws ts (some D))(hk:D.kind="start"\/D.kind="end"):kd=D.kind/\cl=D.closing/\ws=.str D.name::flatA D.attrs/\ts=(twI 0 D.attrs).map .int:=by
 refine xAA h fun h1 h2=>?_;rcases h2 with e | ⟨-,h2⟩
 ·rw [e] at hk;rcases hk with hk | hk <;> exact absurd hk (by decide)
 ·exact ⟨h1,h2⟩
theorem DN.of(hk:D.kind="start"\/D.kind="end")(h1:kd=D.kind)(h2:cl=D.closing)(h3:ws=.str D.name::flatA D.attrs)(h4:ts=(twI 0 D.attrs).map .int):DN kd cl ws ts (some D):=⟨h1,.inr ⟨hk,h2,h3,h4⟩⟩
theorem Udj{dd:Str}{w cv:V}{s':PS}(h:NR O ν kd cl ws ts s'.b1)(g:Gx O₁ O)(hn:ν.n=n)(hD:DN kd cl ws ts s'.draft)(hf:s'.draft=none->fresh s'->ts=[]/\cl=false)(hq:[Qbt,"quit"].any (·==dd)=false) :
  RF (J__law_deed_0 p (callK (P p) d) [(Qb,.ref 16 n),(Qao,.str dd),(Qg,cv),(Qz,w)]) O fun v O'=>v=.none/\NS O' n s'.b1/\Gx O₁ O':=by
 subst hn;exact (Urd (s:=s') h hq).mono fun v s2 qq=>xAAA qq fun e g1 g2=>⟨e,⟨ν,kd,cl,ws,ts,rfl,g1,hD,hf⟩,g.trans g2⟩
theorem Ug5{dd:Str}{w cv:V}{s':PS}(h:NR O ν kd cl ws ts s'.b1)(g:Gx O₁ O)(hn:ν.n=n)(hD:DN kd cl ws ts s'.draft)(hf:s'.draft=none->fresh s'->ts=[]/\cl=false)(hq:[Qbt,"quit"].any (·==dd)=true)(ho:s'.out.length < lim) :
  RF (J__law_deed_0 p (callK (P p) d) [(Qb,.ref 16 n),(Qao,.str dd),(Qg,cv),(Qz,w)]) O fun v O'=>v=.none/\NS O' n s'.eof.b1/\Gx O₁ O':=by
 subst hn;exact (Uof (s:=s') h hq ho).mono fun v s2 qq=>xAAA qq fun e g1 g2=>⟨e,⟨ν,kd,cl,ws,ts,rfl,g1,hD,hf⟩,g.trans g2⟩
theorem Ue6(kind:Str)(hkd:kind="start"\/kind="end"\/kind="comment")(h:NS O n s.b1)(hp:s.draft=none/\fresh s):Run (callK (P p) (d+4) a__law_deed [.ref 16 n,.str kind,.str c]) O fun v O'=>v=.none/\NS O' n (s.begin kind).b1/\Gx O O':=by
 refine xEEEEEAAAA h fun ν kd cl ws ts qz1 h hD hf=>?_;subst qz1;refine xAA (hf hp.1 hp.2) fun qz1 qz2=>?_;subst qz1;subst qz2;rw [Uao];show RF _ O _;delta F__law_deed;refine RF.l (Ua5 h) (RF.b1 (RF.yes (by show some ([Qcn,"end","comment"].any (·==kind))=_;rcases hkd with rfl | rfl | rfl <;> rfl) ?_));refine RF.nl h.len (by decide) fun i hi hold=>?_;have h1:NR (O.add 15 (.list [.str Qa])) ν kd false ws [] s.b1:=⟨Uau.trans h.len,hold _ _ _ h.note,hold _ _ _ h.out,hold _ _ _ h.err,hold _ _ _ h.wd,hold _ _ _ h.tw⟩
 refine xEAAA (Up9 h1 kind) fun O2 e2 h2 g2=>?_;have hi2:O2.get 15 i=some (.list [.str Qa]):=by
  have:setItemV (.ref 16 ν.n) (.str Qah) (.str kind) (O.add 15 (.list [.str Qa]))=some ((),(O.add 15 (.list [.str Qa])).put 16 ν.n (.dict (noteEs ν kind false s.b1))):=Ubz (es':=noteEs ν kind false s.b1) h1.note (by show 11 < lim;decide) (by kernel_rfl);rw [e2] at this;have e3:O2=(O.add 15 (.list [.str Qa])).put 16 ν.n (.dict (noteEs ν kind false s.b1)):=by injection this with this;injection this
  rw [e3,Uab (by decide)];exact hi
 refine xEAAA (Uql h2 hi2) fun O3 e3 h3 g3=>?_;refine RF.b e2 (RF.b e3 (Udj (ν:={ ν with w:=i }) (kd:=kind) (cl:=false) (ws:=[.str Qa]) (ts:=[]) (s':=s.begin kind) (h3.draft rfl) ((Gx.add rfl).trans (g2.trans g3)) rfl ?_ (fun e=>by cases e) (by rcases hkd with rfl | rfl | rfl <;> rfl)));refine ⟨rfl,?_⟩;rcases hkd with e | e | e
 ·exact .inr ⟨.inl e,rfl,rfl,rfl⟩
 ·exact .inr ⟨.inr e,rfl,rfl,rfl⟩
 ·exact .inl e
theorem Uj2(b:Bool)(h:NS O n s.b1)(hp:DPre .give s)(hdn:s.done=false)(ho:s.out.length < lim)(he:s.errs.length+1 < lim) :
  Run (callK (P p) (d+4) a__law_deed [.ref 16 n,.str (if b then "close" else "give"),.str c]) O fun v O'=>v=.none/\NS O' n ((if b then s.closeIt else s).emitDraft).b1/\Gx O O':=by
 refine xEEEEEAAAA h fun ν kd cl ws ts qz1 h hD hf=>?_;subst qz1;refine xEAAAAA hp fun D hd hk hcl hl hnf=>?_;have hD:DN kd cl ws ts s.draft:=hD;rw [hd] at hD;refine xAAAA (hD.words hk) fun qz1 qz2 hw ht=>?_;subst qz1;subst qz2;rw [Uao];show RF _ O _;delta F__law_deed;refine xEAAA (Umq h b) fun O2 e2 h2 g2=>?_;have fin:RF (bnd (setItemV (.ref 16 ν.n) (.str Qcu) (.bool b)) fun w0=>bnd (callK (P p) (d+3) a__law_give [.ref 16 ν.n]) fun x31=>J__law_deed_0 p (callK (P p) (d+3)) [(Qb,.ref 16 ν.n),(Qao,.str (if b then "close" else "give")),(Qg,.str c),(Qz,.ref 15 ν.w)]) O
   fun v O'=>v=.none/\NS O' ν.n ((if b then s.closeIt else s).emitDraft).b1/\Gx O O':=by
  have hcd:(if b then s.closeIt else s).draft=some { D with closing:=b }:=by
   cases b
   ·show s.draft=_;rw [hd,<- hcl]
   ·show s.closeIt.draft=_;delta PS.closeIt;rw [hd];rfl
  have hsame:(if b then s.closeIt else s)={ s with draft:=(if b then s.closeIt else s).draft }:=by
   cases b
   ·rfl
   ·show s.closeIt=_;delta PS.closeIt;rw [hd];rfl
  have hstate:(if b then s.closeIt else s).state=s.state:=by rw [hsame]
  have hdone:(if b then s.closeIt else s).done=false:=by rw [hsame];exact hdn
  have hout:(if b then s.closeIt else s).out=s.out:=by rw [hsame]
  have herr:(if b then s.closeIt else s).errs=s.errs:=by rw [hsame]
  have hb1:NR O2 ν D.kind b ws ts (if b then s.closeIt else s).b1:=by
   rw [hsame];exact h2.draft rfl
  refine RF.b e2 (RF.c (Uou (p:=p) (d:=d+1) (D:={ D with closing:=b }) hb1 hcd hk (by rw [hcd];exact DN.of hk rfl rfl hw ht) hdone hl (by rw [hout];exact ho) (by rw [herr];exact he)) fun v O3 qq=>xAAA qq fun ev h3 g3=>?_);refine Udj (s':=(if b then s.closeIt else s).emitDraft) h3 (g2.trans g3) rfl ?_ (fun w0 hff=>absurd ?_ hnf) (by cases b <;> rfl)
  ·delta PS.emitDraft;rw [hcd];rfl
  ·have:=(Udv (s:=if b then s.closeIt else s)).1.state;unfold fresh at hff ⊢;rw [this,hstate] at hff;exact hff
 cases b with
 | false =>
  exact RF.l (Ua5 h) (RF.b1 (RF.no (by kernel_rfl) (RF.no (by kernel_rfl) (RF.b1 (RF.no (by kernel_rfl) (RF.no (by kernel_rfl) (RF.b1 (RF.yes (by kernel_rfl) (RF.l (a:=false) (by kernel_rfl) fin)))))))))
 | true =>
  exact RF.l (Ua5 h) (RF.b1 (RF.no (by kernel_rfl) (RF.no (by kernel_rfl) (RF.b1 (RF.no (by kernel_rfl) (RF.no (by kernel_rfl) (RF.b1 (RF.yes (by kernel_rfl) (RF.l (a:=true) (by kernel_rfl) fin)))))))))
end
section
variable {p:Params}{O O' O₁:Store}{n d:Nat}{Q:V->Store->Prop}{k:V->M Fl}{ν:Nf}{kd:Str}{cl:Bool}{ws ts:List V}{s x:PS}{D:PD}{A B:M Fl}{init:List PA}{a:PA}{c:Str}
noncomputable abbrev Done(O:Store)(n:Nat)(s':PS):V->Store->Prop:=fun v O'=>v=.none/\NS O' n s'.b1/\Gx O O'
theorem Uqe(h:NS O n s.b1)(hp:DPre .put s)(hc:c ∈ alph3):Run (callK (P p) (d+4) a__law_deed [.ref 16 n,.str "put",.str c]) O (Done O n (s.deed .put c)):=by
 refine xEEEEEAAAA h fun ν kd cl ws ts qz1 h hD hf=>?_;subst qz1;refine xEAAAA hp fun D hd hk hnl hx=>?_;have hD:DN kd cl ws ts s.draft:=hD;rw [hd] at hD;refine xAAAA (hD.words hk) fun qz1 qz2 hw ht=>?_;subst qz1;subst qz2;refine xAAA (Ur5 hc) fun c1 c2 c3=>?_;rw [Uao];show RF _ O _;delta F__law_deed;refine RF.l (Ua5 h) (RF.b1 (RF.no (by kernel_rfl) (RF.yes (by kernel_rfl) ?_)));have goes:∀ (pl:Int) (w:Str) (ws':List V) (D':PD),(lk s.state placeEs).getD (.int (-1))=.int pl->w.length+1<=lim->s.deed .put c=s.setDraft D'->D'.kind=D.kind->D'.closing=D.closing->ws'=.str D'.name::flatA D'.attrs->twI 0 D'.attrs=twI 0 D.attrs ->
   (∀ O2,NR O2 ν D.kind D.closing ws ts s.b1->itemV (.ref 15 ν.w) (.int pl) O2=some (.str w)) ->
   (∀ O2,NR O2 ν D.kind D.closing ws ts s.b1->∀ v,v=.str (w++(if pl != -1 then fff (lowL c) (lowL c) else fff c c))->setItemV (.ref 15 ν.w) (.int pl) v O2=some ((),O2.put 15 ν.w (.list ws'))) ->
   RF (bnd (callK (P p) (d+3) a__law_put [.ref 16 ν.n,.str c]) fun x6=>J__law_deed_0 p (callK (P p) (d+3)) [(Qb,.ref 16 ν.n),(Qao,.str "put"),(Qg,.str c),(Qz,.ref 15 ν.w)]) O (Done O ν.n (s.deed .put c)):=by
  intro pl w ws' D' h1 h2 h3 h4 h5 h6 h7 h8 h9;refine RF.c (Uq1 (p:=p) (d:=d+2) h c1 c2 pl w ws' h1 h8 h2 h9) fun v O2 qq=>xAAA qq fun ev g1 g2=>?_;rw [h3];exact Udj (s':=s.setDraft D') (g1.draft rfl) g2 rfl (DN.of (h4▸hk) h4.symm h5.symm h6 (by rw [h7];exact ht)) (fun e=>by cases e) (by kernel_rfl)
 by_cases s1:s.state="tag name"
 ·refine goes 0 D.name (.str (D.name++fff (lowL c) (lowL c))::flatA D.attrs) { D with name:=D.name++fff (lowL c) (lowL c) } (by rw [s1];kernel_rfl) hnl ?_ rfl rfl rfl rfl (fun O2 g=>item_at (k:=0) (Udn g.wd) ne_ref (by rw [hw];rfl)) (fun O2 g v hv=>?_)
  ·show (if (s.state==Qad)=true then _ else _:PS)=_;rw [s1,if_pos (by kernel_rfl),c3];delta PS.tagName;rw [hd]
  ·rw [hv];have g':=g.wd;rw [hw] at g';exact set_0 g'
 ·refine xEEAAA (hx s1) fun init a ha hna hva=>?_;have hw2:ws=(.str D.name::flatA init)++[.str a.n,.str a.v]:=by rw [hw,ha,Ubf];rfl
  by_cases s2:s.state="attribute name"
  ·refine goes (-2) a.n ((.str D.name::flatA init)++[.str (a.n++fff (lowL c) (lowL c)),.str a.v]) { D with attrs:=init++[{ a with n:=a.n++fff (lowL c) (lowL c) }] } (by rw [s2];kernel_rfl) hna ?_ rfl rfl ?_ ?_ (fun O2 g=>item_2 (P:=.str D.name::flatA init) (by rw [<- hw2];exact g.wd)) (fun O2 g v hv=>?_)
   ·show (if (s.state==Qad)=true then _ else if (s.state==Qac)=true then _ else _:PS)=_;rw [s2,if_neg (by decide),if_pos (by kernel_rfl),<- c3];delta PS.addName;rw [Ua3 hd ha]
   ·show _=V.str D.name::flatA (init++[_]);rw [Ubf];rfl
   ·rw [ha,Uaz,Uaz]
   ·rw [hv];exact set_2 (P:=.str D.name::flatA init) (by rw [<- hw2];exact g.wd)
  ·refine goes (-1) a.v ((.str D.name::flatA init)++[.str a.n,.str (a.v++fff c c)]) { D with attrs:=init++[{ a with v:=a.v++fff c c }] } ?_ hva ?_ rfl rfl ?_ ?_ (fun O2 g=>item_1 (P:=.str D.name::flatA init) (by rw [<- hw2];exact g.wd)) (fun O2 g v hv=>?_)
   ·have b1:(Qad==s.state)=false:=beq_eq_false_iff_ne.mpr fun e=>s1 e.symm;have b2:(Qac==s.state)=false:=beq_eq_false_iff_ne.mpr fun e=>s2 e.symm;delta placeEs;rw [lk,b1,if_neg Bool.false_ne_true,lk,b2,if_neg Bool.false_ne_true]
    rfl
   ·show (if (s.state==Qad)=true then _ else if (s.state==Qac)=true then _ else _:PS)=_;rw [if_neg (by simpa using s1),if_neg (by simpa using s2)];delta PS.addValue;rw [Ua3 hd ha]
    rfl
   ·show _=V.str D.name::flatA (init++[_]);rw [Ubf];rfl
   ·rw [ha,Uaz,Uaz]
   ·rw [hv];exact set_1 (P:=.str D.name::flatA init) (by rw [<- hw2];exact g.wd)
theorem Ul3(b:Bool)(h:NS O n s.b1)(hp:DPre .new s)(hb:b=true->c="=") :
  Run (callK (P p) (d+4) a__law_deed [.ref 16 n,.str (if b then "first" else "new"),.str c]) O (Done O n (s.deed (if b then .first else .new) c)):=by
 refine xEEEEEAAAA h fun ν kd cl ws ts qz1 h hD hf=>?_;subst qz1;refine xEAAA hp fun D hd hk hl=>?_;have hD:DN kd cl ws ts s.draft:=hD;rw [hd] at hD;refine xAAAA (hD.words hk) fun qz1 qz2 hw ht=>?_;subst qz1;subst qz2;have hwl:ws.length=1+2*D.attrs.length:=by rw [hw,List.length_cons,Ud3];exact om18
 rw [Uao];show RF _ O _;delta F__law_deed;have fin:∀ (y:Str),y=(if b then "=" else "")->RF (bnd (methodV (callK (P p) (d+3)) (.bi .extend) (.ref 15 ν.w) [.lst [.str y,.str Qa]]) fun x12=>J__law_deed_0 p (callK (P p) (d+3)) [(Qb,.ref 16 ν.n),(Qao,.str (if b then "first" else "new")),(Qg,.str c),(Qz,.ref 15 ν.w)]) O
   (Done O ν.n (s.deed (if b then .first else .new) c)):=by
  intro y hy;refine RF.b (ext_of h.wd rfl (by rw [hwl];delta lim;simp;exact om332 hl)) ?_;have e:s.deed (if b then .first else .new) c=s.setDraft { D with attrs:=D.attrs++[⟨y,"",true⟩] }:=by
   cases b
   ·subst hy;exact Uaq hd
   ·subst hy;have hc:=hb rfl;subst hc;show s.newAttr.addName "="=_;rw [Uaq hd];delta PS.addName;rw [Ua3 (init:=D.attrs) (a:=⟨"","",true⟩) rfl rfl]
    rfl
  rw [e];refine Udj (s':=s.setDraft { D with attrs:=D.attrs++[⟨y,"",true⟩] }) (h.setWd.draft rfl) (Gx.put rfl) rfl (DN.of hk rfl rfl ?_ ?_) (fun e=>by cases e) (by cases b <;> rfl)
  ·rw [hw];show _=V.str D.name::flatA (D.attrs++[_]);rw [Ubf];rfl
  ·show ts=(twI 0 (D.attrs++[_])).map V.int;rw [Uaz,ht];simp
 cases b with
 | false=>exact RF.l (Ua5 h) (RF.b1 (RF.no (by kernel_rfl) (RF.no (by kernel_rfl) (RF.b1 (RF.yes (by kernel_rfl) (RF.ext h.wd (RF.no (by kernel_rfl) (RF.b1 (fin _ rfl)))))))))
 | true=>exact RF.l (Ua5 h) (RF.b1 (RF.no (by kernel_rfl) (RF.no (by kernel_rfl) (RF.b1 (RF.yes (by kernel_rfl) (RF.ext h.wd (RF.yes (by kernel_rfl) (RF.b1 (fin _ rfl)))))))))
theorem Ul7(h:NS O n s.b1)(hp:DPre .check s)(he:s.errs.length < lim):Run (callK (P p) (d+4) a__law_deed [.ref 16 n,.str "check",.str c]) O (Done O n (s.deed .check c)):=by
 refine xEEEEEAAAA h fun ν kd cl ws ts qz1 h hD hf=>?_;subst qz1;refine xEEEAAAAAA hp fun D init a hd hk ha hak hka hl=>?_;have hD:DN kd cl ws ts s.draft:=hD;rw [hd] at hD;refine xAAAA (hD.words hk) fun qz1 qz2 hw ht=>?_;subst qz1;subst qz2;have hw2:ws=(.str D.name::flatA init)++[.str a.n,.str a.v]:=by rw [hw,ha,Ubf];rfl
 have hwl:ws.length=2*init.length+3:=by rw [hw2];simp [Ud3]
 rw [Uao];show RF _ O _;delta F__law_deed;refine RF.l (Ua5 h) (RF.b1 (RF.no (by kernel_rfl) (RF.no (by kernel_rfl) (RF.b1 (RF.no (by kernel_rfl) (RF.yes (by kernel_rfl) ?_))))));have hin:cmpV .In (.str a.n) (.lst (init.map fun a=>V.str a.n)) O=some (toldP init a):=by
  refine (show inV O (.str a.n) (.lst (init.map fun a=>V.str a.n))=some ((init.map (·.n)).any (·==a.n)) from ob_of (f:=fun l:List Str=>some (l.any (·==a.n))) (z:=none) (Ujk init)).trans ?_;rw [<- hka.told a,List.any_map];rfl
 refine RF.l (item_2 (P:=.str D.name::flatA init) (by rw [<- hw2];exact h.wd)) (RF.l (a:=.lst (init.map fun a=>V.str a.n)) ?_ ?_)
 ·refine (ob_of (asl_of h.wd)).trans ?_;rw [if_pos (by decide),hw2,Ump]
 have hce:s.deed .check c=s.check:=rfl;rw [hce];delta PS.check;rw [Ugr hd ha];cases htl:toldP init a with
 | false =>
  rw [if_neg Bool.false_ne_true];rw [htl] at hin;exact RF.no hin (Udj (s':=s) h Gx.rfl rfl (by rw [hd];exact DN.of hk rfl rfl hw ht) (fun e=>by rw [hd] at e;cases e) (by kernel_rfl))
 | true =>
  rw [if_pos rfl];obtain ⟨O1,e1,h1,g1⟩:=h.err' (e:=errV "duplicate-attribute" (s.pos - 1)) he (c:=callK (P p) (d+3));rw [htl] at hin;refine RF.yes hin (RF.l (n_err h) (RF.app h.err (RF.l (n_at h) (RF.b e1 (RF.l (Upc h1) (RF.app h1.tw (RF.b (len_list h1.wd) (RF.l (a:=.int (2*(init.length:Int)+1)) ?_ (RF.b (Uag h1.tw ?_) ?_)))))))))
  ·show some (V.int (_ - 2))=_;rw [hwl]
   congr 2
   exact Int.sub_eq_iff_eq_add.mpr rfl
  ·rw [ht,List.length_map];have:∀ (o:Nat) (l:List PA),(twI o l).length<=l.length:=by
    intro o l;induction l generalizing o with
    | nil=>exact Nat.le_refl 0
    | cons b r ih =>
     rw [twI,List.length_append,List.length_cons];have:=ih (o+1);have h1:(if b.k=true then [] else [(2*(o:Int)+1)]).length<=1:=by split <;> simp
     exact om14 this h1
   have h2:=this 0 D.attrs;rw [ha,List.length_append,List.length_singleton] at h2;rw [ha];delta lim;exact Nat.lt_of_le_of_lt (Nat.le_trans h2 hl) (by decide)
  ·have e:(s.last' fun w0 a=>{ a with k:=false }).error "duplicate-attribute"={ s with draft:=some { D with attrs:=init++[{ a with k:=false }] },errs:=s.errs++[errV "duplicate-attribute" (s.pos - 1)] }:=by
    rw [Ua3 hd ha];rfl
   rw [e];refine Udj (s':={ s with draft:=some { D with attrs:=init++[{ a with k:=false }] },errs:=s.errs++[errV "duplicate-attribute" (s.pos - 1)] }) (h1.setTw.draft rfl) (g1.trans (Gx.put rfl)) rfl (DN.of hk rfl rfl ?_ ?_) (fun e=>by cases e) (by kernel_rfl)
   ·rw [hw2];show _=V.str D.name::flatA (init++[_]);rw [Ubf];rfl
   ·show _=(twI 0 (init++[_])).map V.int;rw [Uaz,ht,ha,Uaz,hak];simp
theorem Ult(h:NS O n s.b1)(ho:s.out.length < lim):Run (callK (P p) (d+4) a__law_deed [.ref 16 n,.str "quit",.str c]) O (Done O n (s.deed .quit c)):=by
 obtain ⟨ν,kd,cl,ws,ts,rfl,h,hD,hf⟩:=h;rw [Uao];show RF _ O _;delta F__law_deed;exact RF.l (Ua5 h) (RF.b1 (RF.no (by kernel_rfl) (RF.no (by kernel_rfl) (RF.b1 (RF.no (by kernel_rfl) (RF.no (by kernel_rfl) (RF.b1 (RF.no (by kernel_rfl) (RF.no (by kernel_rfl) (RF.b1 (RF.no (by kernel_rfl) (Ug5 (s':=s) h Gx.rfl rfl hD hf (by kernel_rfl) ho))))))))))))
theorem Uoy(h:NS O n s.b1):Run (callK (P p) (d+4) a__law_deed [.ref 16 n,.str "",.str c]) O (Done O n (s.deed .none c)):=by
 obtain ⟨ν,kd,cl,ws,ts,rfl,h,hD,hf⟩:=h;rw [Uao];show RF _ O _;delta F__law_deed;exact RF.l (Ua5 h) (RF.b1 (RF.no (by kernel_rfl) (RF.no (by kernel_rfl) (RF.b1 (RF.no (by kernel_rfl) (RF.no (by kernel_rfl) (RF.b1 (RF.no (by kernel_rfl) (RF.no (by kernel_rfl) (RF.b1 (RF.no (by kernel_rfl) (Udj (s':=s) h Gx.rfl rfl hD hf (by kernel_rfl)))))))))))))
theorem Ulm(h:NS O n s.b1):Run (callK (P p) (d+4) a__law_deed [.ref 16 n,.str "refer",.str c]) O (Done O n (s.deed .refer c)):=by
 obtain ⟨ν,kd,cl,ws,ts,rfl,h,hD,hf⟩:=h;rw [Uao];show RF _ O _;delta F__law_deed;obtain ⟨O1,e1,h1,g1⟩:=Uty h s.state;exact RF.l (Ua5 h) (RF.b1 (RF.no (by kernel_rfl) (RF.no (by kernel_rfl) (RF.b1 (RF.no (by kernel_rfl) (RF.no (by kernel_rfl) (RF.b1 (RF.no (by kernel_rfl) (RF.yes (by kernel_rfl) (RF.l (Ugg h) (RF.b e1 (Udj (s':={ s with back:=s.state }) h1 g1 rfl hD hf (by kernel_rfl)))))))))))))
theorem Ue8(x:Str)(hl:x.cps.toList.length < 200):compK (.str x) (fun x40=>bnd (ret (.ret (.tup [(.str Qcf),x40]))) unFl) (fun x40=>ret true) 200 0 [] O=some (.lst (x.cps.toList.map fun c=>chV (ch c)),O):=by
 have:=Umc (O:=O) (o:=.str x) (elt:=fun x40=>bnd (ret (.ret (.tup [(.str Qcf),x40]))) unFl) (test:=fun x40=>ret true) (fun v=>some (.tup [.str Qcf,v])) (x.cps.toList.map fun c=>.str (ch c)) (fun k hk=>?_) (fun v hv=>.inr ⟨_,rfl,rfl,rfl⟩) (by rw [List.length_map];exact hl)
 ·rw [this,List.filterMap_map];have e:((fun v=>some (V.tup [.str Qcf,v])) ∘ fun c=>V.str (ch c))=fun c=>some (chV (ch c)):=rfl;rw [e,List.filterMap_eq_map']
 ·rw [List.getElem?_map]
  by_cases hk2:k < x.cps.toList.length
  ·rw [List.getElem?_eq_getElem hk2];exact Ue9 (by rw [<- Array.getElem?_toList];exact List.getElem?_eq_getElem hk2)
  ·rw [List.getElem?_eq_none (Nat.le_of_not_lt hk2)];exact Ugl (by simpa using hk2)
theorem Uow(h:NS O n s.b1)(hp:s.state="tag open")(ho:s.out.length+2 < lim):Run (callK (P p) (d+4) a__law_deed [.ref 16 n,.str "lone",.str c]) O (Done O n (s.deed .lone c)):=by
 obtain ⟨ν,kd,cl,ws,ts,rfl,h,hD,hf⟩:=h;rw [Uao];show RF _ O _;delta F__law_deed;refine RF.l (Ua5 h) (RF.b1 (RF.no (by kernel_rfl) (RF.no (by kernel_rfl) (RF.b1 (RF.no (by kernel_rfl) (RF.no (by kernel_rfl) (RF.b1 (RF.no (by kernel_rfl) (RF.no (by kernel_rfl) (RF.b1 (RF.yes (by kernel_rfl) ?_)))))))))));refine RF.l (n_out h) (RF.ext h.out (RF.l (Ugg h) (RF.yes (by show some (s.state==Qae)=_;rw [hp];rfl) (RF.b (Ue8 Qan (by decide)) (RF.b (ext_of h.out rfl ?_) ?_)))))
 ·show s.out.length+1 < lim;exact om40 ho
 ·exact Udj (s':=s.put (chV "<")) h.setOut (Gx.put rfl) rfl hD hf (by kernel_rfl)
theorem Un7(h:NS O n s.b1)(hp:fresh s)(ho:s.out.length+3 < lim):Run (callK (P p) (d+4) a__law_deed [.ref 16 n,.str "lost",.str c]) O (Done O n (s.deed .lost c)):=by
 obtain ⟨ν,kd,cl,ws,ts,rfl,h,hD,hf⟩:=h;rw [Uao];show RF _ O _;delta F__law_deed;refine RF.l (Ua5 h) (RF.b1 (RF.no (by kernel_rfl) (RF.no (by kernel_rfl) (RF.b1 (RF.no (by kernel_rfl) (RF.no (by kernel_rfl) (RF.b1 (RF.no (by kernel_rfl) (RF.no (by kernel_rfl) (RF.b1 (RF.yes (by kernel_rfl) ?_)))))))))));refine RF.l (n_out h) (RF.ext h.out (RF.l (Ugg h) ?_));show RF _ O (Done O ν.n (if (s.state==Qae)=true then _ else _:PS).eof);rcases hp with hp | hp
 ·have hst:(s.state==Qae)=true:=by rw [hp];rfl
  rw [if_pos hst];refine RF.yes (by show some (s.state==Qae)=_;rw [hst]) (RF.b (Ue8 Qan (by decide)) (RF.b (ext_of h.out rfl (by show s.out.length+1 < lim;exact om1 ho)) ?_));exact Ug5 (s':=s.put (chV "<")) h.setOut (Gx.put rfl) rfl hD hf (by kernel_rfl) (by show (s.out++[_]).length < lim;simp;exact om1 ho)
 ·have hst:(s.state==Qae)=false:=by rw [hp];rfl
  rw [if_neg (by rw [hst];decide)];refine RF.no (by show some (s.state==Qae)=_;rw [hst]) (RF.b (Ue8 Qbx (by decide)) (RF.b (ext_of h.out rfl (by show s.out.length+2 < lim;exact om7 ho)) ?_));have e:(s.put (chV "<")).put (chV "/")={ s with out:=s.out++[chV "<",chV "/"] }:=by delta PS.put;simp
  rw [e];exact Ug5 (s':={ s with out:=s.out++[chV "<",chV "/"] }) h.setOut (Gx.put rfl) rfl hD hf (by kernel_rfl) (by show (s.out++[_,_]).length < lim;simp;exact om7 ho)
theorem Uoe(dd:Deed)(h:NS O n s.b1)(hp:DPre dd s)(hc:c ∈ alph3)(hb:dd=.first->c="=")(hdn:s.done=false)(ho:s.out.length+3 < lim)(he:s.errs.length+1 < lim) :
  Run (callK (P p) (d+4) a__law_deed [.ref 16 n,.str dd.str,.str c]) O (Done O n (s.deed dd c)):=by
 cases dd with
 | none=>exact Uoy h
 | start=>exact Ue6 "start" (.inl rfl) h hp
 | end_=>exact Ue6 "end" (.inr (.inl rfl)) h hp
 | comment=>exact Ue6 "comment" (.inr (.inr rfl)) h hp
 | lost=>exact Un7 h hp ho
 | lone=>exact Uow h hp (om7 ho)
 | give=>exact Uj2 false h hp hdn (om0 ho) he
 | close=>exact Uj2 true h hp hdn (om0 ho) he
 | put=>exact Uqe h hp hc
 | quit=>exact Ult h (om0 ho)
 | new=>exact Ul3 false h hp (fun e=>by cases e)
 | first=>exact Ul3 true h hp (fun w0=>hb rfl)
 | check=>exact Ul7 h hp (om5 he)
 | refer=>exact Ulm h
end
noncomputable def rows3:St->List (Str×Str×Str×Str)
 | .tagOpen=>[("!","","","markup declaration open"),("/","","","end tag open"),("L","","start","~tag name"),("?","unexpected-question-mark-instead-of-tag-name","comment","~bogus comment"),("$","eof-before-tag-name","lost",""),("*","invalid-first-character-of-tag-name","lone","~data")]
 | .endOpen=>[("L","","end","~tag name"),(">","missing-end-tag-name","","data"),("$","eof-before-tag-name","lost",""),("*","invalid-first-character-of-tag-name","comment","~bogus comment")]
 | .tagName=>[("_","","","before attribute name"),("/","","","self-closing start tag"),(">","","give","data"),("0","unexpected-null-character","put",""),("$","eof-in-tag","quit",""),("*","","put","")]
 | .self=>[(">","","close","data"),("$","eof-in-tag","quit",""),("*","unexpected-solidus-in-tag","","~before attribute name")]
 | .befName=>[("_","","",""),("/>$","","","~after attribute name"),("=","unexpected-equals-sign-before-attribute-name","first","attribute name"),("*","","new","~attribute name")]
 | .name=>[("_/>$","","check","~after attribute name"),("=","","check","before attribute value"),("0","unexpected-null-character","put",""),("\"'<","unexpected-character-in-attribute-name","put",""),("*","","put","")]
 | .aftName=>[("_","","",""),("/","","","self-closing start tag"),("=","","","before attribute value"),(">","","give","data"),("$","eof-in-tag","quit",""),("*","","new","~attribute name")]
 | .befVal=>[("_","","",""),("\"","","","attribute value (double-quoted)"),("'","","","attribute value (single-quoted)"),(">","missing-attribute-value","give","data"),("*","","","~attribute value (unquoted)")]
 | .dq=>[("\"","","","after attribute value (quoted)"),("&","","refer","character reference"),("0","unexpected-null-character","put",""),("$","eof-in-tag","quit",""),("*","","put","")]
 | .sq=>[("'","","","after attribute value (quoted)"),("&","","refer","character reference"),("0","unexpected-null-character","put",""),("$","eof-in-tag","quit",""),("*","","put","")]
 | .bare=>[("_","","","before attribute name"),(">","","give","data"),("\"'<=`","unexpected-character-in-unquoted-attribute-value","put",""),("&","","refer","character reference"),("0","unexpected-null-character","put",""),("$","eof-in-tag","quit",""),("*","","put","")]
 | .aftVal=>[("_","","","before attribute name"),("/","","","self-closing start tag"),(">","","give","data"),("$","eof-in-tag","quit",""),("*","missing-whitespace-between-attributes","","~before attribute name")]
noncomputable def markS(c:Str):Str:=if c=="" then "$" else if c==Qak then "0" else if isBlank c then "_" else if [Qbh,"b","z","A","B","Z"].any (·==c) then "L" else c
noncomputable def stops(m:Str)(r:Str×Str×Str×Str):Bool:=r.1==Qaz||hasSub r.1 m
noncomputable def pre1(x:Str):Str:=⟨(sliceL none (some 1) x.cps.toList).toArray⟩
noncomputable def post1(x:Str):Str:=⟨(sliceL (some 1) none x.cps.toList).toArray⟩
noncomputable def head1(x:Str):Str:=⟨#[x.cps.getD 0 0]⟩
noncomputable def isFresh(q:St):Bool:=match q with
 | .tagOpen | .endOpen=>true
 | _=>false
noncomputable def dstat(q:St)(a:Act):Bool:=(match a.deed with
 | .start | .end_ | .comment | .lost=>isFresh q
 | .lone=>(match q with | .tagOpen=>true | _=>false)
 | .give | .close=>!isFresh q
 | .put=>(match q with | .tagName | .name | .dq | .sq | .bare=>true | _=>false)
 | .new | .first=>(match q with | .befName | .aftName=>true | _=>false)
 | .check=>(match q with | .name=>true | _=>false)
 | _=>true)&&(match a.goal with
 | some g=>g != "tag open"&&(if g=="end tag open" then ((match q with | .tagOpen=>true | _=>false)&&!a.again) else true)&&(if g=="attribute name" then (match a.deed with | .new | .first=>true | _=>false) else true)
 | none=>(match q with | .name=>(match a.deed with | .put=>true | _=>false) | _=>true))
noncomputable def chk(q:St)(c:Str):Bool:=match (rows3 q).find? (stops (markS c)) with
 | some r=>(r.2.1==(act q c).err.getD "")&&(match (act q c).err with | some e=>e != "" | none=>true)&&(r.2.2.1==(act q c).deed.str)&&dstat q (act q c)&&(match (act q c).deed with | .first=>c=="=" | _=>true) &&
  (match (act q c).goal with
  | none=>r.2.2.2==""&&!(act q c).again&&pre1 r.2.2.2 != "~"
  | some g=>r.2.2.2 != ""&&Nat.ble 1 r.2.2.2.length&&((pre1 r.2.2.2 != "~")==!(act q c).again)&&((head1 r.2.2.2=="~")==(act q c).again)&&(if (act q c).again then post1 r.2.2.2==g else r.2.2.2==g))
 | none=>false
theorem Uue:(allSt.all fun q=>alph3.all fun c=>(isFresh q&&c=="c")||chk q c)=true:=by kernel_rfl
theorem chk_of{c:Str}(hc:c ∈ alph3)(q:St)(hf:isFresh q=true->c≠"c"):chk q c=true:=by
 have h:=List.all_eq_true.mp (List.all_eq_true.mp Uue q (Uez q)) c hc;cases hq:isFresh q with
 | false=>rw [hq] at h;exact h
 | true=>rw [beq_eq_false_iff_ne.mpr (hf hq),Bool.and_false,Bool.false_or] at h;exact h
section
variable {p:Params}{O O' O₁:Store}{n d:Nat}
theorem Uqg:alph3.map (fun c=>callK (P p) (d+1) a__law_mark [.str c] O)=alph3.map (fun c=>some (V.str (markS c),O)):=by kernel_rfl
theorem Uth{c:Str}(hc:c ∈ alph3):callK (P p) (d+1) a__law_mark [.str c] O=some (.str (markS c),O):=List.map_inj_left.mp Uqg c hc
end
noncomputable abbrev Row:=Str×Str×Str×Str
noncomputable def rowV(r:Row):V:=.tup [.str r.1,.str r.2.1,.str r.2.2.1,.str r.2.2.2]
noncomputable def RowsAt(O:Store)(v:V)(L:List Row):Prop:=(∃ i,v=.ref 12 i/\O.get 12 i=some (.list (L.map rowV)))\/v=.lst (L.map rowV)
noncomputable def TB(O:Store)(tb:Nat):Prop:=∃ rv:St->V,O.get 13 tb=some (.dict (allSt.map fun q=>(q.str,rv q)))/\∀ q,RowsAt O (rv q) (rows3 q)
section
variable {p:Params}{O O' O₁:Store}{n d tb:Nat}{ν:Nf}{s x:PS}{c m gs st:Str}{pl:Int}{v rws:V}{L:List Row}{r:Row}{k:Nat}{Q:Fl->Store->Prop}
theorem RowsAt.gx(h:RowsAt O v L)(g:Gx O O'):RowsAt O' v L:=h.imp (fun qq=>xEAA qq fun i e hi=>⟨i,e,(g.get rfl).trans hi⟩) id
theorem TB.gx(h:TB O tb)(g:Gx O O'):TB O' tb:=by refine xEAA h fun rv h1 h2=>?_;exact ⟨rv,(g.get rfl).trans h1,fun q=>(h2 q).gx g⟩
theorem RowsAt.item(h:RowsAt O v L)(hk:L[k]?=some r):itemV v (.int k) O=some (rowV r):=by
 rcases h with ⟨i,rfl,hi⟩ | rfl
 ·exact itemL hi (by rw [List.getElem?_map,hk];rfl)
 ·exact item_at (vs:=L.map rowV) rfl (fun w0 e=>by cases e) (by rw [List.getElem?_map,hk];rfl)
theorem row0:itemV (rowV r) (.int 0) O=some (.str r.1):=Ub6 (j:=0) rfl
theorem row1:itemV (rowV r) (.int 1) O=some (.str r.2.1):=Ub6 (j:=1) rfl
theorem row2:itemV (rowV r) (.int 2) O=some (.str r.2.2.1):=Ub6 (j:=2) rfl
theorem row3:itemV (rowV r) (.int 3) O=some (.str r.2.2.2):=Ub6 (j:=3) rfl
noncomputable abbrev frB(tb n:Nat)(c:Str)(pl:Int)(m:Str)(r:Fr):Fr:=(Qh,.ref 13 tb)::(Qb,.ref 16 n)::(Qg,.str c)::(Qr,.int pl)::(Qaa,.str m)::r
noncomputable def ShG(tb n:Nat)(c:Str)(pl:Int)(m:Str)(fr:Fr):Prop:=fr=frB tb n c pl m []\/∃ a b e,fr=frB tb n c pl m [(Qv,a),(Qw,b),(Qag,e)]
noncomputable def Turn(O:Store)(tb n:Nat)(c:Str)(pl:Int)(m:Str)(s':PS):Fl->Store->Prop:=fun fl O'=>∃ fr',fl=.next fr'/\ShG tb n c pl m fr'/\NS O' n s'/\Gx O O'
theorem NS.item_state(h:NS O n x):itemV (.ref 16 n) (.str Qy) O=some (.str x.state):=by obtain ⟨ν,kd,cl,ws,ts,rfl,h,_⟩:=h;exact Ugg h
theorem NS.item_at(h:NS O n x):itemV (.ref 16 n) (.str Qt) O=some (.int x.pos):=by obtain ⟨ν,kd,cl,ws,ts,rfl,h,_⟩:=h;exact n_at h
theorem NS.set_state(h:NS O n x)(st:Str)(hf:x.draft=none->fresh { x with state:=st }->fresh x):∃ O',setItemV (.ref 16 n) (.str Qy) (.str st) O=some ((),O')/\NS O' n { x with state:=st }/\Gx O O':=by
 obtain ⟨ν,kd,cl,ws,ts,rfl,h,hD,hq⟩:=h;obtain ⟨O1,e1,h1,g1⟩:=Urw h st;exact ⟨O1,e1,⟨ν,kd,cl,ws,ts,rfl,h1,hD,fun a b=>hq a (hf a b)⟩,g1⟩
theorem NS.set_at(h:NS O n x)(v:Int):∃ O',setItemV (.ref 16 n) (.str Qt) (.int v) O=some ((),O')/\NS O' n { x with pos:=v }/\Gx O O':=by
 obtain ⟨ν,kd,cl,ws,ts,rfl,h,hD,hq⟩:=h;obtain ⟨O1,e1,h1,g1⟩:=sn_at h v;exact ⟨O1,e1,⟨ν,kd,cl,ws,ts,rfl,h1,hD,hq⟩,g1⟩
theorem go_j3{a b:V}(h:NS O n x)(g0:Gx O₁ O)(hgs:(gs=""/\st=x.state)\/(gs≠""/\1<=gs.length/\st=if head1 gs=="~" then post1 gs else gs))(hf:x.draft=none->fresh { x with state:=st }->fresh x) :
  Run (J__law_go_3 p (callK (P p) d) (frB tb n c pl m [(Qv,a),(Qw,b),(Qag,.str gs)])) O (Turn O₁ tb n c pl m { x with state:=st }):=by
 rw [Uf1];delta J__law_go_3_T0;refine Run.l (a:=!(gs==Qa)) rfl ?_;rcases hgs with ⟨rfl,rfl⟩ | ⟨hne,hl,hst⟩
 ·exact Run.neg (by decide) (Run.next ⟨_,rfl,.inr ⟨_,_,_,rfl⟩,h,g0⟩)
 ·rw [beq_eq_false_iff_ne.mpr hne];refine Run.pos rfl (Run.l (a:=.str (head1 gs)) ?_ (Run.l (a:=head1 gs==Qck) rfl ?_))
  ·have:idx 0 gs.length=some 0:=by delta idx;rw [if_pos (by decide),if_pos (show (0:Int).toNat < gs.length from hl)];rfl
   exact ob_of (f:=fun j=>some (V.str ⟨#[gs.cps.getD j 0]⟩)) (z:=none) this
  ·refine xEAAA (h.set_state st hf) fun O2 e2 h2 g2=>?_;cases hh:head1 gs==Qck with
   | true =>
    rw [hh,if_pos rfl] at hst;rw [hst] at e2;exact Run.pos rfl (Run.l (a:=.str (post1 gs)) rfl (Run.b e2 (Run.next ⟨_,rfl,.inr ⟨_,_,_,rfl⟩,h2,g0.trans g2⟩)))
   | false =>
    rw [hh,if_neg Bool.false_ne_true] at hst;rw [hst] at e2;exact Run.neg Bool.false_ne_true (Run.b e2 (Run.next ⟨_,rfl,.inr ⟨_,_,_,rfl⟩,h2,g0.trans g2⟩))
structure RowOk(q:St)(c:Str)(a:Act)(r:Row):Prop where
 err:(a.err=none/\r.2.1="")\/∃ e,a.err=some e/\r.2.1=e/\e≠""
 deed:r.2.2.1=a.deed.str
 first:a.deed=.first->c="="
 goal:(a.goal=none/\r.2.2.2=""/\a.again=false)\/∃ g,a.goal=some g/\r.2.2.2≠""/\1<=r.2.2.2.length/\(head1 r.2.2.2==Qck)=a.again/\g=if head1 r.2.2.2=="~" then post1 r.2.2.2 else r.2.2.2
 pre:(pre1 r.2.2.2==Qck)=(a.again&&a.goal.isSome)
 st:dstat q a=true
theorem Upt{q:St}{a:Act}(h:NS O n s.b1)(g0:Gx O₁ O)(hR:RowsAt O rws L)(hk:L[k]?=some r)(ho:RowOk q c a r)(hp:DPre a.deed s)(hc:c ∈ alph3)(hdn:s.done=false)(hout:s.out.length+3 < lim)(he:s.errs.length+1 < lim)(hpl:pl=s.pos - 1)
  (hf:∀ g,a.goal=some g->fresh { s with state:=g }->fresh s) :
  Run (J__law_go_2 p (callK (P p) (d+4)) (frB tb n c pl m [(Qv,.int k),(Qw,rws)])) O (Turn O₁ tb n c pl m ((s.deed a.deed c).goto a.goal a.again)):=by
 rw [Uc0];delta J__law_go_2_T0;refine Run.l (hR.item hk) (Run.l row2 ?_);rw [ho.deed];refine Run.c (Uoe (p:=p) (d:=d) a.deed h hp hc ho.first hdn hout he) fun v O2 qq=>xAAA qq fun ev h2 g2=>?_;have hs:=(Ujn (s:=s) (c:=c) a.deed).1;have hstf:∀ g,a.goal=some g->fresh { s.deed a.deed c with state:=g }->fresh (s.deed a.deed c):=fun g hg hh=>by
  have:=hf g hg hh;unfold fresh at this ⊢;rw [hs.state];exact this
 refine Run.l ((hR.gx g2).item hk) (Run.l row3 (Run.l (a:=.str (pre1 r.2.2.2)) rfl (Run.l (a:=!(pre1 r.2.2.2==Qck)) rfl ?_)));rw [ho.pre];rcases ho.goal with ⟨e1,e2,e3⟩ | ⟨g,e1,e2,e3,e4,e5⟩
 ·rw [e1,e2,e3];refine Run.pos rfl (Run.l (a:=.int (pl+1)) rfl ?_);refine xEAAA (h2.set_at (pl+1)) fun O3 e3' h3 g3=>?_;refine Run.b e3' ?_;refine (go_j3 (p:=p) (d:=d+4) (gs:="") (st:=(s.deed a.deed c).state) (x:={ (s.deed a.deed c).b1 with pos:=pl+1 }) h3 (g0.trans (g2.trans g3)) (.inl ⟨rfl,rfl⟩) (fun w0 hh=>hh)).mono fun fl O4 qq=>xEAAAA qq fun fr' f1 f2 f3 f4=>⟨fr',f1,f2,?_,f4⟩
  have e:(s.deed a.deed c).goto none false={ (s.deed a.deed c).b1 with pos:=pl+1,state:=(s.deed a.deed c).state }:=by
   show s.deed a.deed c={ s.deed a.deed c with pos:=pl+1 };rw [hpl,show s.pos - 1+1=(s.deed a.deed c).pos by rw [hs.pos];exact om55]
  rw [e];exact f3
 ·rw [e1];cases hag:a.again with
  | false =>
   refine Run.pos rfl (Run.l (a:=.int (pl+1)) rfl ?_);refine xEAAA (h2.set_at (pl+1)) fun O3 e3' h3 g3=>?_;refine Run.b e3' ?_;refine (go_j3 (p:=p) (d:=d+4) (gs:=r.2.2.2) (st:=g) (x:={ (s.deed a.deed c).b1 with pos:=pl+1 }) h3 (g0.trans (g2.trans g3)) (.inr ⟨e2,e3,e5⟩) (fun w0 hh=>hstf g e1 hh)).mono fun fl O4 qq=>xEAAAA qq fun fr' f1 f2 f3 f4=>⟨fr',f1,f2,?_,f4⟩
   have e:(s.deed a.deed c).goto (some g) false={ (s.deed a.deed c).b1 with pos:=pl+1,state:=g }:=by
    show { s.deed a.deed c with state:=g }={ s.deed a.deed c with pos:=pl+1,state:=g };rw [hpl,show s.pos - 1+1=(s.deed a.deed c).pos by rw [hs.pos];exact om55]
   rw [e];exact f3
  | true =>
   refine Run.neg (by simp) ?_;exact (go_j3 (p:=p) (d:=d+4) (gs:=r.2.2.2) (st:=g) (x:=(s.deed a.deed c).b1) h2 (g0.trans g2) (.inr ⟨e2,e3,e5⟩) (fun w0 hh=>hstf g e1 hh)).mono fun fl O4 qq=>xEAAAA qq fun fr' f1 f2 f3 f4=>⟨fr',f1,f2,f3,f4⟩
theorem nxt_b1(x:PS):x.nxt.b1=x:=by
 show { x with pos:=x.pos+1 - 1 }=x;rw [show x.pos+1 - 1=x.pos by omega]
theorem Upm{q:St}{a:Act}(h:NS O n x)(g0:Gx O₁ O)(hR:RowsAt O rws L)(hk:L[k]?=some r)(ho:RowOk q c a r)(hp:∀ e,DPre a.deed { x.nxt with errs:=e })(hc:c ∈ alph3)(hdn:x.done=false)(hout:x.out.length+3 < lim)(he:x.errs.length+2 < lim)(hpl:pl=x.pos)
  (hf:∀ g,a.goal=some g->fresh { x with state:=g }->fresh x) :
  Run (J__law_go_1 p (callK (P p) (d+4)) (frB tb n c pl m [(Qv,.int k),(Qw,rws)])) O (Turn O₁ tb n c pl m (x.goC a c)):=by
 rw [Uc1];delta J__law_go_1_T0;refine Run.l (hR.item hk) (Run.l row1 (Run.l (a:=!(r.2.1==Qa)) rfl ?_));rcases ho.err with ⟨e1,e2⟩ | ⟨e,e1,e2,e3⟩
 ·rw [e2];refine Run.neg (by decide) ?_;have eg:x.goC a c=(x.nxt.deed a.deed c).goto a.goal a.again:=by delta PS.goC;rw [e1];rfl
  rw [eg];exact Upt (s:=x.nxt) (by rw [nxt_b1];exact h) g0 hR hk ho (hp x.errs) hc hdn hout (by show x.errs.length+1 < lim;exact om40 he) (by rw [hpl];show x.pos=x.pos+1 - 1;omega) hf
 ·rw [e2,beq_eq_false_iff_ne.mpr e3];have eg:x.goC a c=((x.nxt.error e).deed a.deed c).goto a.goal a.again:=by delta PS.goC;rw [e1];rfl
  rw [eg];obtain ⟨ν,kd,cl,ws,ts,rfl,h,hD,hq⟩:=h;obtain ⟨O1,e4,h1,g1⟩:=h.err' (e:=errV e pl) (Nat.lt_of_add_right_lt he) (c:=callK (P p) (d+4));refine Run.pos rfl (Run.l (n_err h) (Run.app h.err (Run.l (hR.item hk) (Run.l row1 ?_))));rw [e2];refine Run.b e4 ?_;refine Upt (s:=x.nxt.error e) ⟨ν,kd,cl,ws,ts,rfl,?_,hD,hq⟩ (g0.trans g1) (hR.gx g1) hk ho (hp _) hc hdn hout (by show (x.errs++[_]).length+1 < lim;simp;exact Nat.lt_of_succ_le he) (by rw [hpl];show x.pos=x.pos+1 - 1;exact om56) hf;have e5:(x.nxt.error e).b1={ x with errs:=x.errs++[errV e pl] }:=by
   show ({ x with pos:=x.pos+1 - 1,errs:=x.errs++[errV e (x.pos+1 - 1)] }:PS)=_;rw [hpl,show x.pos+1 - 1=x.pos by omega]
  rw [e5];exact h1
theorem go_e2(k:Nat)(y:V):J__law_go_2 p (callK (P p) (d+4)) (frB tb n c pl m [(Qv,.int k),(Qw,rws),(Qag,y)])=J__law_go_2 p (callK (P p) (d+4)) (frB tb n c pl m [(Qv,.int k),(Qw,rws)]) :=
 (Ufy ..).trans (Uc0 ..).symm
theorem go_e1(k:Nat)(y:V):J__law_go_1 p (callK (P p) (d+4)) (frB tb n c pl m [(Qv,.int k),(Qw,rws),(Qag,y)])=J__law_go_1 p (callK (P p) (d+4)) (frB tb n c pl m [(Qv,.int k),(Qw,rws)]):=by
 refine (Uf4 ..).trans (Eq.trans ?_ (Uc1 ..).symm);delta J__law_go_1_T1 J__law_go_1_T0;have e:=go_e2 (p:=p) (d:=d) (tb:=tb) (n:=n) (c:=c) (pl:=pl) (m:=m) (rws:=rws) k y;rw [e]
theorem Uji{test:Fr->M Bool}{body:Fr->M Fl}{fr:Nat->Fr}(k0:Nat)(hb:∀ k,body (fr k) O=some (.next (fr (k+1)),O))(ht:∀ k,k < k0->test (fr k) O=some (true,O))(h0:test (fr k0) O=some (false,O)) :
  ∀ (j k n:Nat),k0 - k=j->k<=k0->j < n->loopW test body n (fr k) O=some (.next (fr k0),O)
 | j,k,0,hj,hk,hn=>absurd hn (Nat.not_lt_zero _)
 | 0,k,n+1,hj,hk,hn=>by
  have:k=k0:=om25 hj hk;subst this;rw [loopW,bnd_of h0];rfl
 | j+1,k,n+1,hj,hk,hn=>by
  rw [loopW,bnd_of (ht k (om26 hj hk)),if_pos rfl,bnd_of (hb k)];exact Uji k0 hb ht h0 j (k+1) n ((Nat.sub_succ _ _).trans (congrArg Nat.pred hj)) (Nat.lt_of_sub_eq_succ hj) (om6 hn)
theorem Ujj{f:Row->Bool}:∀ {L:List Row} {r:Row},L.find? f=some r->∃ k,L[k]?=some r/\f r=true/\k < L.length/\∀ j,j < k->∀ r',L[j]?=some r'->f r'=false
 | [],r,h=>by cases h
 | a::t,r,h=>by
  rw [List.find?_cons] at h;cases ha:f a with
  | true=>rw [ha] at h;cases h;exact ⟨0,rfl,ha,by simp,fun j hj=>absurd hj (Nat.not_lt_zero _)⟩
  | false =>
   rw [ha] at h;refine xEAAAA (Ujj h) fun k h1 h2 h3 h4=>?_;refine ⟨k+1,h1,h2,by simp;exact Nat.lt_of_succ_le h3,fun j hj r' hr=>?_⟩;cases j with
   | zero=>cases hr;exact ha
   | succ j=>exact h4 j (om6 hj) r' hr
theorem Ugz(m:Str)(hR:RowsAt O rws L)(hk:L[k]?=some r):(bnd (bnd (look (itemV rws (.int k))) fun x16=>bnd (look (itemV x16 (.int 0))) fun x17=>bnd (look (cmpV .NotEq x17 (.str Qaz))) fun x18=>(cond x18
  (bnd (look (itemV rws (.int k))) fun x19=>bnd (look (itemV x19 (.int 0))) fun x20=>bnd (look (cmpV .NotIn (.str m) x20)) fun x21=>(cond x21 (ret (Fl.ret (.bool true))) (ret (.ret (.bool false)))))
  (ret (.ret (.bool false))))) unB) O=some (!stops m r,O):=by
 have i1:look (itemV rws (.int k)) O=some (rowV r,O):=by delta look;rw [hR.item hk]
 have i2:look (itemV (rowV r) (.int 0)) O=some (.str r.1,O):=by delta look;rw [row0]
 delta stops;refine ba_of i1 ?_;refine ba_of i2 ?_;refine ba_of (a:=!(r.1==Qaz)) (O₁:=O) rfl ?_;cases hs:r.1==Qaz with
 | true=>rfl
 | false =>
  show bnd (bnd (look (itemV rws (.int k))) _) unB O=_;refine ba_of i1 ?_;refine ba_of i2 ?_;refine ba_of (a:=!(hasSub r.1 m)) (O₁:=O) rfl ?_;cases hasSub r.1 m <;> rfl
theorem Ukb(q:St):(rows3 q).length<=10:=by cases q <;> decide
theorem Uo6{q:St}(h:NS O n x)(hT:TB O tb)(hq:x.state=q.str)(hr:(rows3 q).find? (stops m)=some r)(ho:RowOk q c (act q c) r)(hp:∀ e,DPre (act q c).deed { x.nxt with errs:=e })(hc:c ∈ alph3)(hdn:x.done=false)(hout:x.out.length+3 < lim)(he:x.errs.length+2 < lim)
  (hf:∀ g,(act q c).goal=some g->fresh { x with state:=g }->fresh x) :
  Run (turnL (P p) (callK (P p) (d+4)) (sc__law_go p) 57 (st__law_go_l0 p) (frB tb n c x.pos m [])) O (Turn O tb n c x.pos m (x.goC (act q c) c)):=by
 rw [Ueu];delta T__law_go_l0_0;refine xEAA hT fun rv hT hRq=>?_;have hR:=hRq q;refine xEAAAA (Ujj hr) fun k0 hk0 hs0 hlt hbef=>?_;have hl5:(rows3 q).length<=10:=Ukb q;refine Run.l (h.item_state) (Run.l (a:=rv q) ?_ ?_)
 ·rw [hq];refine Ubq hT ?_;rw [Ugi];have:=Uai q;unfold ofStr at this;rw [this];rfl
 ·refine Run.b (a:=.next (frB tb n c x.pos m [(Qv,.int k0),(Qw,rv q)])) (O₁:=O) ?_ ?_
  ·refine Uji (fr:=fun k=>frB tb n c x.pos m [(Qv,.int k),(Qw,rv q)]) k0 (fun k=>?_) (fun k hk=>?_) ?_ (k0 - 0) 0 5000 rfl (Nat.zero_le _) (om57 hlt hl5)
   ·rw [Uel];rfl
   ·rw [Ucb];have hk2:k < (rows3 q).length:=om58 hlt hk;have e:=Ugz (O:=O) m hR (List.getElem?_eq_getElem hk2);rw [hbef k hk _ (List.getElem?_eq_getElem hk2)] at e;exact e
   ·rw [Ucb];have e:=Ugz (O:=O) m hR hk0;rw [hs0] at e;exact e
  ·exact Upm h Gx.rfl hR hk0 ho hp hc hdn hout he rfl hf
theorem Uol{kk rr y:V}{q:St}(h:NS O n x)(hT:TB O tb)(hq:x.state=q.str)(hr:(rows3 q).find? (stops m)=some r)(ho:RowOk q c (act q c) r)(hp:∀ e,DPre (act q c).deed { x.nxt with errs:=e })(hc:c ∈ alph3)(hdn:x.done=false)(hout:x.out.length+3 < lim)(he:x.errs.length+2 < lim)
  (hf:∀ g,(act q c).goal=some g->fresh { x with state:=g }->fresh x) :
  Run (turnL (P p) (callK (P p) (d+4)) (sc__law_go p) 57 (st__law_go_l0 p) (frB tb n c x.pos m [(Qv,kk),(Qw,rr),(Qag,y)])) O (Turn O tb n c x.pos m (x.goC (act q c) c)):=by
 rw [Uem];delta T__law_go_l0_1;refine xEAA hT fun rv hT hRq=>?_;have hR:=hRq q;refine xEAAAA (Ujj hr) fun k0 hk0 hs0 hlt hbef=>?_;have hl5:(rows3 q).length<=10:=Ukb q;refine Run.l (h.item_state) (Run.l (a:=rv q) ?_ ?_)
 ·rw [hq];refine Ubq hT ?_;rw [Ugi];have:=Uai q;unfold ofStr at this;rw [this];rfl
 ·refine Run.b (a:=.next (frB tb n c x.pos m [(Qv,.int k0),(Qw,rv q),(Qag,y)])) (O₁:=O) ?_ ?_
  ·refine Uji (fr:=fun k=>frB tb n c x.pos m [(Qv,.int k),(Qw,rv q),(Qag,y)]) k0 (fun k=>?_) (fun k hk=>?_) ?_ (k0 - 0) 0 5000 rfl (Nat.zero_le _) (om57 hlt hl5)
   ·rw [Uew];rfl
   ·rw [Ucd];have hk2:k < (rows3 q).length:=om58 hlt hk;have e:=Ugz (O:=O) m hR (List.getElem?_eq_getElem hk2);rw [hbef k hk _ (List.getElem?_eq_getElem hk2)] at e;exact e
   ·rw [Ucd];have e:=Ugz (O:=O) m hR hk0;rw [hs0] at e;exact e
  ·show Run (J__law_go_1 p (callK (P p) (d+4)) (frB tb n c x.pos m [(Qv,.int k0),(Qw,rv q),(Qag,y)])) O _;rw [go_e1];exact Upm h Gx.rfl hR hk0 ho hp hc hdn hout he rfl hf
end
noncomputable def Kq(s:PS):Prop:=∀ D,s.draft=some D->D.closing=false/\KA D.attrs/\(s.state="attribute name"->∀ init a,D.attrs=init++[a]->a.k=true)
section
variable {p:Params}{O O' O₁:Store}{n d tb k:Nat}{s x:PS}{c m gs st:Str}{pl:Int}{q:St}{a:Act}{D:PD}
theorem KA.nil:KA []:=fun pre b post h=>by simp at h
theorem KA.snoc{as:List PA}{a:PA}(h:KA as)(ha:a.k=true\/∃ b ∈ as,b.k=true/\b.n=a.n):KA (as++[a]):=by
 intro pre b post e hb;rcases List.eq_nil_or_concat post with rfl | ⟨post',z,rfl⟩
 ·have:=List.append_inj' e (by rfl);refine xAA this fun e1 e2=>?_;cases e2;subst e1;rcases ha with ha | ha
  ·rw [ha] at hb;cases hb
  ·exact ha
 ·rw [List.concat_eq_append] at e;have e':as++[a]=(pre++b::post')++[z]:=by rw [e];simp
  refine xAA (List.append_inj' e' (by rfl)) fun e1 w0=>?_;exact h pre b post' e1 hb
theorem KA.front{as bs:List PA}(h:KA (as++bs)):KA as:=fun pre b post e hb=>h pre b (post++bs) (by rw [e];simp) hb
theorem KA.last{as:List PA}{a a':PA}(h:KA (as++[a]))(hk:a'.k=a.k)(hn:a.k=false->a'.n=a.n):KA (as++[a']):=by
 refine h.front.snoc ?_;cases ha:a.k with
 | true=>exact .inl (hk.trans ha)
 | false =>
  refine xEAAA (h as a [] rfl ha) fun b hb h1 h2=>?_;exact .inr ⟨b,hb,h1,h2.trans (hn ha).symm⟩
theorem Uhb{as:List PA}(h:as≠[]):∃ init a,as=init++[a]:=⟨as.dropLast,as.getLast h,(List.dropLast_concat_getLast h).symm⟩
theorem isName(q:St)(h:s.state=q.str):s.state="attribute name"->q=.name:=fun e=>St.inj (q':=.name) (h.symm.trans e)
theorem qfr{q:St}(h:isFresh q=true):q=.tagOpen\/q=.endOpen:=by cases q <;> first | exact .inl rfl | exact .inr rfl | cases h
theorem qlone{q:St}(h:(match q with | .tagOpen=>true | _=>false)=true):q=.tagOpen:=by cases q <;> first | rfl | cases h
theorem qput{q:St}{c:Str}(h:(match q with | .tagName | .name | .dq | .sq | .bare=>true | _=>false)=true)(n:q≠.tagName):need q (some c)=2:=by cases q <;> first | rfl | exact absurd rfl n | cases h
theorem qnew{q:St}(h:(match q with | .befName | .aftName=>true | _=>false)=true):isFresh q=false:=by cases q <;> first | rfl | cases h
theorem qchk{q:St}(h:(match q with | .name=>true | _=>false)=true):q=.name:=by cases q <;> first | rfl | cases h
theorem qone{q:St}{c:Str}(hf:isFresh q=false):1<=need q (some c):=by
 cases q <;> first | exact absurd hf (by decide) | exact Nat.le_refl 1 | exact Nat.le_succ 1 | (show 1<=(if slashy c=true then 1 else 2);split <;> decide)
theorem Ut6(hI:Inv k s (some c))(hq:s.state=q.str)(hK:Kq s)(hst:dstat q a=true)(hk:k<=150):∀ e,DPre a.deed { s.nxt with errs:=e }:=by
 intro e;have hdk:=hI.dk q hq;have hsz:=hI.sz;delta dstat at hst;rw [Bool.and_eq_true] at hst;have h1:=hst.1;have fr:isFresh q=true->s.draft=none/\fresh s:=fun hf=>by
  rcases qfr hf with rfl | rfl
  ·exact ⟨hdk,.inl hq⟩
  ·exact ⟨hdk,.inr hq⟩
 have nf:isFresh q=false->¬ fresh s:=fun hf hh=>by
  delta fresh at hh;rw [hq] at hh;rcases hh with hh | hh
  ·have:=St.inj (q':=.tagOpen) hh;subst this;cases hf
  ·have:=St.inj (q':=.endOpen) hh;subst this;cases hf
 have one:1<=need q (some c)->∃ D,s.draft=some D/\(D.kind="start"\/D.kind="end"):=fun h=>hdk.le h (Nat.le_refl 1);have two:need q (some c)=2->∃ D init a,s.draft=some D/\(D.kind="start"\/D.kind="end")/\D.attrs=init++[a]:=fun h=>by
  rw [h] at hdk;refine xEAAA hdk fun D hd hk hne=>?_;refine xEEA (Uhb hne) fun init a ha=>?_;exact ⟨D,init,a,hd,hk,ha⟩
 have one1:isFresh q=false->1<=need q (some c):=qone;revert h1;cases hdd:a.deed with
 | none=>intro _;trivial
 | refer=>intro _;trivial
 | quit=>intro _;trivial
 | start=>intro h1;exact fr h1
 | end_=>intro h1;exact fr h1
 | comment=>intro h1;exact fr h1
 | lost=>intro h1;exact (fr h1).2
 | lone=>intro h1;have e:=qlone h1;subst e;exact hq
 | give =>
  intro h1;have hnf:isFresh q=false:=Bool.not_eq_true' _ |>.mp h1;refine xEAA (one (one1 hnf)) fun D hd hk=>?_;refine xAAA (hsz.dr D hd) fun z1 z2 z3=>?_;exact ⟨D,hd,hk,(hK D hd).1,by omega,nf hnf⟩
 | close =>
  intro h1;have hnf:isFresh q=false:=Bool.not_eq_true' _ |>.mp h1;refine xEAA (one (one1 hnf)) fun D hd hk=>?_;refine xAAA (hsz.dr D hd) fun z1 z2 z3=>?_;exact ⟨D,hd,hk,(hK D hd).1,by omega,nf hnf⟩
 | put =>
  intro h1
  by_cases ht:q=.tagName
  ·subst ht;refine xEAA (one (Nat.le_refl 1)) fun D hd hk=>?_;refine xAAA (hsz.dr D hd) fun z1 z2 z3=>?_;exact ⟨D,hd,hk,by delta lim;omega,fun hh=>absurd hq hh⟩
  ·have h2:need q (some c)=2:=qput h1 ht;refine xEEEAAA (two h2) fun D init a hd hk ha=>?_;refine xAAA (hsz.dr D hd) fun z1 z2 z3=>?_;have:=z3 a (by rw [ha];simp);exact ⟨D,hd,hk,by delta lim;omega,fun w0=>⟨init,a,ha,by delta lim;omega,by delta lim;omega⟩⟩
 | new =>
  intro h1;have hnf:isFresh q=false:=qnew h1;refine xEAA (one (one1 hnf)) fun D hd hk=>?_;refine xAAA (hsz.dr D hd) fun z1 z2 z3=>?_;exact ⟨D,hd,hk,by omega⟩
 | first =>
  intro h1;have hnf:isFresh q=false:=qnew h1;refine xEAA (one (one1 hnf)) fun D hd hk=>?_;refine xAAA (hsz.dr D hd) fun z1 z2 z3=>?_;exact ⟨D,hd,hk,by omega⟩
 | check =>
  intro h1;have hqn:q=.name:=qchk h1;subst hqn;refine xEEEAAA (two rfl) fun D init a hd hk ha=>?_;refine xAAA (hsz.dr D hd) fun z1 z2 z3=>?_;refine xAAA (hK D hd) fun k1 k2 k3=>?_;rw [ha] at k2;exact ⟨D,init,a,hd,hk,ha,k3 hq init a ha,k2.front,by rw [ha] at z2;simp at z2;omega⟩
end
section
variable {p:Params}{O O' O₁:Store}{n d tb k:Nat}{s x:PS}{c m gs st:Str}{pl:Int}{q:St}{a:Act}{D:PD}
noncomputable def isNew(d:Deed):Bool:=match d with
 | .new | .first=>true
 | _=>false
noncomputable def isPut(d:Deed):Bool:=match d with
 | .put=>true
 | _=>false
theorem dput{d:Deed}(h:(match d with | .put=>true | _=>false)=true):isPut d=true:=by cases d <;> first | rfl | cases h
theorem Ug6{as init:List PA}{a b:PA}(h:as++[a]=init++[b])(hk:a.k=true):b.k=true:=by
 refine xAA (List.append_inj' h (by rfl)) fun w0 e=>?_;cases e;exact hk
set_option tactic.hygienic true in
theorem Ut1(hK:Kq s)(d:Deed):∀ D',(s.deed d c).draft=some D'->D'.closing=false/\KA D'.attrs/\(isNew d=true->∀ init a,D'.attrs=init++[a]->a.k=true)/\(isPut d=true->s.state="attribute name"->∀ init a,D'.attrs=init++[a]->a.k=true):=by
 have same:∀ {s':PS} {d:Deed},s'.draft=s.draft->isNew d=false->isPut d=false->∀ D',s'.draft=some D'->D'.closing=false/\KA D'.attrs/\(isNew d=true->∀ init a,D'.attrs=init++[a]->a.k=true)/\(isPut d=true->s.state="attribute name"->∀ init a,D'.attrs=init++[a]->a.k=true):=by
  intro s' d e h1 h2 D' hD;refine xAAA (hK D' (e▸hD)) fun k1 k2 k3=>?_;exact ⟨k1,k2,fun h=>(by rw [h1] at h;cases h),fun h=>(by rw [h2] at h;cases h)⟩
 have beg:∀ {kd:Str} {d:Deed},isNew d=false->isPut d=false->∀ D',(s.begin kd).draft=some D'->D'.closing=false/\KA D'.attrs/\(isNew d=true->∀ init a,D'.attrs=init++[a]->a.k=true)/\(isPut d=true->s.state="attribute name"->∀ init a,D'.attrs=init++[a]->a.k=true):=by
  intro kd d h1 h2 D' hD;cases hD;exact ⟨rfl,KA.nil,fun h=>(by rw [h1] at h;cases h),fun h=>(by rw [h2] at h;cases h)⟩
 cases d with
 | none=>exact same rfl rfl rfl
 | refer=>exact same rfl rfl rfl
 | start=>exact beg rfl rfl
 | end_=>exact beg rfl rfl
 | comment=>exact beg rfl rfl
 | quit=>exact same rfl rfl rfl
 | lone=>exact same rfl rfl rfl
 | lost =>
  refine same ?_ rfl rfl;show (if (s.state==Qae)=true then _ else _:PS).eof.draft=s.draft;split <;> rfl
 | give =>
  intro D' hD;have:=Ud8.2.2 D' hD;exact same (s':=s) (d:=.give) rfl rfl rfl D' this
 | close =>
  intro D' hD
  exfalso
  have hD:s.closeIt.emitDraft.draft=some D':=hD;have h2:=Ud8.2.2 D' hD;delta PS.emitDraft at hD;rw [h2] at hD;cases hD
 | put =>
  intro D' hD;have hD:(if (s.state==Qad)=true then s.tagName (if c==Qak then "�" else lowerS c) else if (s.state==Qac)=true then s.addName (if c==Qak then "�" else lowerS c) else s.addValue (repl c):PS).draft=some D':=hD;cases hdr:s.draft with
  | none =>
   have hl:∀ f,(s.last' f).draft=none:=fun f=>by delta PS.last';rw [hdr];exact hdr
   exfalso
   split at hD
   ·delta PS.tagName at hD;rw [hdr] at hD;dsimp only at hD;rw [hdr] at hD;cases hD
   ·split at hD
    ·rw [show s.addName (if c==Qak then "�" else lowerS c)=s.last' _ from rfl,hl] at hD;cases hD
    ·rw [show s.addValue (repl c)=s.last' _ from rfl,hl] at hD;cases hD
  | some D =>
   refine xAAA (hK D hdr) fun k1 k2 k3=>?_;have viaLast:∀ f:List PA->PA->PA,(∀ l a,(f l a).k=a.k)->((s.state≠"attribute name"/\∀ l a,(f l a).n=a.n)\/s.state="attribute name")->(s.last' f).draft=some D'->D'.closing=false/\KA D'.attrs/\(isNew .put=true->∀ init a,D'.attrs=init++[a]->a.k=true)/\(isPut .put=true->s.state="attribute name"->∀ init a,D'.attrs=init++[a]->a.k=true):=by
    intro f hk hn hD
    by_cases hne:D.attrs=[]
    ·have e:(s.last' f).draft=some D:=by delta PS.last';rw [hdr];dsimp only;rw [hne];exact hdr
     rw [e] at hD;cases hD;exact ⟨k1,k2,fun h=>(by cases h),fun w0 w0 i a ha=>(by rw [hne] at ha;simp at ha)⟩
    ·refine xEEA (Uhb hne) fun init a ha=>?_;rw [Ua3 hdr ha] at hD;cases hD;refine ⟨k1,?_,fun h=>(by cases h),fun w0 hs i b hb=>?_⟩
     ·rw [ha] at k2;rcases hn with ⟨_,hn⟩ | hs
      ·exact k2.last (hk _ _) (fun w0=>hn _ _)
      ·exact k2.front.snoc (.inl ((hk _ _).trans (k3 hs init a ha)))
     ·exact Ug6 hb ((hk _ _).trans (k3 hs init a ha))
   split at hD
   ·rename_i hs;have hs:=eq_of_beq hs;delta PS.tagName at hD;rw [hdr] at hD;cases hD;exact ⟨k1,k2,fun h=>(by cases h),fun w0 h2=>absurd (hs.symm.trans h2) (by decide)⟩
   ·split at hD
    ·rename_i hs;exact viaLast (fun w0 a=>{ a with n:=a.n++(if c==Qak then Qbs else lowerS c) }) (fun w0 w0=>rfl) (.inr (eq_of_beq hs)) hD
    ·rename_i hs;exact viaLast (fun w0 a=>{ a with v:=a.v++repl c }) (fun w0 w0=>rfl) (.inl ⟨fun e=>hs (by rw [e];rfl),fun w0 w0=>rfl⟩) hD
 | new =>
  intro D' hD;have hD:s.newAttr.draft=some D':=hD;cases hdr:s.draft with
  | none=>delta PS.newAttr at hD;rw [hdr] at hD;dsimp only at hD;rw [hdr] at hD;cases hD
  | some D =>
   refine xAAA (hK D hdr) fun k1 k2 k3=>?_;rw [Uaq hdr] at hD;cases hD;exact ⟨k1,k2.snoc (.inl rfl),fun w0 i b hb=>Ug6 hb rfl,fun h=>(by cases h)⟩
 | first =>
  intro D' hD;have hD:(s.newAttr.addName c).draft=some D':=hD;cases hdr:s.draft with
  | none =>
   have e:s.newAttr=s:=by delta PS.newAttr;rw [hdr]
   rw [e] at hD;delta PS.addName PS.last' at hD;rw [hdr] at hD;dsimp only at hD;rw [hdr] at hD;cases hD
  | some D =>
   refine xAAA (hK D hdr) fun k1 k2 k3=>?_;rw [Uaq hdr] at hD;delta PS.addName at hD;rw [Ua3 (init:=D.attrs) (a:=⟨"","",true⟩) rfl rfl] at hD;cases hD;exact ⟨k1,k2.snoc (.inl rfl),fun w0 i b hb=>Ug6 hb rfl,fun h=>(by cases h)⟩
 | check =>
  intro D' hD;have hD:s.check.draft=some D':=hD;delta PS.check at hD;split at hD
  ·rename_i ht;have hD:(s.last' fun w0 a=>{ a with k:=false }).draft=some D':=hD;cases hdr:s.draft with
   | none=>delta PS.last' at hD;rw [hdr] at hD;dsimp only at hD;rw [hdr] at hD;cases hD
   | some D =>
    refine xAAA (hK D hdr) fun k1 k2 k3=>?_
    by_cases hne:D.attrs=[]
    ·delta PS.isTold at ht;rw [hdr] at ht;dsimp only at ht;rw [hne] at ht;cases ht
    ·refine xEEA (Uhb hne) fun init a ha=>?_;rw [Ua3 hdr ha] at hD;rw [Ugr hdr ha] at ht;cases hD;refine ⟨k1,?_,fun h=>(by cases h),fun h=>(by cases h)⟩;rw [ha] at k2;refine k2.front.snoc (.inr ?_);delta toldP at ht;refine xEAA (List.any_eq_true.mp ht) fun b hb e=>?_;rw [Bool.and_eq_true] at e;exact ⟨b,hb,e.1,eq_of_beq e.2⟩
  ·exact same (s':=s) (d:=.check) rfl rfl rfl D' hD
theorem kq_go(hK:Kq s)(hq:s.state=q.str)(hst:dstat q a=true):Kq (s.goC a c):=by
 refine xAAAAAAA (Uay s a c) fun f1 f2 f3 f4 f5 f6 f7=>?_;have key:∀ s1:PS,s1.draft=s.draft->s1.state=s.state->(s.goC a c).draft=((s1.deed a.deed c).goto a.goal a.again).draft->Kq (s.goC a c):=by
  intro s1 e1 e2 e3 D' hD;have hK1:Kq s1:=fun D hd=>by rw [e2];exact hK D (e1▸hd)
  have hD2:(s1.deed a.deed c).draft=some D':=by
   rw [e3] at hD;delta PS.goto at hD;cases hg:a.goal with
   | none=>rw [hg] at hD;exact hD
   | some g=>rw [hg] at hD;cases ha:a.again <;> rw [ha] at hD <;> exact hD
  refine xAAAA (Ut1 (c:=c) hK1 a.deed D' hD2) fun k1 k2 k3 k4=>?_;refine ⟨k1,k2,fun hs=>?_⟩;rw [f7] at hs;delta dstat at hst;rw [Bool.and_eq_true] at hst;have h2:=hst.2;cases hg:a.goal with
  | none =>
   rw [hg] at hs h2;have hs:s.state="attribute name":=hs;have:=isName q hq hs;subst this;refine k4 ?_ (e2.trans hs);exact dput h2
  | some g =>
   rw [hg] at hs h2;have hs:g="attribute name":=hs;subst hs;refine k3 ?_;dsimp only at h2;rw [Bool.and_eq_true] at h2;have h3:=h2.2;rw [if_pos (by decide)] at h3;cases hd:a.deed <;> rw [hd] at h3 <;> first | rfl | cases h3
 obtain ⟨err,deed,goal,again⟩:=a;cases err with
 | none=>exact key s.nxt rfl rfl rfl
 | some e=>exact key (s.nxt.error e) rfl rfl rfl
set_option tactic.hygienic true in
theorem Uns(hc:c ∈ alph3)(hf:isFresh q=true->c≠"c"):∃ r,(rows3 q).find? (stops (markS c))=some r/\RowOk q c (act q c) r:=by
 have h:=chk_of hc q hf;unfold chk at h;cases hr:(rows3 q).find? (stops (markS c)) with
 | none=>rw [hr] at h;cases h
 | some r =>
  rw [hr] at h;dsimp only at h;refine ⟨r,rfl,?_⟩;revert h
  generalize act q c=a
  intro h;simp only [Bool.and_eq_true] at h;refine xAA h fun qz1 h6=>?_;obtain ⟨⟨⟨⟨h1,h2⟩,h3⟩,h4⟩,h5⟩:=qz1;refine ⟨?_,eq_of_beq h3,fun e=>?_,?_,?_,h4⟩
  ·cases he:a.err with
   | none=>rw [he] at h1;exact .inl ⟨rfl,eq_of_beq h1⟩
   | some e=>rw [he] at h1 h2;exact .inr ⟨e,rfl,eq_of_beq h1,by simpa using h2⟩
  ·rw [e] at h5;exact eq_of_beq h5
  ·cases hg:a.goal with
   | none =>
    rw [hg] at h6;simp only [Bool.and_eq_true] at h6;exact .inl ⟨rfl,eq_of_beq h6.1.1,by simpa using h6.1.2⟩
   | some g =>
    rw [hg] at h6;simp only [Bool.and_eq_true] at h6;refine xAA h6 fun qz1 g5=>?_;obtain ⟨⟨⟨g1,g2⟩,g3⟩,g4⟩:=qz1;refine .inr ⟨g,rfl,by simpa using g1,Nat.le_of_ble_eq_true g2,eq_of_beq g4,?_⟩;rw [eq_of_beq g4];split
    ·rename_i ha;rw [if_pos ha] at g5;exact (eq_of_beq g5).symm
    ·rename_i ha;rw [if_neg ha] at g5;exact (eq_of_beq g5).symm
  ·cases hg:a.goal with
   | none =>
    rw [hg] at h6;simp only [Bool.and_eq_true] at h6;have:=h6.2;simp only [bne_iff_ne,ne_eq] at this
    simpa using this
   | some g =>
    rw [hg] at h6;simp only [Bool.and_eq_true] at h6;have g3:=eq_of_beq h6.1.1.2;skip;cases ha:a.again <;> rw [ha] at g3 <;> simpa using g3
end
noncomputable def snapV(s:PS):V:=.tup [.str s.state,.int s.pos,.lst s.out,.lst s.errs,tokS s,.str s.last,.str s.back]
theorem Ujl:codes3.all (fun n=>okL.contains n)=true:=by kernel_rfl
theorem Ucq{c:Str}(hc:c ∈ alph3):okSign c:=by
 rcases List.mem_cons.mp hc with rfl | hc
 ·exact .inl rfl
 ·refine xEAA (List.mem_map.mp hc) fun n hn qz1=>?_;subst qz1;exact .inr ⟨n,by simpa using List.all_eq_true.mp Ujl n hn,rfl⟩
section
variable {p:Params}{O O' O₁:Store}{n d tb k:Nat}{s x:PS}{c m gs st:Str}{pl:Int}{q:St}{a:Act}{D:PD}{fr:Fr}
theorem Umn(h:NS O n s)(hT:TB O tb)(sh:ShG tb n c pl m fr):testL (P p) (callK (P p) d) (sc__law_go p) 57 (st__law_go_l0 p) fr O=some ((ofStr s.state).isSome&&s.pos==pl,O):=by
 have key:(bnd (bnd (look (itemV (.ref 16 n) (.str Qy))) fun x5=>bnd (look (cmpV .In x5 (.ref 13 tb))) fun x6=>(cond x6
   (bnd (look (itemV (.ref 16 n) (.str Qt))) fun x7=>bnd (look (cmpV .Eq x7 (.int pl))) fun x8=>(cond x8 (ret (Fl.ret (.bool true))) (ret (.ret (.bool false)))))
   (ret (.ret (.bool false))))) unB) O=some ((ofStr s.state).isSome&&s.pos==pl,O):=by
  refine xEAA hT fun rv hT w0=>?_;have hin:cmpV .In (.str s.state) (.ref 13 tb) O=some (ofStr s.state).isSome:=by
   refine (Uj5 hT).trans ?_;rw [Ugi];delta ofStr;cases allSt.find? fun q=>q.str==s.state <;> rfl
  refine ba_of (a:=.str s.state) (O₁:=O) (by delta look;rw [h.item_state]) ?_;refine ba_of (a:=(ofStr s.state).isSome) (O₁:=O) (by delta look;rw [hin]) ?_;cases (ofStr s.state).isSome with
  | false=>rfl
  | true =>
   show bnd (bnd (look (itemV (.ref 16 n) (.str Qt))) _) unB O=_;refine ba_of (a:=.int s.pos) (O₁:=O) (by delta look;rw [h.item_at]) ?_;refine ba_of (a:=s.pos==pl) (O₁:=O) rfl ?_;cases s.pos==pl <;> rfl
 rcases sh with rfl | ⟨a,b,e,rfl⟩
 ·rw [Ues];exact key
 ·rw [Uej];exact key
theorem Uml(hq:s.state=q.str):fresh s->isFresh q=true:=fun h=>by
 delta fresh at h;rw [hq] at h;rcases h with h | h
 ·rw [St.inj (q':=.tagOpen) h];rfl
 ·rw [St.inj (q':=.endOpen) h];rfl
theorem Ut2{r:Row}(sh:ShG tb n c x.pos m fr)(h:NS O n x)(hT:TB O tb)(hq:x.state=q.str)(hr:(rows3 q).find? (stops m)=some r)(ho:RowOk q c (act q c) r)(hp:∀ e,DPre (act q c).deed { x.nxt with errs:=e })(hc:c ∈ alph3)(hdn:x.done=false)(hout:x.out.length+3 < lim)(he:x.errs.length+2 < lim)
  (hf:∀ g,(act q c).goal=some g->fresh { x with state:=g }->fresh x) :
  Run (turnL (P p) (callK (P p) (d+4)) (sc__law_go p) 57 (st__law_go_l0 p) fr) O (Turn O tb n c x.pos m (x.goC (act q c) c)):=by
 rcases sh with rfl | ⟨a,b,e,rfl⟩
 ·exact Uo6 h hT hq hr ho hp hc hdn hout he hf
 ·exact Uol h hT hq hr ho hp hc hdn hout he hf
theorem Upi(hc:c ∈ alph3):∀ (j:Nat) (s:PS) (q:St) (k:Nat) (O:Store) (fr:Fr) (f:Nat),s.state=q.str->ends j q c=true->Inv k s (some c)->Kq s->s.done=false->(isFresh q=true->c≠"c")->k+j<=150->NS O n s->TB O tb->ShG tb n c s.pos (markS c) fr->j < f ->
  Run (loopW (testL (P p) (callK (P p) (d+4)) (sc__law_go p) 57 (st__law_go_l0 p)) (turnL (P p) (callK (P p) (d+4)) (sc__law_go p) 57 (st__law_go_l0 p)) f fr) O (Turn O tb n c s.pos (markS c) (adv j s c))
 | 0,s,q,k,O,fr,f,hq,he,_,_,_,_,_,_,_,_,_=>by cases he
 | j+1,s,q,k,O,fr,f,hq,he,hI,hK,hdn,hcf,hk,hN,hT,sh,hf=>by
  obtain ⟨f,rfl⟩:∃ g,f=g+1:=⟨f - 1,((Nat.sub_add_cancel (Nat.lt_of_le_of_lt (Nat.zero_le _) hf)).symm)⟩
  obtain ⟨f,rfl⟩:∃ g,f=g+1:=⟨f - 1,((Nat.sub_add_cancel (Nat.lt_of_le_of_lt (Nat.zero_le _) (Nat.lt_of_succ_lt_succ hf))).symm)⟩
  have ho:ofStr s.state=some q:=by rw [hq,Uai]
  refine xEAA (Uns hc hcf) fun r hr hro=>?_;have hp:=Ut6 hI hq hK hro.st (Nat.le_of_add_right_le hk);have hst2:=Ud7 q c;have hsz:=hI.sz;have hfr:∀ g,(act q c).goal=some g->fresh { s with state:=g }->fresh s:=fun g hg hh=>by
   have h2:=hro.st;unfold dstat at h2;rw [hg,Bool.and_eq_true] at h2;have h2:=h2.2;dsimp only at h2;rw [Bool.and_eq_true,Bool.and_eq_true] at h2;rcases hh with hh | hh
   ·have hh:g="tag open":=hh;subst hh;exact absurd h2.1.1 (by decide)
   ·have hh:g="end tag open":=hh;subst hh;have h3:=h2.1.2;rw [if_pos (by decide)] at h3;have e:=qlone (Bool.and_eq_true_iff.mp h3).1;subst e;exact .inl hq
  have hturn:=Ut2 (p:=p) (d:=d) (O:=O) sh hN hT hq hr hro hp hc hdn (by have:=hsz.out;delta lim;exact om321 hk this) (by have:=hsz.errs;delta lim;exact om319 hk this) hfr;have hinv:=inv_go hI hq (ok_len (Ucq hc));have hkq:=kq_go (c:=c) hK hq hro.st;rw [loopW];refine Run.b (Umn hN hT sh) ?_;rw [ho];have hpp:(s.pos==s.pos)=true:=by simp
  rw [hpp];refine Run.pos rfl (Run.c hturn fun fl O1 qq=>xEAAAA qq fun fr' e1 sh1 hN1 g1=>?_);subst e1;rw [adv,ho];dsimp only;rw [ends] at he;have hfacts:=Uay s (act q c) c;have hdst:=hro.st;revert hst2 hinv hkq he hfacts hN1 hdst
  generalize act q c=a
  intro he hst2 hinv hkq hN1 hfacts hdst;refine xAAAAAAA hfacts fun f1 f2 f3 f4 f5 f6 f7=>?_;have stopped:(ofStr (s.goC a c).state=none\/(s.goC a c).pos≠s.pos)->Run (loopW (testL (P p) (callK (P p) (d+4)) (sc__law_go p) 57 (st__law_go_l0 p)) (turnL (P p) (callK (P p) (d+4)) (sc__law_go p) 57 (st__law_go_l0 p)) (f+1) fr') O1 (Turn O tb n c s.pos (markS c) (s.goC a c)):=by
   intro h;rw [loopW];refine Run.b (Umn hN1 (hT.gx g1) sh1) ?_;have e:((ofStr (s.goC a c).state).isSome&&(s.goC a c).pos==s.pos)=false:=by
    rcases h with h | h
    ·rw [h];rfl
    ·rw [beq_eq_false_iff_ne.mpr h,Bool.and_false]
   rw [e];exact Run.neg Bool.false_ne_true (Run.next ⟨fr',rfl,sh1,hN1,g1⟩)
  cases ha:a.again with
  | false =>
   rw [if_neg Bool.false_ne_true];exact stopped (.inr (by rw [f6,ha];simp;omega))
  | true =>
   rw [if_pos rfl];dsimp only at hst2;rw [ha] at hst2 he;simp only [Bool.not_true,Bool.false_or,Bool.and_eq_true,Bool.not_eq_true'] at hst2 he;refine xEA (Option.isSome_iff_exists.mp hst2.1) fun g hg=>?_;rw [hg] at he f7;have f7:(s.goC a c).state=g:=f7;cases hog:ofStr g with
   | none =>
    have e:adv j (s.goC a c) c=s.goC a c:=Ubt j (by rw [f7];exact hog);rw [e];exact stopped (.inl (by rw [f7];exact hog))
   | some q' =>
    simp only [hog] at he;have hpos:(s.goC a c).pos=s.pos:=by rw [f6,ha,hst2.1];rfl
    have hq':(s.goC a c).state=q'.str:=by rw [f7];exact Uan hog
    have hnf:isFresh q'=true->c≠"c":=fun hfq=>by
     exfalso
     delta dstat at hdst;rw [hg,Bool.and_eq_true] at hdst;have h2:=hdst.2;dsimp only at h2;rw [Bool.and_eq_true,Bool.and_eq_true] at h2;have hgs:=Uan hog;cases q' <;> first
      | (rw [hgs] at h2;exact absurd h2.1.1 (by decide))
      | (rw [hgs,ha] at h2;have h3:=h2.1.2;rw [if_pos (by decide),Bool.not_true,Bool.and_false] at h3;cases h3)
      | cases hfq
    have hinv':Inv (k+1) (s.goC a c) (some c):=by
     have:=hinv (.inr ha);rw [if_pos ha] at this;exact this
    have:=Upi hc j (s.goC a c) q' (k+1) O1 fr' (f+1) hq' he hinv' hkq (by rw [f5,hdn,hst2.2];rfl) hnf (Nat.le_trans (Nat.le_of_eq (Nat.succ_add _ _)) hk) hN1 (hT.gx g1) (by rw [hpos];exact sh1) (Nat.succ_lt_succ_iff.mp hf);rw [hpos] at this;exact this.mono fun fl O2 qq=>xEAAAA qq fun fr2 e2 sh2 hN2 g2=>⟨fr2,e2,sh2,hN2,g1.trans g2⟩
theorem go_out(h:NS O n s)(hl:∀ D,s.draft=some D->D.attrs.length < 190)(sh:ShG tb n c pl m fr):RF (J__law_go_0 p (callK (P p) (d+4)) fr) O fun v O'=>v=snapV s/\O'=O:=by
 have key:RF (bnd (look (itemV (.ref 16 n) (.str Qy))) fun x29=>bnd (look (itemV (.ref 16 n) (.str Qt))) fun x30=>bnd (look (itemV (.ref 16 n) (.str Qau))) fun x31=>bnd (builtinV .list [x31]) fun x32=>bnd (look (itemV (.ref 16 n) (.str Qab))) fun x33 =>
   bnd (builtinV .list [x33]) fun x34=>bnd (callK (P p) (d+4) a__law_token [.ref 16 n]) fun x35=>bnd (look (itemV (.ref 16 n) (.str Qi))) fun x36=>bnd (look (itemV (.ref 16 n) (.str Qbe))) fun x37=>ret (.ret (.tup [x29,x30,x32,x34,x35,x36,x37]))) O fun v O'=>v=snapV s/\O'=O:=by
  obtain ⟨ν,kd,cl,ws,ts,rfl,h,hD,hq⟩:=h;have lst:∀ {r i:Nat} {vs:List V},O.get r i=some (.list vs)->builtinV .list [.ref r i] O=some (.lst vs,O):=fun h=>by
   exact bi_of (ob_of (f:=fun vs=>some (V.lst vs)) (z:=none) (asl_of h))
  exact RF.l (Ugg h) (RF.l (n_at h) (RF.l (n_out h) (RF.b (lst h.out) (RF.l (n_err h) (RF.b (lst h.err) (RF.b (Ujs h hD hl) (RF.l (n_last h) (RF.l (n_back h) (RF.r ⟨rfl,rfl⟩)))))))))
 rcases sh with rfl | ⟨a,b,e,rfl⟩
 ·rw [Uf6];exact key
 ·rw [Uf7];exact key
theorem adv_sz(n:Nat):∀ (s:PS) (k:Nat),Sz k s->c.length<=1->Sz (k+n) (adv n s c):=by
 induction n with
 | zero=>intro s k h _;exact h
 | succ n ih =>
  intro s k h hc;rw [adv];cases ofStr s.state with
  | none=>exact h.mono (by omega)
  | some q =>
   dsimp only;have h1:=goC_sz h (act q c) hc;split
   ·rw [show k+(n+1)=k+1+n by omega];exact ih _ _ h1 hc
   ·exact h1.mono om13
theorem Umy(h:NS O n s)(hT:TB O tb)(hc:c ∈ alph3)(hI:ofStr s.state=none\/Inv k s none)(hz:Sz k s)(hK:Kq s)(hdn:s.done=false)(hcf:fresh s->c≠"c")(hk:k<=140) :
  Run (callK (P p) (d+5) a__law_go [.ref 13 tb,.ref 16 n,.str c]) O fun v O'=>v=snapV (adv 4 s c)/\NS O' n (adv 4 s c)/\Gx O O':=by
 rw [Uo5];show RF _ O _;delta F__law_go;refine RF.l h.item_at (RF.b (Uth hc) ?_);have hl:∀ D,(adv 4 s c).draft=some D->D.attrs.length < 190:=fun D e=>by
  have:=((adv_sz 4 s k hz (ok_len (Ucq hc))).dr D e).2.1;exact Nat.lt_of_le_of_lt (Nat.le_trans this (Nat.add_le_add_right hk 4)) (by decide)
 have loop:Run (loopW (testL (P p) (callK (P p) (d+4)) (sc__law_go p) 57 (st__law_go_l0 p)) (turnL (P p) (callK (P p) (d+4)) (sc__law_go p) 57 (st__law_go_l0 p)) 5000 (frB tb n c s.pos (markS c) [])) O (Turn O tb n c s.pos (markS c) (adv 4 s c)):=by
  cases ho:ofStr s.state with
  | none =>
   rw [Ubt 4 ho];show Run (loopW _ _ (4999+1) _) O _;rw [loopW];refine Run.b (Umn h hT (.inl rfl)) ?_;rw [ho];exact Run.neg Bool.false_ne_true (Run.next ⟨_,rfl,.inl rfl,h,Gx.rfl⟩)
  | some q =>
   have hq:=Uan ho;have hI':Inv k s none:=by
    rcases hI with e | e
    ·rw [ho] at e;cases e
    ·exact e
   exact Upi hc 4 s q k O _ 5000 hq (Ud0 (Ucq hc)) hI'.weak hK hdn (fun hf=>hcf ((qfr hf).imp (fun e=>hq.trans (congrArg St.str e)) fun e=>hq.trans (congrArg St.str e))) (by omega) h hT (.inl rfl) (by decide)
 refine RF.c loop fun fl O1 qq=>xEAAAA qq fun fr e1 sh hN g1=>?_;subst e1;exact (go_out (d:=d) hN hl sh).mono fun v O2 qq=>xAA qq fun e e2=>⟨e,by rw [e2];exact hN,by rw [e2];exact g1⟩
end
section
variable {x y z:Str}
end
noncomputable def nl:List Nat->List Nat
 | []=>[]
 | c::r=>if c=13 then 10::(match r with
  | []=>[]
  | d::r'=>if d=10 then nl r' else nl (d::r')) else c::nl r
theorem Ugs:∀ (n:Nat) (l:List Nat),l.length<=n->(rep [13,10] [10] n l).map (fun c=>if c=13 then 10 else c)=nl l
 | 0,l,h=>by
  have:l=[]:=List.length_eq_zero_iff.mp (om8 h);subst this;rfl
 | n+1,[],h=>rfl
 | n+1,[c],h=>by
  rw [rep];show List.map _ (if ([c]==[13,10])=true then _ else c::rep [13,10] [10] n [])=_;rw [if_neg (by simp)];have e:rep [13,10] [10] n []=[]:=by cases n <;> rfl
  rw [e];delta nl
  by_cases hc:c=13
  ·subst hc;rfl
  ·simp [hc,nl]
 | n+1,c::d::r,h=>by
  rw [List.length_cons,List.length_cons] at h;rw [rep];show List.map _ (if ([c,d]==[13,10])=true then [10]++rep [13,10] [10] n r else c::rep [13,10] [10] n (d::r))=_;unfold nl
  by_cases hc:c=13
  ·subst hc
   by_cases hd:d=10
   ·subst hd;rw [if_pos (by decide),if_pos rfl];show 10::List.map _ (rep [13,10] [10] n r)=_;rw [Ugs n r (om12 h)]
    rfl
   ·rw [if_neg (by simp [hd]),if_pos rfl];show 10::List.map _ (rep [13,10] [10] n (d::r))=_;rw [Ugs n (d::r) (by rw [List.length_cons];exact om2 h)];simp [hd]
  ·rw [if_neg (by simp [hc]),if_neg hc,List.map_cons,if_neg hc,Ugs n (d::r) (by rw [List.length_cons];exact om2 h)]
theorem Ugc:∀ (n:Nat) (l:List Nat),l.length<=n->feedL false l=(nl l).map ch
 | 0,l,h=>by
  have:l=[]:=List.length_eq_zero_iff.mp (om8 h);subst this;rfl
 | n+1,[],h=>rfl
 | n+1,[c],h=>by
  unfold nl
  by_cases hc:c=13
  ·subst hc;rfl
  ·simp [feedL,hc,nl]
 | n+1,c::d::r,h=>by
  rw [List.length_cons,List.length_cons] at h;unfold nl
  by_cases hc:c=13
  ·subst hc;rw [if_pos rfl]
   by_cases hd:d=10
   ·subst hd;show Qbp::([]++feedL false r)=ch 10::(nl r).map ch;rw [List.nil_append,Ugc n r (om12 h)]
    rfl
   ·have e:feedL true (d::r)=feedL false (d::r):=by simp [feedL,hd]
    show Qbp::feedL true (d::r)=_;rw [e,Ugc n (d::r) (by rw [List.length_cons];exact om2 h)];simp [hd]
    rfl
  ·rw [if_neg hc,List.map_cons,<- Ugc n (d::r) (by rw [List.length_cons];exact om2 h)];have e1:(c==13)=false:=beq_eq_false_iff_ne.mpr hc;show (if (c==13)=true then _ else if (c != 10||!false)=true then [ch c] else [])++feedL (c==13) (d::r)=_;rw [e1];simp
section
variable {p:Params}{O O' O₁:Store}{n d:Nat}{x:Str}
theorem Ugb(hx:∀ c ∈ x.cps.toList,c < 0x110000)(hl:x.length<=lim):∃ y:Str,callK (P p) (d+1) a__law_newlines [.str x] O=some (.str y,O)/\y.cps.toList=nl x.cps.toList:=by
 refine ⟨Txt.replace (Txt.replace x Qcj Qap) Qcd Qap,?_,?_⟩
 ·rw [Ufz];delta F__law_newlines;have m:∀ y:Str,look (methK (P p) (.str y) Qcv) O=some (.bi .replace,O):=fun y=>by kernel_rfl
  have hm:∀ c ∈ (Txt.replace x Qcj Qap).cps.toList,c < 0x110000:=fun c hc=>by
   rw [Ubx _ _ _ (by decide)] at hc;rcases Ukm _ _ _ _ c hc with h | h
   ·exact hx c h
   ·rw [show (Qap.cps.toList)=[10] from rfl,List.mem_singleton] at h;exact om20 h
  have hl2:(Txt.replace x Qcj Qap).length<=lim:=by
   have e:=Ubx x Qcj Qap (by decide);have:=Uj7 Qcj.cps.toList Qap.cps.toList (by decide) x.length x.cps.toList;rw [<- e] at this;have e1:(Txt.replace x Qcj Qap).cps.toList.length=(Txt.replace x Qcj Qap).length:=by rfl
   have e2:x.cps.toList.length=x.length:=by rfl
   exact om50 hl this e1 e2
  refine ba_of (m x) ?_;show bnd (bnd (replS (.str x) _ _) _) unFl O=_;refine ba_of (Uph _ _ (by decide) (by decide) (by decide) (by decide) hx (fun c h=>by rw [show (Qap.cps.toList)=[10] from rfl,List.mem_singleton] at h;exact om20 h) hl) ?_;refine ba_of (m _) ?_;show bnd (bnd (replS (.str _) _ _) _) unFl O=_;refine ba_of (Uph _ _ (by decide) (by decide) (by decide) (by decide) hm (fun c h=>by rw [show (Qap.cps.toList)=[10] from rfl,List.mem_singleton] at h;exact om20 h) hl2) ?_
  rfl
 ·rw [Ubx _ _ _ (by decide),show (Qcd.cps.toList)=[13] from rfl,show (Qap.cps.toList)=[10] from rfl,Upq _ _ _ _ (by simp [Str.length]),Ubx _ _ _ (by decide)];exact Ugs x.length x.cps.toList (by simp [Str.length])
theorem mul_of{O:Store}{i m:Int}(h:i.natAbs < 1000000/\m.natAbs < 1000000):binV .Mult (.int i) (.int m) O=some (.int (i*m)):=by
 show (if i.natAbs < 1000000/\m.natAbs < 1000000 then some (V.int (i*m)) else none)=_;exact if_pos h
noncomputable def num(ns:List Int)(i:Nat):Int:=(if h:i < ns.length then ns[i] else 37*(i:Int)).fmod 1000000007
theorem Ug3(ns:List Int)(i:Nat)(hi:i < 1000):callK (P p) (d+1) a__law_number [.lst (ns.map .int),.int i] O=some (.int (num ns i),O):=by
 rw [Uhc];delta F__law_number num;rw [Uam,bnd_of (a:=.int (ns.length:Int)) (O₁:=O) (by show some (V.int ((ns.map V.int).length:Int),O)=_;rw [List.length_map]),Uam,bnd_of (a:=decide ((i:Int) < (ns.length:Int))) (O₁:=O) rfl]
 by_cases h:i < ns.length
 ·rw [decide_eq_true ((om51 h):(i:Int) < (ns.length:Int)),dif_pos h];simp only [reduceIte];rw [Uam,bnd_of (a:=.int ns[i]) (O₁:=O) (by delta look;rw [item_at (vs:=ns.map V.int) rfl (fun w0 e=>by cases e) (v:=.int ns[i]) (by rw [List.getElem?_map,List.getElem?_eq_getElem h];rfl)])];rw [Uam,bnd_of (a:=.int (ns[i].fmod 1000000007)) (O₁:=O) rfl]
  rfl
 ·rw [decide_eq_false ((om52 h):¬ (i:Int) < (ns.length:Int)),dif_neg h];simp only [Bool.false_eq_true,if_false];have hm:look (binV .Mult (.int 37) (.int i)) O=some (.int (37*(i:Int)),O):=by
   delta look;rw [mul_of ⟨by decide,(Nat.lt_of_lt_of_le hi (by decide))⟩]
  rw [Uam,bnd_of hm,Uam,bnd_of (a:=.int ((37*(i:Int)).fmod 1000000007)) (O₁:=O) rfl]
  rfl
end
noncomputable def headsC:List Nat:=[97,47,90,33,65,63,122,62,64,91,96,123,0,60,47,98]
noncomputable def poolC:List Nat:=[32,97,61,34,47,66,39,60,90,0,62,96,61,13,97,65,38,10,122,8490,9,98,12,33]
noncomputable def tailC:List Nat:=(Y "Ab A=\"/\"/a = \x00c'").cps.toList
noncomputable def drawnC(ns:List Int):List Nat:=((ns.drop 1).take 2).map (pickC headsC 16)++((ns.drop 3).take 14).map (pickC poolC 24)
noncomputable def textC(ns:List Int):List Nat:=drawnC ns++tailC.drop (drawnC ns).length
section
variable {p:Params}{O O' O₁:Store}{n d:Nat}{x:Str}
theorem Uso(ns:List Int):∃ x:Str,callK (P p) (d+1) a__law_text [.lst (ns.map .int)] O=some (.str x,O)/\x.cps.toList=textC ns:=by
 have l1:((ns.drop 1).take 2).length<=2:=List.length_take_le _ _;have l2:((ns.drop 3).take 14).length<=14:=List.length_take_le _ _;have l3:(drawnC ns).length<=16:=by delta drawnC;rw [List.length_append,List.length_map,List.length_map];exact Nat.add_le_add l1 l2
 refine ⟨joinS ((drawnC ns).map ch)++⟨(tailC.drop (drawnC ns).length).toArray⟩,?_,?_⟩
 ·rw [Uky]
  suffices H:RF (F__law_text p (callK (P p) d) (.lst (ns.map .int))) O fun v O'=>v=.str (joinS ((drawnC ns).map ch)++⟨(tailC.drop (drawnC ns).length).toArray⟩)/\O'=O by
   refine xEEAAA H fun v O' e qz1 qz2=>?_;subst qz1;subst qz2;exact e
  delta F__law_text;have s1:sliceV (.lst (ns.map .int)) (some (.int 1)) (some (.int 3)) O=some (.lst (((ns.drop 1).take 2).map .int)):=by
   show some (V.lst (sliceL (some ((1:Nat):Int)) (some ((3:Nat):Int)) (ns.map .int)))=_;rw [Uey 1 3 _ (by decide),<- List.map_drop,<- List.map_take]
  have s2:sliceV (.lst (ns.map .int)) (some (.int 3)) (some (.int 17)) O=some (.lst (((ns.drop 3).take 14).map .int)):=by
   show some (V.lst (sliceL (some ((3:Nat):Int)) (some ((17:Nat):Int)) (ns.map .int)))=_;rw [Uey 3 17 _ (by decide),<- List.map_drop,<- List.map_take]
  have s3:sliceV (.str (Y "Ab A=\"/\"/a = \x00c'")) (some (.int ((drawnC ns).map fun c=>V.str (ch c)).length)) none O=some (.str ⟨(tailC.drop (drawnC ns).length).toArray⟩):=by
   show some (V.str ⟨(sliceL (some (((drawnC ns).map fun c=>V.str (ch c)).length:Int)) none tailC).toArray⟩)=_;rw [Uht,List.length_map]
  refine RF.b1 (RF.b1 (RF.l s1 (RF.b (Ujx headsC 16 (by decide) rfl _ (by omega)) (RF.l s2 (RF.b (Ujx poolC 24 (by decide) rfl _ (by omega)) (RF.l (a:=.lst ((drawnC ns).map fun c=>V.str (ch c))) ?_ ?_))))))
  ·show (if _ then some (V.lst (_++_)) else none)=_;rw [if_pos (by simp only [List.length_map];delta lim;exact Nat.le_trans (Nat.add_le_add l1 l2) (by decide)),<- List.map_append]
   rfl
  ·refine RF.ms (id:=.join) (by kernel_rfl) (by decide) (RF.b (Utc _ (by omega)) (RF.b (a:=.int ((drawnC ns).map fun c=>V.str (ch c)).length) (O₁:=O) rfl (RF.l s3 (RF.l (add_str ?_) (RF.r ⟨rfl,rfl⟩)))));have e1:(joinS ((drawnC ns).map ch)).length=(drawnC ns).length:=by
    have:=congrArg List.length (Unj (drawnC ns))
    simpa [Str.length] using this
   have e2:(⟨(tailC.drop (drawnC ns).length).toArray⟩:Str).length=16 - (drawnC ns).length:=by
    show (tailC.drop (drawnC ns).length).toArray.size=_;simp only [List.size_toArray,List.length_drop]
    rfl
   rw [e1,e2];delta lim;exact Nat.le_trans (Nat.le_of_eq (Nat.add_sub_cancel' l3)) (by decide)
 ·show (_++_:Array Nat).toList=_;rw [Array.toList_append,Unj]
  rfl
end
noncomputable def rowsL(q:St):List V:=(rows3 q).map rowV
section
variable {p:Params}{O O' O₁ O0:Store}{n d i:Nat}{x:Str}{Q:V->Store->Prop}{k:V->M Fl}{vs ws:List V}{v:V}{c:CC}
theorem RF.nl12(hlen:O.length=24)(g:∀ i O',Grow O O'->O.get 12 i=none->O'.get 12 i=some (.list vs)->RF (k (.ref 12 i)) O' Q):RF (bnd (newL 12 vs) k) O Q:=by
 refine xEA (reg_of hlen (by decide:12 < 24)) fun l hl=>?_;exact RF.b (Uh0 hl) (g l.length _ ⟨Uau,fun r' i' o e=>Ubg hl e⟩ (Ufa hl) (Ua1 hl))
theorem RF.nd13{es:List (Str×V)}(hlen:O.length=24)(g:∀ i O',Grow O O'->O.get 13 i=none->O'.get 13 i=some (.dict es)->RF (k (.ref 13 i)) O' Q):RF (bnd (newD 13 es) k) O Q:=by
 refine xEA (reg_of hlen (by decide:13 < 24)) fun l hl=>?_;exact RF.b (Uhp hl) (g l.length _ ⟨Uau,fun r' i' o e=>Ubg hl e⟩ (Ufa hl) (Ua1 hl))
theorem Grow.put12{o o':Ob}(K:Grow O0 O)(hn:O0.get 12 i=none)(h:O.get 12 i=some o'):Grow O0 (O.put 12 i o) :=
 ⟨Uah.trans K.len,fun r' i' o'' e=>by
  rw [Store.get_put h,if_neg]
  ·exact K.keep _ _ _ e
  ·rintro ⟨rfl,rfl⟩;rw [hn] at e;cases e⟩
theorem RF.ap(K:Grow O0 O)(hn:O0.get 12 i=none)(h:O.get 12 i=some (.list vs))(hl:Nat.ble (vs.length+1) 100=true)(g:∀ O',Grow O0 O'->O'.get 12 i=some (.list (vs++[v]))->RF (k .none) O' Q) :
  RF (bnd (look (methK (P p) (.ref 12 i) Qx)) fun m=>if isRepl m then fail else bnd (methodV c m (.ref 12 i) [v]) k) O Q :=
 RF.app h (RF.b (Uag h (by have:=Nat.le_of_ble_eq_true hl;delta lim;omega)) (g _ (K.put12 hn h) (Uae h)))
theorem RF.ex(K:Grow O0 O)(hn:O0.get 12 i=none)(h:O.get 12 i=some (.list vs))(hl:Nat.ble (vs.length+ws.length+1) 100=true)(g:∀ O',Grow O0 O'->O'.get 12 i=some (.list (vs++ws))->RF (k .none) O' Q) :
  RF (bnd (look (methK (P p) (.ref 12 i) Qbn)) fun m=>if isRepl m then fail else bnd (ret (V.lst ws)) fun y=>bnd (methodV c m (.ref 12 i) [y]) k) O Q :=
 RF.ext h (RF.b1 (RF.b (ext_of h rfl (by have:=Nat.le_of_ble_eq_true hl;delta lim;omega)) (g _ (K.put12 hn h) (Uae h))))
theorem Uq0(hlen:O.length=24):Run (callK (P p) (d+1) a__law_tags []) O fun v O'=>∃ tb i1 i2 i3 i4,v=.ref 13 tb/\Grow O O'/\O'.get 13 tb=some (.dict [(Qae,.ref 12 i1),(Qbg,.ref 12 i2),(Qad,.ref 12 i3),(Qbc,.ref 12 i4)]) /\
  O'.get 12 i1=some (.list (rowsL .tagOpen))/\O'.get 12 i2=some (.list (rowsL .endOpen))/\O'.get 12 i3=some (.list (rowsL .tagName))/\O'.get 12 i4=some (.list (rowsL .self)):=by
 rw [Ukz];show RF _ O _;delta F__law_tags;refine RF.nl12 hlen fun i1 O1 K1 n1 h1=>RF.ap K1 n1 h1 (by rfl) fun O2 K2 h2=>RF.ex K2 n1 h2 (by rfl) fun O3 K3 h3=>?_;refine RF.nl12 (K3.len.trans hlen) fun i2 O4 K4 n4 h4=>RF.ex K4 n4 h4 (by rfl) fun O5 K5 h5=>?_;refine RF.nl12 (K5.len.trans (K3.len.trans hlen)) fun i3 O6 K6 n6 h6=>RF.ex K6 n6 h6 (by rfl) fun O7 K7 h7=>?_;refine RF.nl12 (K7.len.trans (K5.len.trans (K3.len.trans hlen))) fun i4 O8 K8 n8 h8=>RF.ap K8 n8 h8 (by rfl) fun O9 K9 h9=>?_;refine RF.nd13 (K9.len.trans (K7.len.trans (K5.len.trans (K3.len.trans hlen)))) fun tb O10 K10 n10 h10=>RF.r ⟨tb,i1,i2,i3,i4,rfl,K3.trans (K5.trans (K7.trans (K9.trans K10))),h10,?_,?_,?_,?_⟩
 ·exact ((K5.trans (K7.trans (K9.trans K10))).keep _ _ _ h3).trans (by kernel_rfl)
 ·exact ((K7.trans (K9.trans K10)).keep _ _ _ h5).trans (by kernel_rfl)
 ·exact ((K9.trans K10).keep _ _ _ h7).trans (by kernel_rfl)
 ·exact (K10.keep _ _ _ h9).trans (by kernel_rfl)
theorem Uoz(hlen:O.length=24):Run (callK (P p) (d+1) a__law_names []) O fun v O'=>∃ tb i1 i2 i3,v=.ref 13 tb/\Grow O O'/\O.get 13 tb=none/\O'.get 13 tb=some (.dict [(Qav,.ref 12 i1),(Qac,.ref 12 i2),(Qbk,.ref 12 i3)]) /\
  O'.get 12 i1=some (.list (rowsL .befName))/\O'.get 12 i2=some (.list (rowsL .name))/\O'.get 12 i3=some (.list (rowsL .aftName)):=by
 rw [Uiq];show RF _ O _;delta F__law_names;refine RF.nl12 hlen fun i1 O1 K1 n1 h1=>RF.ap K1 n1 h1 (by rfl) fun O2 K2 h2=>?_;refine RF.nl12 (K2.len.trans hlen) fun i2 O4 K4 n4 h4=>RF.ex K4 n4 h4 (by rfl) fun O5 K5 h5=>RF.ap K5 n4 h5 (by rfl) fun O6 K6 h6=>?_;refine RF.nl12 (K6.len.trans (K2.len.trans hlen)) fun i3 O7 K7 n7 h7=>RF.ex K7 n7 h7 (by rfl) fun O8 K8 h8=>?_;refine RF.nd13 (K8.len.trans (K6.len.trans (K2.len.trans hlen))) fun tb O10 K10 n10 h10=>RF.r ⟨tb,i1,i2,i3,rfl,K2.trans (K6.trans (K8.trans K10)),?_,h10,?_,?_,?_⟩
 ·cases h:O.get 13 tb with
  | none=>rfl
  | some o=>have:=(K2.trans (K6.trans K8)).keep _ _ _ h;rw [n10] at this;cases this
 ·exact ((K6.trans (K8.trans K10)).keep _ _ _ h2).trans (by kernel_rfl)
 ·exact ((K8.trans K10).keep _ _ _ h6).trans (by kernel_rfl)
 ·exact (K10.keep _ _ _ h8).trans (by kernel_rfl)
theorem Ul4(hlen:O.length=24):Run (callK (P p) (d+1) a__law_values []) O fun v O'=>∃ tb i1 i2,v=.ref 13 tb/\Grow O O'/\O.get 13 tb=none/\O'.get 13 tb=some (.dict [(Qbu,.ref 12 i1),(Qcq,.lst (rowsL .dq)),
   (Qcr,.lst (rowsL .sq)),(Qcy,.lst (rowsL .bare)),(Qch,.ref 12 i2)]) /\
  O'.get 12 i1=some (.list (rowsL .befVal))/\O'.get 12 i2=some (.list (rowsL .aftVal)):=by
 rw [Uh4];show RF _ O _;delta F__law_values;have al:∀ {s:Store} {i:Nat} {l:List V},s.get 12 i=some (.list l)->asList s (.ref 12 i)=some l:=fun h=>asl_of h;refine RF.nl12 hlen fun i1 O1 K1 n1 h1=>RF.ex K1 n1 h1 (by rfl) fun O2 K2 h2=>RF.ap K2 n1 h2 (by rfl) fun O3 K3 h3=>?_;refine RF.nl12 (K3.len.trans hlen) fun ii O4 K4 n4 h4=>RF.ex K4 n4 h4 (by rfl) fun O5 K5 h5=>?_;refine RF.nl12 (K5.len.trans (K3.len.trans hlen)) fun ib O6 K6 n6 h6=>RF.l (a:=.lst (rowsL .bare)) ((Uj1 (al h6) (al (K6.keep _ _ _ h5)) (fun w0 e=>by cases e) (fun w0 e=>by cases e) (by decide)).trans (by kernel_rfl)) ?_;refine RF.nl12 (K6.len.trans (K5.len.trans (K3.len.trans hlen))) fun i2 O7 K7 n7 h7=>RF.ap K7 n7 h7 (by rfl) fun O8 K8 h8=>RF.ap K8 n7 h8 (by rfl) fun O9 K9 h9=>?_;have h5':=(K6.trans K9).keep _ _ _ h5;refine RF.b1 (RF.l (a:=.lst (rowsL .dq)) ((Uj1 (us:=[_]) rfl (al h5') (fun w0 e=>by cases e) (fun w0 e=>by cases e) (by decide)).trans (by kernel_rfl)) ?_);refine RF.b1 (RF.l (a:=.lst (rowsL .sq)) ((Uj1 (us:=[_]) rfl (al h5') (fun w0 e=>by cases e) (fun w0 e=>by cases e) (by decide)).trans (by kernel_rfl)) ?_);refine RF.nd13 (K9.len.trans (K6.len.trans (K5.len.trans (K3.len.trans hlen)))) fun tb O10 K10 n10 h10=>RF.r ⟨tb,i1,i2,rfl,K3.trans (K5.trans (K6.trans (K9.trans K10))),?_,h10,?_,?_⟩
 ·cases h:O.get 13 tb with
  | none=>rfl
  | some o=>have:=(K3.trans (K5.trans (K6.trans K9))).keep _ _ _ h;rw [n10] at this;cases this
 ·exact ((K5.trans (K6.trans (K9.trans K10))).keep _ _ _ h3).trans (by kernel_rfl)
 ·exact (K10.keep _ _ _ h9).trans (by kernel_rfl)
end
section
variable {p:Params}{O O' O₁ O0:Store}{n d i:Nat}{x:Str}{Q:V->Store->Prop}{k:V->M Fl}{vs ws:List V}{v:V}{c:CC}
noncomputable abbrev frP(ns:List Int)(x:Str)(i a:Nat)(r:Fr):Fr:=(Qj,.lst (ns.map .int))::(Qc,.str x)::(Qo,.ref 11 i)::(Qt,.int a)::r
noncomputable def ShP(ns:List Int)(x:Str)(i a:Nat)(fr:Fr):Prop:=fr=frP ns x i a []\/∃ u w,fr=frP ns x i a [(Qr,u),(Qcz,w)]
noncomputable def flatS(ps:List Str):List Nat:=(ps.map (·.cps.toList)).flatten
structure PiR(O₁ O:Store)(x:Str)(i a:Nat)(ps:List Str):Prop where
 len:O.length=24
 pv:O.get 11 i=some (.list (ps.map .str))
 flat:flatS ps=x.cps.toList.take a
 keep:∀ r,r≠11->O[r]?=O₁[r]?
theorem Uk7{w:V}{ns:List Int}{i a q:Nat}{ps:List Str}(h:PiR O₁ O x i a ps)(hq:q < 1000)(hl:ps.length < 1000) :
  Run (T__law_pieces_l0_0 p (callK (P p) (d+1)) (.lst (ns.map .int)) (.str x) (.ref 11 i) (.int a) (.int q)) O fun fl O'=>∃ fr' a' ps',fl=.next fr'/\ShP ns x i a' fr'/\PiR O₁ O' x i a' ps'/\ps'.length=ps.length+1:=by
 delta T__law_pieces_l0_0;have h0:0<=((num ns q).fdiv 24).fmod 4:=Int.fmod_nonneg_of_pos _ (by decide);refine xEA (Int.eq_ofNat_of_zero_le h0) fun z hz=>?_;have e1:binV .FloorDiv (.int (num ns q)) (.int 24) O=some (.int ((num ns q).fdiv 24)):=div_of ⟨by decide,by decide⟩;have e2:binV .Mod (.int ((num ns q).fdiv 24)) (.int 4) O=some (.int z):=by rw [mod_of (by decide),hz]
 have e3:∀ s:Store,binV .Add (.int a) (.int z) s=some (.int ((a+z:Nat):Int)):=fun s=>rfl;have e4:sliceV (.str x) (some (.int a)) (some (.int ((a+z:Nat):Int))) O=some (.str ⟨((x.cps.toList.drop a).take z).toArray⟩):=by
  show some (V.str ⟨(sliceL (some (a:Int)) (some ((a+z:Nat):Int)) x.cps.toList).toArray⟩)=_;rw [Uey a (a+z) _ (by omega),show a+z - a=z by omega]
 refine Run.b (Ug3 ns q hq) (Run.l e1 (Run.l e2 (Run.app h.pv (Run.l (e3 O) (Run.l e4 (Run.b (Uag h.pv (by rw [List.length_map];delta lim;omega)) (Run.l (e3 _) (Run.next ⟨_,a+z,ps++[⟨((x.cps.toList.drop a).take z).toArray⟩],rfl,.inr ⟨_,_,rfl⟩,⟨Uah.trans h.len,?_,?_,fun r hr=>(Ua9 hr).trans (h.keep r hr)⟩,by simp⟩))))))))
 ·rw [List.map_append];exact Uae h.pv
 ·delta flatS;rw [List.map_append,List.flatten_append,show (ps.map (·.cps.toList)).flatten=flatS ps from rfl,h.flat];simp only [List.map_cons,List.map_nil,List.flatten_cons,List.flatten_nil,List.append_nil];rw [List.take_add]
theorem Ulb{w:V}{ns:List Int}{i a q:Nat}{ps:List Str}(h:PiR O₁ O x i a ps)(hq:q < 1000)(hl:ps.length < 1000) :
  Run (T__law_pieces_l0_1 p (callK (P p) (d+1)) (.lst (ns.map .int)) (.str x) (.ref 11 i) (.int a) (.int q) w) O fun fl O'=>∃ fr' a' ps',fl=.next fr'/\ShP ns x i a' fr'/\PiR O₁ O' x i a' ps'/\ps'.length=ps.length+1:=by
 delta T__law_pieces_l0_1;have h0:0<=((num ns q).fdiv 24).fmod 4:=Int.fmod_nonneg_of_pos _ (by decide);refine xEA (Int.eq_ofNat_of_zero_le h0) fun z hz=>?_;have e1:binV .FloorDiv (.int (num ns q)) (.int 24) O=some (.int ((num ns q).fdiv 24)):=div_of ⟨by decide,by decide⟩;have e2:binV .Mod (.int ((num ns q).fdiv 24)) (.int 4) O=some (.int z):=by rw [mod_of (by decide),hz]
 have e3:∀ s:Store,binV .Add (.int a) (.int z) s=some (.int ((a+z:Nat):Int)):=fun s=>rfl;have e4:sliceV (.str x) (some (.int a)) (some (.int ((a+z:Nat):Int))) O=some (.str ⟨((x.cps.toList.drop a).take z).toArray⟩):=by
  show some (V.str ⟨(sliceL (some (a:Int)) (some ((a+z:Nat):Int)) x.cps.toList).toArray⟩)=_;rw [Uey a (a+z) _ (by omega),show a+z - a=z by omega]
 refine Run.b (Ug3 ns q hq) (Run.l e1 (Run.l e2 (Run.app h.pv (Run.l (e3 O) (Run.l e4 (Run.b (Uag h.pv (by rw [List.length_map];delta lim;omega)) (Run.l (e3 _) (Run.next ⟨_,a+z,ps++[⟨((x.cps.toList.drop a).take z).toArray⟩],rfl,.inr ⟨_,_,rfl⟩,⟨Uah.trans h.len,?_,?_,fun r hr=>(Ua9 hr).trans (h.keep r hr)⟩,by simp⟩))))))))
 ·rw [List.map_append];exact Uae h.pv
 ·delta flatS;rw [List.map_append,List.flatten_append,show (ps.map (·.cps.toList)).flatten=flatS ps from rfl,h.flat];simp only [List.map_cons,List.map_nil,List.flatten_cons,List.flatten_nil,List.append_nil];rw [List.take_add]
theorem Uh9(ns:List Int)(x:Str)(hlen:O.length=24):Run (callK (P p) (d+2) a__law_pieces [.lst (ns.map .int),.str x]) O fun v O'=>∃ ps:List Str,v=.lst (ps.map .str)/\flatS ps=x.cps.toList/\ps.length < 100/\O'.length=24/\(∀ r,r≠11->O'[r]?=O[r]?):=by
 rw [Uh1];show RF _ O _;delta F__law_pieces;refine xEA (reg_of hlen (by decide:11 < 24)) fun l hl=>?_;refine RF.b (Uh0 hl) (RF.b (a:=.rng 1 17 1) (O₁:=O.add 11 (.list [])) ?_ ?_)
 ·refine bi_of ?_;show (if (1:Int).natAbs<=lim/\(17:Int).natAbs<=lim then some (V.rng 1 17 1) else none)=_;rw [if_pos ⟨by decide,by decide⟩]
 refine forRun (fun k fr s=>∃ a ps,ShP ns x l.length a fr/\PiR O s x l.length a ps/\ps.length=k) ((List.range 16).map fun j:Nat=>.int ((j+1:Nat):Int)) ⟨0,[],.inl rfl,⟨Uau.trans hlen,Ua1 hl,by rfl,fun r hr=>Uca hr⟩,rfl⟩ (by decide) (fun k v fr s hv hI=>?_) (fun fr s hI=>?_) fun fr s hI=>?_
 ·refine xEEAAA hI fun a ps sh hP hpl=>?_;clear hI;rw [List.getElem?_map] at hv;refine xEAA (Option.map_eq_some_iff.mp hv) fun j hj qz1=>?_;subst qz1;have hk:k < 16:=by rw [List.getElem?_eq_some_iff] at hj;simpa using hj.1
  have hjk:j=k:=by rw [List.getElem?_range hk] at hj;cases hj;rfl
  subst hjk;refine ⟨?_,?_⟩
  ·rw [Up0,if_pos (by omega),show (1:Int)+(j:Int)*1=((j+1:Nat):Int) by omega]
  ·have fin:∀ {fl:Fl} {s':Store},(∃ fr' a' ps',fl=.next fr'/\ShP ns x l.length a' fr'/\PiR O s' x l.length a' ps'/\ps'.length=ps.length+1) ->
     (∃ fr',fl=.next fr'/\∃ a ps,ShP ns x l.length a fr'/\PiR O s' x l.length a ps/\ps.length=j+1)\/∃ v,fl=.ret v/\∃ ps:List Str,v=.lst (ps.map .str)/\flatS ps=x.cps.toList/\ps.length < 100/\s'.length=24/\(∀ r,r≠11->s'[r]?=O[r]?) :=
    fun qq=>xEEEAAAA qq fun fr' a' ps' e h1 h2 h3=>.inl ⟨fr',e,a',ps',h1,h2,by omega⟩
   rcases sh with rfl | ⟨u,w,rfl⟩
   ·exact ⟨frP ns x l.length a [(Qr,.int ((j+1:Nat):Int))],by rw [Ubi (by kernel_rfl)];kernel_rfl,by rw [Ucy];exact (Uk7 (w:=.none) hP (by omega) (by omega)).mono fun fl s' h=>fin h⟩
   ·exact ⟨frP ns x l.length a [(Qr,.int ((j+1:Nat):Int)),(Qcz,w)],by rw [Ubi (by kernel_rfl)];kernel_rfl,by rw [Ucu];exact (Ulb hP (by omega) (by omega)).mono fun fl s' h=>fin h⟩
 ·rw [Up0,List.length_map,List.length_range,if_neg (by decide)]
 ·obtain ⟨a,ps,sh,hP,hpl⟩:=hI;rw [List.length_map,List.length_range] at hpl;have key:RF (bnd (look (sliceV (.str x) (some (.int a)) none)) fun x19=>bnd (ret (V.lst [x19])) fun x20=>bnd (look (binV .Add (.ref 11 l.length) x20)) fun x21=>ret (.ret x21)) s
    fun v O'=>∃ ps:List Str,v=.lst (ps.map .str)/\flatS ps=x.cps.toList/\ps.length < 100/\O'.length=24/\(∀ r,r≠11->O'[r]?=O[r]?):=by
   refine RF.l (a:=.str ⟨(x.cps.toList.drop a).toArray⟩) ?_ (RF.b1 (RF.l (Uj1 (us:=ps.map .str) (vs:=[.str ⟨(x.cps.toList.drop a).toArray⟩]) (asl_of hP.pv) rfl (fun w0 e=>by cases e) (fun w0 e=>by cases e) (by rw [List.length_map];simp;delta lim;omega)) (RF.r ⟨ps++[⟨(x.cps.toList.drop a).toArray⟩],by rw [List.map_append];rfl,?_,by simp;omega,hP.len,hP.keep⟩)))
   ·show some (V.str ⟨(sliceL (some (a:Int)) none x.cps.toList).toArray⟩)=_;rw [Uht]
   ·delta flatS;rw [List.map_append,List.flatten_append,show (ps.map (·.cps.toList)).flatten=flatS ps from rfl,hP.flat];simp
  rcases sh with rfl | ⟨u,w,rfl⟩
  ·rw [Udt];exact key
  ·rw [Udl];exact key
set_option tactic.hygienic true in
theorem Uka{U:Rf}{s:PS}(h:TP O U s)(hk:∀ D,s.draft=some D->(D.kind="comment"/\s.done=false)\/D.kind="start"\/D.kind="end")(hl:∀ D,s.draft=some D->D.attrs.length < 5000) :
  Run (callK (P p) (d+2) a__law_told [.ref 2 U.i]) O fun v O'=>v=.tup [.str s.state,.int s.pos,.ref 9 U.o,.ref 10 U.e,tokS s,.str s.last,.str s.back]/\TP O' U s/\O'.get 9 U.o=some (.list s.out)/\O'.get 10 U.e=some (.list s.errs)/\Fx O O':=by
 obtain ⟨t,h,hw,rfl⟩:=h;rw [Ukr];show RF _ O _;delta F__law_told;have out:∀ {O2:Store} {tk:V},TR O2 U t->Fx O O2->tk=tokS t.pl->RF (J__law_told_0 p (callK (P p) (d+1)) [(Qd,.ref 2 U.i),(Qp,tk)]) O2 fun v O'=>v=.tup [.str t.pl.state,.int t.pl.pos,.ref 9 U.o,.ref 10 U.e,tokS t.pl,.str t.pl.last,.str t.pl.back]/\TP O' U t.pl/\O'.get 9 U.o=some (.list t.pl.out)/\O'.get 10 U.e=some (.list t.pl.errs)/\Fx O O':=by
  intro O2 tk h2 f2 e;subst e;rw [Uet];delta J__law_told_0_T0;exact RF.b (Ufe h2) (RF.b (ga_at h2) (RF.b (ga_out h2) (RF.b (Ukl h2) (RF.b (Utu h2) (RF.b (Utp h2) (RF.r ⟨rfl,⟨t,h2,hw,rfl⟩,h2.out,h2.err,f2⟩))))))
 refine RF.b (Ubk h) ?_;cases hd:t.draft with
 | none=>exact RF.yesC (by rfl) (out h Fx.rfl (by delta tokS;rw [show t.pl.draft=none by simp [TS.pl,hd]]))
 | some dr =>
  have hpl:t.pl.draft=some dr.pl:=by simp [TS.pl,hd]
  have hkk:=hk dr.pl hpl;have hll:=hl dr.pl hpl;refine RF.noC (by rfl) (RF.b (Ufq h) ?_);show RF (cond t.done _ _) O _;cases hdn:t.done with
  | true =>
   refine RF.ct (out h Fx.rfl ?_);delta tokS;rw [hpl];dsimp only;have h2:(dr.pl.kind==Qat)=false:=by
    rcases hkk with ⟨-,e⟩ | e | e
    ·rw [show t.pl.done=t.done from rfl,hdn] at e;cases e
    ·rw [e];decide
    ·rw [e];decide
   rw [h2,if_neg Bool.false_ne_true,show t.pl.done=t.done from rfl,hdn,if_pos rfl]
  | false =>
   refine RF.cf (RF.b (Ubk h) ?_);rw [hd];refine RF.mk (Ul0 (h.dr dr hd)) (RF.c (Uj0 (h.dr dr hd) h.len ?_ (by simpa [Dr.pl] using hll)) fun v O2 qq=>xAAA qq fun ev h2 x2=>?_)
   ·show (dr.pl.kind==Qds)=false;rcases hkk with ⟨e,-⟩ | e | e <;> rw [e] <;> decide
   ·subst ev;refine out (h.dx x2 rfl rfl (fun d e=>by rw [hd] at e;cases e;exact h2)) x2.fx ?_;delta tokS;rw [hpl];dsimp only;rw [show t.pl.done=t.done from rfl,hdn,if_neg Bool.false_ne_true,<- tok_eq];split
    ·rename_i e;delta PD.tok;rw [if_pos e]
    ·rfl
end
section
variable {s:PS}{c:Str}{k:Nat}
theorem Ut9(s:PS):Pl 7 (tokS s):=by
 have up:∀ {n:Nat} {v:V},Pl n v->True:=fun w0=>trivial;delta tokS;cases s.draft with
 | none=>exact Pl.none
 | some D =>
  dsimp only;split
  ·exact Pl.tup fun v h=>by simp at h;rcases h with rfl | rfl <;> exact Pl.str
  ·split
   ·exact Pl.none
   ·delta PD.tok;split
    ·exact Pl.tup fun v h=>by simp at h;rcases h with rfl | rfl <;> exact Pl.str
    ·refine Pl.tup fun v h=>?_;simp at h;rcases h with rfl | rfl | rfl | rfl
     ·exact Pl.str
     ·exact Pl.str
     ·refine Pl.tup fun v h=>?_;unfold kept at h;refine xEAA (List.mem_map.mp h) fun a w0 qz1=>?_;subst qz1;exact Pl.tup fun v h=>by simp at h;rcases h with rfl | rfl <;> exact Pl.str
     ·exact Pl.bool
theorem Upy{O:Store}{o e:Nat}(h:Ov s)(ho:O.get 9 o=some (.list s.out))(he:O.get 10 e=some (.list s.errs)) :
  cmpV .NotEq (.tup [.str s.state,.int s.pos,.ref 9 o,.ref 10 e,tokS s,.str s.last,.str s.back]) (snapV s) O=some false:=by
 refine xEA (Ulo h.1 O) fun d1 e1=>?_;refine xEA (Ulo h.2 O) fun d2 e2=>?_;refine xEA (Ut9 s O) fun d3 e3=>?_;have t1:toD O 8 (.tup [.str s.state,.int s.pos,.ref 9 o,.ref 10 e,tokS s,.str s.last,.str s.back])=some (.tuple [.str s.state,.int s.pos,.list d1,.list d2,d3,.str s.last,.str s.back]) :=
  Ule (Uaw rfl (Uaw rfl (Uaw (Uls ho e1) (Uaw (Uls he e2) (Uaw e3 rfl)))))
 have t2:toD O 8 (snapV s)=some (.tuple [.str s.state,.int s.pos,.list d1,.list d2,d3,.str s.last,.str s.back]) :=
  Ule (Uaw rfl (Uaw rfl (Uaw (Upo e1) (Uaw (Upo e2) (Uaw e3 rfl)))))
 have e:eqV O (.tup [.str s.state,.int s.pos,.ref 9 o,.ref 10 e,tokS s,.str s.last,.str s.back]) (snapV s)=some true:=(eqG_of t1 t2).trans (congrArg some (Uis O 8 _ _ t1));exact congrArg (Option.map (!·)) e
end
noncomputable def Kd(s:PS):Prop:=∀ D,s.draft=some D->(D.kind="comment"/\s.done=false)\/D.kind="start"\/D.kind="end"
noncomputable def Fp(s:PS):Prop:=(s.state="tag open"->s.pos=0)/\(s.state="end tag open"->s.pos<=1)
theorem Uog:(allSt.all fun q=>alph3.all fun c=>!isFresh q||c==""||(act q c).goal.isSome)=true:=by kernel_rfl
section
variable {s:PS}{c:Str}{k j:Nat}{q:St}{a:Act}
theorem Ufj{P:PS->Prop}(hc:c ∈ alph3)(hP:∀ (s:PS) (q:St) (k:Nat),s.state=q.str->Inv k s (some c)->s.done=false->P s->dstat q (act q c)=true->P (s.goC (act q c) c)) :
  ∀ (n:Nat) (s:PS) (q:St) (k:Nat),s.state=q.str->ends n q c=true->Inv k s (some c)->s.done=false->P s->(isFresh q=true->c≠"c")->P (adv n s c)
 | 0,s,q,k,_,he,_,_,_,_=>by cases he
 | n+1,s,q,k,hq,he,hI,hdn,hp,hcf=>by
  have ho:ofStr s.state=some q:=by rw [hq,Uai]
  refine xEAA (Uns hc hcf) fun r hr hro=>?_;have hst2:=Ud7 q c;have hinv:=inv_go hI hq (ok_len (Ucq hc));have hp1:=hP s q k hq hI hdn hp hro.st;rw [adv,ho];dsimp only;rw [ends] at he;have hfacts:=Uay s (act q c) c;have hdst:=hro.st;revert hst2 hinv hp1 he hfacts hdst
  generalize act q c=a
  intro he hst2 hinv hp1 hfacts hdst;refine xAAAAAAA hfacts fun f1 f2 f3 f4 f5 f6 f7=>?_;cases ha:a.again with
  | false=>rw [if_neg Bool.false_ne_true];exact hp1
  | true =>
   rw [if_pos rfl];dsimp only at hst2;rw [ha] at hst2 he;simp only [Bool.not_true,Bool.false_or,Bool.and_eq_true,Bool.not_eq_true'] at hst2 he;refine xEA (Option.isSome_iff_exists.mp hst2.1) fun g hg=>?_;rw [hg] at he f7;have f7:(s.goC a c).state=g:=f7;cases hog:ofStr g with
   | none=>rw [Ubt n (by rw [f7];exact hog)];exact hp1
   | some q' =>
    simp only [hog] at he;have hnf:isFresh q'=true->c≠"c":=fun hfq=>by
     exfalso
     delta dstat at hdst;rw [hg,Bool.and_eq_true] at hdst;have h2:=hdst.2;dsimp only at h2;rw [Bool.and_eq_true,Bool.and_eq_true] at h2;have hgs:=Uan hog;cases q' <;> first
      | (rw [hgs] at h2;exact absurd h2.1.1 (by decide))
      | (rw [hgs,ha] at h2;have h3:=h2.1.2;rw [if_pos (by decide),Bool.not_true,Bool.and_false] at h3;cases h3)
      | cases hfq
    have hinv':Inv (k+1) (s.goC a c) (some c):=by
     have:=hinv (.inr ha);rw [if_pos ha] at this;exact this
    exact Ufj hc hP n (s.goC a c) q' (k+1) (by rw [f7];exact Uan hog) he hinv' (by rw [f5,hdn,hst2.2];rfl) hp1 hnf
theorem kd_go(hI:Inv k s (some c))(hq:s.state=q.str)(hdn:s.done=false)(hK:Kd s):Kd (s.goC a c):=by
 have hno:∀ D,s.draft=some D->D.kind="start"\/D.kind="end":=fun D hd=>by
  have:=hI.dk q hq;revert this
  generalize need q (some c)=x
  intro this
  match x,this with
  | 0,h=>rw [show s.draft=none from h] at hd;cases hd
  | 1,⟨D',h1,h2⟩=>rw [hd] at h1;cases h1;exact h2
  | x+2,⟨D',h1,h2,_⟩=>rw [hd] at h1;cases h1;exact h2
 have key:∀ (s1:PS),s1.draft=s.draft->s1.done=false->∀ d,Kd (s1.deed d c):=by
  intro s1 e1 e2 d D hD;have keep:∀ {s2:PS},s2.draft=s1.draft->s2.draft=some D->(D.kind="comment"/\(s1.deed d c).done=false)\/D.kind="start"\/D.kind="end":=fun e hD=>.inr (hno D (by rw [<- e1,<- e];exact hD));have lst:∀ {s2:PS} {f},s2.draft=s1.draft->(s2.last' f).draft=some D->(D.kind="comment"/\(s1.deed d c).done=false)\/D.kind="start"\/D.kind="end":=fun {s2 f} e hD=>by
   cases h2:s2.draft with
   | none=>delta PS.last' at hD;rw [h2] at hD;dsimp only at hD;rw [h2] at hD;cases hD
   | some D2 =>
    refine xEAAA (Udp (f:=f) h2) fun as e3 w0 w0=>?_;rw [e3] at hD;cases hD;exact .inr (hno D2 (by rw [<- e1,<- e];exact h2))
  cases d with
  | none=>exact keep (s2:=s1) rfl hD
  | start=>cases hD;exact .inr (.inl rfl)
  | end_=>cases hD;exact .inr (.inr rfl)
  | comment=>cases hD;exact .inl ⟨rfl,e2⟩
  | lost =>
   have hD:(if (s1.state==Qae)=true then s1.put (chV "<") else (s1.put (chV "<")).put (chV "/")).eof.draft=some D:=hD;refine keep (s2:=(if (s1.state==Qae)=true then s1.put (chV "<") else (s1.put (chV "<")).put (chV "/")).eof) ?_ hD;split <;> rfl
  | lone=>exact keep (s2:=s1) rfl hD
  | give=>exact keep (s2:=s1) rfl (Ud8.2.2 D hD)
  | close =>
   have h2:s1.closeIt.draft=some D:=Ud8.2.2 D hD;delta PS.closeIt at h2;cases h3:s1.draft with
   | none=>rw [h3] at h2;dsimp only at h2;rw [h3] at h2;cases h2
   | some D2=>rw [h3] at h2;cases h2;exact .inr (hno D2 (by rw [<- e1];exact h3))
  | put =>
   have hD:(if (s1.state==Qad)=true then s1.tagName (if c==Qak then "�" else lowerS c) else if (s1.state==Qac)=true then s1.addName (if c==Qak then "�" else lowerS c) else s1.addValue (repl c):PS).draft=some D:=hD;split at hD
   ·delta PS.tagName at hD;cases h3:s1.draft with
    | none=>rw [h3] at hD;dsimp only at hD;rw [h3] at hD;cases hD
    | some D2=>rw [h3] at hD;cases hD;exact .inr (hno D2 (by rw [<- e1];exact h3))
   ·split at hD
    ·exact lst (s2:=s1) rfl hD
    ·exact lst (s2:=s1) rfl hD
  | quit=>exact keep (s2:=s1) rfl hD
  | new =>
   have hD:s1.newAttr.draft=some D:=hD;cases h3:s1.draft with
   | none=>delta PS.newAttr at hD;rw [h3] at hD;dsimp only at hD;rw [h3] at hD;cases hD
   | some D2=>rw [Uaq h3] at hD;cases hD;exact .inr (hno D2 (by rw [<- e1];exact h3))
  | first =>
   have hD:(s1.newAttr.addName c).draft=some D:=hD;cases h3:s1.draft with
   | none =>
    have e:s1.newAttr=s1:=by delta PS.newAttr;rw [h3]
    rw [e] at hD;exact lst (s2:=s1) rfl hD
   | some D2 =>
    rw [Uaq h3] at hD;delta PS.addName at hD;rw [Ua3 (init:=D2.attrs) (a:=⟨"","",true⟩) rfl rfl] at hD;cases hD;exact .inr (hno D2 (by rw [<- e1];exact h3))
  | check =>
   have hD:s1.check.draft=some D:=hD;delta PS.check at hD;split at hD
   ·exact lst (s2:=s1) (f:=fun w0 a=>{ a with k:=false }) rfl hD
   ·exact keep (s2:=s1) rfl hD
  | refer=>exact keep (s2:=s1) rfl hD
 obtain ⟨err,deed,goal,again⟩:=a;have goto:∀ s2:PS,Kd s2->Kd (s2.goto goal again):=by
  intro s2 h2;cases goal with
  | none=>exact h2
  | some g=>cases again <;> exact h2
 cases err with
 | none=>exact goto (s.nxt.deed deed c) (key s.nxt rfl hdn deed)
 | some e=>exact goto ((s.nxt.error e).deed deed c) (key (s.nxt.error e) rfl hdn deed)
theorem fp_go(hc:c ∈ alph3)(hne:c≠"")(hq:s.state=q.str)(hF:Fp s)(hst:dstat q (act q c)=true):Fp (s.goC (act q c) c):=by
 have hfa:=List.all_eq_true.mp (List.all_eq_true.mp Uog q (Uez q)) c hc;rw [beq_eq_false_iff_ne.mpr hne,Bool.or_false] at hfa;have hfacts:=Uay s (act q c) c;revert hfa hst hfacts
 generalize act q c=a
 intro hst hfa hfacts;refine xAAAAAAA hfacts fun f1 f2 f3 f4 f5 f6 f7=>?_;delta dstat at hst;rw [Bool.and_eq_true] at hst;have h2:=hst.2;delta Fp;rw [f6,f7];cases hg:a.goal with
 | none =>
  rw [hg] at hfa;simp at hfa;constructor
  ·intro e;have e:s.state="tag open":=e;have:=Uml hq (.inl e);rw [hfa] at this;cases this
  ·intro e;have e:s.state="end tag open":=e;have:=Uml hq (.inr e);rw [hfa] at this;cases this
 | some g =>
  rw [hg] at h2;dsimp only at h2;rw [Bool.and_eq_true,Bool.and_eq_true] at h2;constructor
  ·intro e;have e:g="tag open":=e;subst e;exact absurd h2.1.1 (by decide)
  ·intro e;have e:g="end tag open":=e;subst e;have h3:=h2.1.2;rw [if_pos (by decide)] at h3;cases ha:a.again with
   | true=>rw [ha,Bool.not_true,Bool.and_false] at h3;cases h3
   | false =>
    have e:=qlone (Bool.and_eq_true_iff.mp h3).1;subst e;have:=hF.1 hq;simp;omega
structure Good(j:Nat)(s:PS):Prop where
 inv:ofStr s.state=none\/(s.pos=j/\Inv (4*j) s none)
 sz:Sz (4*j) s
 done:s.done=false
 kq:Kq s
 kd:Kd s
 fp:Fp s
 ov:Ov s
theorem Good.step(h:Good j s)(hc:c ∈ alph3)(hne:c≠"")(hcf:fresh s->c≠"c"):Good (j+1) (adv 4 s c):=by
 have hok:=Ucq hc;cases ho:ofStr s.state with
 | none =>
  rw [Ubt 4 ho];exact ⟨.inl ho,h.sz.mono (Nat.le.intro rfl),h.done,h.kq,h.kd,h.fp,h.ov⟩
 | some q =>
  have hq:=Uan ho;rcases h.inv with hn | ⟨hpos,hI⟩
  ·rw [ho] at hn;cases hn
  ·have hcf':isFresh q=true->c≠"c":=fun hf=>hcf ((qfr hf).imp (fun e=>hq.trans (congrArg St.str e)) fun e=>hq.trans (congrArg St.str e));refine xAAA (Ull 4 s q (4*j) hq (Ud0 hok) hI.weak h.done hok hne) fun a1 a2 a3=>?_;refine ⟨a3.imp id fun qq=>xAA qq fun p1 p2=>⟨by rw [p1,hpos];exact Int.ofNat_add_one_out _,p2⟩,a2,a1,?_,?_,?_,ov_adv 4 s h.ov⟩
   ·exact Ufj (P:=Kq) hc (fun s q k hq hI hdn hK hst=>kq_go hK hq hst) 4 s q (4*j) hq (Ud0 hok) hI.weak h.done h.kq hcf'
   ·exact Ufj (P:=Kd) hc (fun s q k hq hI hdn hK hst=>kd_go hI hq hdn hK) 4 s q (4*j) hq (Ud0 hok) hI.weak h.done h.kd hcf'
   ·exact Ufj (P:=Fp) hc (fun s q k hq hI hdn hF hst=>fp_go hc hne hq hF hst) 4 s q (4*j) hq (Ud0 hok) hI.weak h.done h.fp hcf'
theorem Good.last(h:Good j s):Kd (adv 4 s ""):=by
 have hc:Qa ∈ alph3:=List.mem_cons_self;cases ho:ofStr s.state with
 | none=>rw [Ubt 4 ho];exact h.kd
 | some q =>
  have hq:=Uan ho;rcases h.inv with hn | ⟨hpos,hI⟩
  ·rw [ho] at hn;cases hn
  ·exact Ufj (P:=Kd) hc (fun s q k hq hI hdn hK hst=>kd_go hI hq hdn hK) 4 s q (4*j) hq (Ud0 (.inl rfl)) hI.weak h.done h.kd (fun w0=>by decide)
end
structure TX(cs:List Nat):Prop where
 mem:∀ c ∈ cs,c ∈ 13::codes3
 two:∀ i,i < 2->∀ c,cs[i]?=some c->c≠99/\c≠13
 len:cs.length<=16
theorem nl_mem:∀ (n:Nat) (l:List Nat),l.length<=n->∀ c ∈ nl l,c=10\/(c ∈ l/\c≠13)
 | 0,l,h,c,hc=>by
  have:l=[]:=List.length_eq_zero_iff.mp (om8 h);subst this;cases hc
 | n+1,[],h,c,hc=>by cases hc
 | n+1,[a],h,c,hc=>by
  unfold nl at hc
  by_cases ha:a=13
  ·subst ha;simp at hc;exact .inl hc
  ·simp [ha,nl] at hc;exact .inr ⟨by rw [hc];simp,by rw [hc];exact ha⟩
 | n+1,a::b::r,h,c,hc=>by
  rw [List.length_cons,List.length_cons] at h;unfold nl at hc
  by_cases ha:a=13
  ·subst ha;rw [if_pos rfl] at hc;rcases List.mem_cons.mp hc with e | hc
   ·exact .inl e
   ·by_cases hb:b=10
    ·subst hb;have hc:c ∈ nl r:=hc;exact (nl_mem n r (om12 h) c hc).imp id fun qq=>xAA qq fun m e=>⟨by simp [m],e⟩
    ·have hc:c ∈ (if b=10 then nl r else nl (b::r)):=hc;rw [if_neg hb] at hc;exact (nl_mem n (b::r) (by rw [List.length_cons];exact om2 h) c hc).imp id fun qq=>xAA qq fun m e=>⟨List.mem_cons_of_mem _ m,e⟩
  ·rw [if_neg ha] at hc;rcases List.mem_cons.mp hc with e | hc
   ·exact .inr ⟨by rw [e];simp,by rw [e];exact ha⟩
   ·exact (nl_mem n (b::r) (by rw [List.length_cons];exact om2 h) c hc).imp id fun qq=>xAA qq fun m e=>⟨List.mem_cons_of_mem _ m,e⟩
theorem Upg{c:Nat}{r:List Nat}(h:c≠13):nl (c::r)=c::nl r:=by
 rw [nl.eq_def (c::r)];dsimp only;rw [if_neg h]
theorem TX.signs{cs:List Nat}(h:TX cs):∀ (j:Nat) (c:Str),(feedL false cs)[j]?=some c->c ∈ alph3/\c≠""/\(j < 2->c≠"c"):=by
 intro j c hj;rw [Ugc cs.length cs (Nat.le_refl _),List.getElem?_map] at hj;refine xEAA (Option.map_eq_some_iff.mp hj) fun m hm qz1=>?_;subst qz1;have hmem:=nl_mem cs.length cs (Nat.le_refl _) m (List.mem_of_getElem? hm);have hne:∀ k:Nat,ch k≠Qa:=fun k e=>by
  have e2:(1:Nat)=0:=congrArg Str.length e;exact absurd e2 (by decide)
 refine ⟨?_,hne m,fun hj2=>?_⟩
 ·refine List.mem_cons_of_mem _ (List.mem_map.mpr ⟨m,?_,rfl⟩);rcases hmem with e | ⟨e,e2⟩
  ·rw [e];decide
  ·rcases List.mem_cons.mp (h.mem m e) with e3 | e3
   ·exact absurd e3 e2
   ·exact e3
 ·have h99:m≠99:=by
   match cs,h,hm with
   | [],h,hm=>simp [nl] at hm
   | a::r,h,hm =>
    have h0:=h.two 0 (by decide) a rfl;rw [Upg h0.2] at hm
    match j,hj2,hm with
    | 0,_,hm=>cases hm;exact h0.1
    | 1,_,hm =>
     match r,h,hm with
     | [],h,hm=>simp [nl] at hm
     | b::r',h,hm =>
      have h1:=h.two 1 (by decide) b rfl;rw [Upg h1.2] at hm;cases hm;exact h1.1
  intro e;have:=Ufl m 99;rw [show ch 99=Qf from rfl,e] at this;simp at this;exact h99 this
noncomputable def st(S:List Str)(s0:PS)(j:Nat):PS:=(S.take j).foldl (adv 4) s0
theorem Unb{S:List Str}{s0:PS}{j:Nat}{c:Str}(h:S[j]?=some c):st S s0 (j+1)=adv 4 (st S s0 j) c:=by
 delta st;have hl:j < S.length:=by rw [List.getElem?_eq_some_iff] at h;exact h.1
 have hc:S[j]=c:=by rw [List.getElem?_eq_some_iff] at h;exact h.2
 rw [List.take_succ_eq_append_getElem hl,List.foldl_append,hc]
 rfl
theorem Uqi{bg la:Str}(h:bg="tag open"\/bg="end tag open"):Good 0 (PS.new bg la):=by
 have hs:Sz 0 (PS.new bg la):=⟨Nat.le_refl _,Nat.le_refl _,fun D e=>by cases e⟩
 refine ⟨.inr ⟨rfl,⟨Int.le_refl _,hs,fun q hq=>?_⟩⟩,hs,rfl,(fun D e=>by cases e),(fun D e=>by cases e),⟨fun w0=>rfl,fun w0=>Int.zero_le_ofNat 1⟩,⟨(fun v m=>by cases m),(fun v m=>by cases m)⟩⟩;have hq:bg=q.str:=hq;rcases h with e | e
 ·rw [e] at hq;have:=St.inj (q:=.tagOpen) hq;subst this;rfl
 ·rw [e] at hq;have:=St.inj (q:=.endOpen) hq;subst this;rfl
theorem Uc4{cs:List Nat}(h:TX cs){s0:PS}(h0:Good 0 s0):∀ j,j<=(feedL false cs).length->Good j (st (feedL false cs) s0 j)
 | 0,_=>h0
 | j+1,hj=>by
  have ih:=Uc4 h h0 j (Nat.le_of_succ_le hj);have hc:=List.getElem?_eq_getElem (show j < (feedL false cs).length by omega);refine xAAA (h.signs j _ hc) fun a1 a2 a3=>?_;rw [Unb hc];refine ih.step a1 a2 fun hf=>a3 ?_;have hpos:∀ q,ofStr (st (feedL false cs) s0 j).state=some q->(st (feedL false cs) s0 j).pos=j:=fun q hq=>by
   rcases ih.inv with e | ⟨e,_⟩
   ·rw [hq] at e;cases e
   ·exact e
  rcases hf with e | e
  ·have e2:=hpos .tagOpen (by rw [e];exact Uai .tagOpen);have e3:=ih.fp.1 e;exact om44 e2 e3
  ·have e2:=hpos .endOpen (by rw [e];exact Uai .endOpen);have e3:=ih.fp.2 e;exact om45 e2 e3
section
variable {p:Params}{O O' O₁:Store}{n d tb j k:Nat}{s x:PS}{l:List Str}{cl ir:Bool}
theorem Good.mid(h:Good j s)(hl:l.length=j):Mid (4*j) (s.wi l cl ir):=⟨h.done,h.sz.wi,h.inv.imp id fun qq=>xAA qq fun h1 h2=>⟨by show s.pos=l.length;rw [h1,hl],h2.wi⟩⟩
theorem NS.of_reg(h:NS O n s)(hl:O'.length=24)(hr:∀ r,noteR r=true->O'[r]?=O[r]?):NS O' n s:=by
 obtain ⟨ν,kd,cl,ws,ts,rfl,h,hD,hq⟩:=h;have g:∀ r i,noteR r=true->O'.get r i=O.get r i:=fun r i h=>by delta Store.get;rw [hr r h]
 exact ⟨ν,kd,cl,ws,ts,rfl,⟨hl,(g _ _ rfl).trans h.note,(g _ _ rfl).trans h.out,(g _ _ rfl).trans h.err,(g _ _ rfl).trans h.wd,(g _ _ rfl).trans h.tw⟩,hD,hq⟩
theorem TB.of_reg(h:TB O tb)(hr:∀ r,r=12\/r=13->O'[r]?=O[r]?):TB O' tb:=by
 refine xEAA h fun rv h1 h2=>?_;have g:∀ r i,r=12\/r=13->O'.get r i=O.get r i:=fun r i h=>by delta Store.get;rw [hr r h]
 exact ⟨rv,(g _ _ (.inr rfl)).trans h1,fun q=>(h2 q).imp (fun qq=>xEAA qq fun i e hi=>⟨i,e,(g _ _ (.inl rfl)).trans hi⟩) id⟩
theorem NS.len(h:NS O n s):O.length=24:=by obtain ⟨ν,kd,cl,ws,ts,rfl,h,_⟩:=h;exact h.len
theorem NS.item_done(h:NS O n s):itemV (.ref 16 n) (.str Qbo) O=some (.bool s.done):=by obtain ⟨ν,kd,cl,ws,ts,rfl,h,_⟩:=h;exact n_done h
end
theorem Uhf{c:Nat}(h:c ∈ 13::codes3):c ∈ okL:=by
 rcases List.mem_cons.mp h with e | e
 ·rw [e];decide
 ·simpa using List.all_eq_true.mp Ujl c e
theorem Ukh{c:Nat}(h:c ∈ 13::codes3):c < 0x110000:=by
 have:=Nat.le_of_ble_eq_true (List.all_eq_true.mp okL_lt c (Uhf h))
 omega
theorem st_pre{a b:List Nat}{s0:PS}:st (feedL false (a++b)) s0 (feedL false a).length=(feedL false a).foldl (adv 4) s0:=by
 delta st;rw [Ual,List.take_left]
noncomputable def mach(S:List Str)(s0:PS)(x:Str)(cl:Bool):PS:=(st S s0 (feedL false x.cps.toList).length).wi (feedL false x.cps.toList) cl (lastR false x.cps.toList)
noncomputable def snapsL(S:List Str)(s0:PS):List V:=(List.range (S.length+1)).map fun j=>snapV (st S s0 j)
theorem Uqw{S:List Str}{s0:PS}{j:Nat}(h:j<=S.length):(snapsL S s0)[j]?=some (snapV (st S s0 j)):=by
 delta snapsL;rw [List.getElem?_map,List.getElem?_range (Nat.lt_succ_of_le h)]
 rfl
section
variable {p:Params}{O O' O₁:Store}{n d tb j k sn:Nat}{s s0:PS}{cs:List Nat}{x y text:Str}{U:Rf}{Q:Fl->Store->Prop}
theorem Ujp{K:V->MK->V->M Fl}(hT:TX cs)(h0:Good 0 s0)(hse:s0.serr=[])(h:TP O U (mach (feedL false cs) s0 x false))(hp:∃ r,cs=(x++y).cps.toList++r)(hs:O.get 20 sn=some (.list (snapsL (feedL false cs) s0)))
  (g:∀ O' m,TP O' U (mach (feedL false cs) s0 (x++y) false)->Fx O O'->Run (K (.str (x++y)) m (.bool false)) O' Q) :
  Run (bnd (look (methK (P p) (.ref 2 U.i) Qbz)) fun x63=>if isRepl x63 then fail else bnd (methodV (callK (P p) (d+7)) x63 (.ref 2 U.i) [.str y]) fun x64=>bnd (look (binV .Add (.str x) (.str y))) fun x65 =>
   bnd (look (methK (P p) (.ref 2 U.i) Qcb)) fun x66=>if isRepl x66 then fail else bnd (methodV (callK (P p) (d+7)) x66 (.ref 2 U.i) []) fun x67=>K x65 x66 x67) O Q:=by
 refine xEA hp fun r hr=>?_;rw [Ue0] at hr;have hxl:x.cps.toList.length+y.cps.toList.length<=16:=by
  have:=congrArg List.length hr;rw [List.length_append,List.length_append] at this;have:=hT.len
  omega
 have hmem:∀ c ∈ y.cps.toList,c ∈ okL:=fun c hc=>Uhf (hT.mem c (by rw [hr];simp [hc]));have hJ:(feedL false x.cps.toList).length<=(feedL false cs).length:=by
  rw [hr,List.append_assoc,Ual false x.cps.toList,List.length_append];exact om24
 have hG:=Uc4 hT h0 _ hJ;have hmid:Mid (4*(feedL false x.cps.toList).length) (mach (feedL false cs) s0 x false):=hG.mid rfl;have hfl:=Ubr false x.cps.toList;have hfy:=Ubr (lastR false x.cps.toList) y.cps.toList;have hS:feedL false cs=feedL false x.cps.toList++(feedL (lastR false x.cps.toList) y.cps.toList++feedL (lastR (lastR false x.cps.toList) y.cps.toList) r):=by
  rw [hr,List.append_assoc,Ual,Ual]
 have hsg:∀ c ∈ feedL (lastR false x.cps.toList) y.cps.toList,okSign c/\c≠"":=fun c hc=>by
  have hm:c ∈ feedL false cs:=by rw [hS];simp [hc]
  refine xEA (List.getElem?_of_mem hm) fun i hi=>?_;refine xAAA (hT.signs i c hi) fun a1 a2 a3=>?_;exact ⟨Ucq a1,a2⟩
 refine xAA (Uon (s:=mach (feedL false cs) s0 x false) hmid rfl y hsg (by show 4*_+4*(feedL (lastR false x.cps.toList) y.cps.toList).length<=1500;exact om313 hxl hfl hfy)) fun qz1 hM=>?_;obtain ⟨m,hm,hR⟩:=qz1;have hm:m<=4*(feedL (lastR false x.cps.toList) y.cps.toList).length:=hm;have hnext:(feedL (lastR false x.cps.toList) y.cps.toList).foldl (adv 4) ((mach (feedL false cs) s0 x false).feed y)=mach (feedL false cs) s0 (x++y) false:=by
  have e1:(mach (feedL false cs) s0 x false).feed y=(st (feedL false cs) s0 (feedL false x.cps.toList).length).wi (feedL false x.cps.toList++feedL (lastR false x.cps.toList) y.cps.toList) false (lastR (lastR false x.cps.toList) y.cps.toList):=rfl;rw [e1,Up3];delta mach;rw [Ue0,Ual,Ufn]
  congr 1
  have e2:st (feedL false cs) s0 (feedL false x.cps.toList++feedL (lastR false x.cps.toList) y.cps.toList).length=(feedL false x.cps.toList++feedL (lastR false x.cps.toList) y.cps.toList).foldl (adv 4) s0:=by
   have:=st_pre (a:=x.cps.toList++y.cps.toList) (b:=r) (s0:=s0);rw [<- hr,Ual] at this;exact this
  have e3:st (feedL false cs) s0 (feedL false x.cps.toList).length=(feedL false x.cps.toList).foldl (adv 4) s0:=by
   have:=st_pre (a:=x.cps.toList) (b:=y.cps.toList++r) (s0:=s0);rw [<- List.append_assoc,<- hr] at this;exact this
  rw [e2,e3,List.foldl_append]
 have hR:Runs ((mach (feedL false cs) s0 x false).feed y) m (mach (feedL false cs) s0 (x++y) false):=by rw [<- hnext];exact hR
 have hfeed:=Uri (p:=p) (d:=d+3) h (by rfl) y hmem (by show (feedL false x.cps.toList).length+_ < 5000;exact Nat.lt_of_le_of_lt (Nat.le_trans (Nat.add_le_add_right hfl _) hxl) (by decide));refine xEAAA h fun t ht hw het=>?_;refine Run.m (Ut5 ht) (Run.c (Q1:=fun v O'=>v=V.none/\TP O' U ((mach (feedL false cs) s0 x false).feed y)/\Fx O O') hfeed fun v O1 qq=>xAAA qq fun e h1 f1=>?_);refine Run.l (add_str (by rw [<- Udz,<- Udz];delta lim;exact Nat.le_trans hxl (by decide))) ?_;have hrun:=Uqb (p:=p) (d:=d) h1 hR (om309 hxl hfl hfy hm);refine xEAAA h1 fun t1 ht1 hw1 het1=>?_;refine Run.m (mt_run ht1) (Run.c hrun fun v O2 qq=>xAAA qq fun e h2 f2=>?_);subst e;have hdn:(mach (feedL false cs) s0 (x++y) false).done=false:=by
  have:=hM.done;rw [show (feedL (mach (feedL false cs) s0 x false).isret y.cps.toList).foldl (adv 4) ((mach (feedL false cs) s0 x false).feed y)=mach (feedL false cs) s0 (x++y) false from hnext] at this;exact this
 rw [hdn];exact g O2 _ h2 (f1.trans f2)
end
section
variable {p:Params}{O O' O₁:Store}{n d tb j k sn:Nat}{s s0:PS}{cs:List Nat}{x y text:Str}{U:Rf}{Q:Fl->Store->Prop}{A B:M Fl}
theorem Unm(hT:TX cs)(h0:Good 0 s0)(h:TP O U (mach (feedL false cs) s0 x false))(hp:∃ r,cs=x.cps.toList++r)(hs:O.get 20 sn=some (.list (snapsL (feedL false cs) s0)))
  (g:∀ O',TP O' U (mach (feedL false cs) s0 x false)->Fx O O'->Run B O' Q) :
  Run (bnd (callK (P p) (d+2) a__law_told [.ref 2 U.i]) fun x69=>bnd (callK (P p) (d+2) a__law_newlines [.str x]) fun x70=>bnd (builtinV .len [x70]) fun x71=>bnd (look (itemV (.ref 20 sn) x71)) fun x72=>bnd (look (cmpV .NotEq x69 x72)) fun x73=>cond x73 A B) O Q:=by
 refine xEA hp fun r hr=>?_;have hJ:(feedL false x.cps.toList).length<=(feedL false cs).length:=by
  rw [hr,Ual false x.cps.toList,List.length_append];exact om24
 have hG:=Uc4 hT h0 _ hJ;have hxl:x.cps.toList.length<=16:=by
  have:=congrArg List.length hr;rw [List.length_append] at this;have:=hT.len
  omega
 have hfl:=Ubr false x.cps.toList;refine Run.c (Uka (p:=p) (d:=d) h hG.kd fun D e=>?_) fun v O1 qq=>xAAAAA qq fun ev h1 ho he f1=>?_
 ·have:=(hG.sz.dr D e).2.1;exact Nat.lt_of_le_of_lt (Nat.le_trans this (Nat.mul_le_mul_left 4 (Nat.le_trans hfl hxl))) (by decide)
 subst ev;refine xEAA (Ugb (p:=p) (d:=d+1) (O:=O1) (x:=x) (fun c hc=>Ukh (hT.mem c (by rw [hr];simp [hc]))) (by rw [<- Udz];delta lim;exact om38 hxl)) fun y hy hyc=>?_;have hyl:y.length=(feedL false x.cps.toList).length:=by
  rw [<- Udz,hyc,Ugc x.cps.toList.length x.cps.toList (Nat.le_refl _),List.length_map]
 refine Run.b hy (Run.b len_ch ?_);rw [hyl];have hs1:O1.get 20 sn=some (.list (snapsL (feedL false cs) s0)):=(f1.get rfl).trans hs;refine Run.l (itemL hs1 (Uqw hJ)) (Run.l (a:=false) (Upy (s:=mach (feedL false cs) s0 x false) hG.ov ho he) (g O1 h1 f1))
theorem Une(hT:TX cs)(h0:Good 0 s0)(hse:s0.serr=[])(h:TP O U (mach (feedL false cs) s0 x false))(hx:x.cps.toList=cs)(hN:NS O n (adv 4 (st (feedL false cs) s0 (feedL false cs).length) ""))
  (g:∀ O',Fx O O'->O'.length=24->Run B O' Q) {A' A'':M Fl} :
  Run (bnd (look (methK (P p) (.ref 2 U.i) Qar)) fun x85=>if isRepl x85 then fail else bnd (methodV (callK (P p) (d+7)) x85 (.ref 2 U.i) []) fun x86=>bnd (look (methK (P p) (.ref 2 U.i) Qcb)) fun x87=>if isRepl x87 then fail else bnd (methodV (callK (P p) (d+7)) x87 (.ref 2 U.i) []) fun x88 =>
   bnd (look (itemV (.ref 16 n) (.str Qbo))) fun x89=>bnd (look (cmpV .NotEq x88 x89)) fun x90=>cond x90 A (bnd (callK (P p) (d+7) a__law_told [.ref 2 U.i]) fun x91=>bnd (look (cmpV .NotEq x91 (snapV (adv 4 (st (feedL false cs) s0 (feedL false cs).length) "")))) fun x92=>cond x92 A'
   (bnd (attrV (P p) (.ref 2 U.i) Qbj) fun x93=>bnd (attrV (P p) x93 Qab) fun x94=>bnd (ret (V.lst [])) fun x95=>bnd (look (cmpV .NotEq x94 x95)) fun x96=>cond x96 A'' B))) O Q:=by
 have hG:=Uc4 hT h0 (feedL false cs).length (Nat.le_refl _);have hfl:=Ubr false cs;have hl:=hT.len;have hmid:Mid (4*(feedL false cs).length) (mach (feedL false cs) s0 x false):=by
  delta mach;rw [hx];exact hG.mid rfl
 refine xEAA (Uqv hmid (Nat.le_trans (Nat.mul_le_mul_left 4 (Nat.le_trans hfl hl)) (by decide))) fun m hm hR=>?_;have hfin:adv 4 (mach (feedL false cs) s0 x false).end ""=(adv 4 (st (feedL false cs) s0 (feedL false cs).length) "").wi (feedL false cs) true (lastR false cs):=by
  delta mach;rw [hx];exact wi_adv (c:="") (feedL false cs) true (lastR false cs) 4 (st (feedL false cs) s0 (feedL false cs).length)
 rw [hfin] at hR;have hend:=Usx (p:=p) (d:=d+5) h;refine xEAAA h fun t ht hw het=>?_;refine Run.m (mt_end ht) (Run.c (Q1:=fun (v:V) O'=>v=V.none/\TP O' U (mach (feedL false cs) s0 x false).end/\Fx O O') hend fun v O1 qq=>xAAA qq fun e h1 f1=>?_);have hrun:=Uqb (p:=p) (d:=d) h1 hR (by omega);refine xEAAA h1 fun t1 ht1 hw1 het1=>?_;refine Run.m (mt_run ht1) (Run.c hrun fun v O2 qq=>xAAA qq fun e h2 f2=>?_);subst e;have f12:=f1.trans f2;have hlen2:O2.length=24:=by refine xEAA h2 fun t h w0=>?_;exact h.len
 have hN2:NS O2 n (adv 4 (st (feedL false cs) s0 (feedL false cs).length) ""):=hN.of_reg hlen2 fun r hr=>f12 r (by delta noteR at hr;delta tokR;revert hr;simp;exact om21);refine Run.l hN2.item_done (Run.l (a:=false) (Usi _) (Run.cf ?_));have hsz:=adv_sz (c:="") 4 _ _ hG.sz (Nat.zero_le _);refine Run.c (Uka (p:=p) (d:=d+5) h2 hG.last fun D e=>?_) fun v O3 qq=>xAAAAA qq fun ev h3 ho he f3=>?_
 ·have:=(hsz.dr D e).2.1;exact om320 hfl hl this
 subst ev;refine Run.l (a:=false) (Upy (s:=(adv 4 (st (feedL false cs) s0 (feedL false cs).length) "").wi (feedL false cs) true (lastR false cs)) (ov_adv 4 _ hG.ov) ho he) (Run.cf ?_);have hserr:((adv 4 (st (feedL false cs) s0 (feedL false cs).length) "").wi (feedL false cs) true (lastR false cs)).serr=[]:=by
  show (adv 4 (st (feedL false cs) s0 (feedL false cs).length) "").serr=[];rw [(Uex 4 _ _).2.2.2];delta st;have:∀ (l:List Str) (s:PS),(l.foldl (adv 4) s).serr=s.serr:=by
   intro l;induction l with
   | nil=>intro s;rfl
   | cons a r ih=>intro s;rw [List.foldl_cons,ih,(Uex 4 s a).2.2.2]
  rw [this,hse]
 refine xEAAA h3 fun t3 ht3 hw3 het3=>?_;have hse3:t3.serr=[]:=by
  have:=congrArg PS.serr het3;rw [hserr] at this;exact this
 have hg8:O3.get 8 U.se=some (.list []):=by rw [<- hse3];exact ht3.se
 refine Run.b (Ub5 ht3) (Run.b (Un6 ht3) (Run.b (a:=V.lst []) (O₁:=O3) rfl (Run.l (a:=false) ?_ (Run.cf (g O3 (f12.trans f3) ht3.len)))));show (eqV O3 (.ref 8 U.se) (.lst [])).map (!·)=_;rw [show eqV O3 (.ref 8 U.se) (.lst [])=some (PyData.eqv (.list []) (.list [])) from eqG_of (Uls hg8 rfl) rfl];simp [PyData.eqv,PyData.eqvAll]
end
structure Ctx(O:Store)(n sn sd:Nat)(fin:PS)(snaps:List V):Prop where
 len:O.length=24
 note:NS O n fin
 snap:O.get 20 sn=some (.list snaps)
 sts:O.get 3 sd=some (.dict stEs)
section
variable {p:Params}{O O' O₁:Store}{n d tb j k sn sd:Nat}{s s0 fin:PS}{snaps:List V}{cs:List Nat}{x y text:Str}{U:Rf}{Q:Fl->Store->Prop}{A B:M Fl}
theorem Ctx.fx(h:Ctx O n sn sd fin snaps)(f:Fx O O')(hl:O'.length=24):Ctx O' n sn sd fin snaps :=
 ⟨hl,h.note.of_reg hl fun r hr=>f r (by delta noteR at hr;delta tokR;revert hr;simp;exact om21),(f.get rfl).trans h.snap,(f.get rfl).trans h.sts⟩
theorem forRunF{o:V}{s:V->Fr->M Fr}{b J:Fr->M Fl}{fr:Fr}(I:Nat->Fr->Store->Prop)(items:List V)(h0:I 0 fr O)(hl:items.length < 5000)
  (step:∀ k v fr O,items[k]?=some v->I k fr O->drawV o k O=some (some v)/\∃ fr1,s v fr=ret fr1/\Run (b fr1) O fun fl O'=>∃ fr',fl=.next fr'/\I (k+1) fr' O')
  (fin:∀ fr O,I items.length fr O->drawV o items.length O=some none) (g:∀ fr' O',I items.length fr' O'->Run (J fr') O' Q):Run (bnd (loopF o s b 5000 0 fr) (goOn J)) O Q:=by
 obtain ⟨fl,O1,e,q⟩:=forL I (fun w0 w0=>False) items (fun k v fr O hv hI=>by
  refine xAEAA (step k v fr O hv hI) fun h1 fr1 h2 h3=>?_;exact ⟨h1,fr1,h2,h3.mono fun fl s h=>.inl h⟩) fin (items.length - 0) 0 fr O 5000 rfl h0 (Nat.zero_le _) (om22 hl)
 refine Run.b e ?_;rcases q with ⟨fr',rfl,hI⟩ | ⟨v,rfl,hR⟩
 ·exact g fr' O1 hI
 ·exact hR.elim
theorem Ukk{ps:List Str}{k:Nat}{y:Str}(h:ps[k]?=some y):flatS (ps.take (k+1))=flatS (ps.take k)++y.cps.toList:=by
 have hl:k < ps.length:=by rw [List.getElem?_eq_some_iff] at h;exact h.1
 have hy:ps[k]=y:=by rw [List.getElem?_eq_some_iff] at h;exact h.2
 delta flatS;rw [List.take_succ_eq_append_getElem hl,List.map_append,List.flatten_append,hy];simp
theorem Uhe(ps:List Str)(k:Nat):flatS ps=flatS (ps.take k)++flatS (ps.drop k):=by
 delta flatS;rw [<- List.flatten_append,<- List.map_append,List.take_append_drop]
theorem Uqp{u1 u2 u3 u4 u6:V}{bg la:Str}(hT:TX cs)(h0:Good 0 s0)(hse:s0.serr=[])(hC:Ctx O n sn sd fin (snapsL (feedL false cs) s0))(h:TP O U (mach (feedL false cs) s0 x false))(hp:∃ r,cs=(x++y).cps.toList++r) :
  Run (turnL (P p) (callK (P p) (d+7)) (sc_law p) 41 (st_law_l2 p) [(Qj,u1),(Qk,u2),(Qc,u3),(Ql,.str bg),(Qi,.str la),(Qh,u4),(Qb,.ref 16 n),(Qm,.ref 20 sn),(Qq,snapV fin),(Qn,.ref 3 sd),(Qo,u6),(Qd,.ref 2 U.i),(Qu,.str x),(Qs,.str y)]) O fun fl O'=>fl=.next [(Qj,u1),(Qk,u2),(Qc,u3),(Ql,.str bg),(Qi,.str la),(Qh,u4),(Qb,.ref 16 n),(Qm,.ref 20 sn),(Qq,snapV fin),(Qn,.ref 3 sd),(Qo,u6),(Qd,.ref 2 U.i),(Qu,.str (x++y)),(Qs,.str y)]/\TP O' U (mach (feedL false cs) s0 (x++y) false)/\Ctx O' n sn sd fin (snapsL (feedL false cs) s0):=by
 rw [Uhq];delta T_law_l2_0;refine Ujp hT h0 hse h hp hC.snap fun O1 m h1 f1=>?_;have hl1:O1.length=24:=by refine xEAA h1 fun t h w0=>?_;exact h.len
 show Run (cond false _ _) O1 _;refine Run.cf (Unm hT h0 h1 hp ((f1.get rfl).trans hC.snap) fun O2 h2 f2=>?_);have hl2:O2.length=24:=by refine xEAA h2 fun t h w0=>?_;exact h.len
 exact Run.next ⟨rfl,h2,hC.fx (f1.trans f2) hl2⟩
theorem Ulz{u1 u2 u3 u4 u6:V}{bg la:Str}{fr0:Fr}{ps:List Str}(hT:TX cs)(hs0:s0=PS.new bg la)(h0:Good 0 s0)(hC:Ctx O n sn sd fin (snapsL (feedL false cs) s0))(h:TP O U s0)(hps:flatS ps=cs)(hpl:ps.length < 1000)
  (hfin:fin=adv 4 (st (feedL false cs) s0 (feedL false cs).length) "") (hfr:(ps≠[]/\fr0=[(Qj,u1),(Qk,u2),(Qc,u3),(Ql,.str bg),(Qi,.str la),(Qh,u4),(Qb,.ref 16 n),(Qm,.ref 20 sn),(Qq,snapV fin),(Qn,.ref 3 sd),(Qo,u6),(Qd,.ref 2 U.i),(Qu,.str Qa)])\/∃ w,fr0=[(Qj,u1),(Qk,u2),(Qc,u3),(Ql,.str bg),(Qi,.str la),(Qh,u4),(Qb,.ref 16 n),(Qm,.ref 20 sn),(Qq,snapV fin),(Qn,.ref 3 sd),(Qo,u6),(Qd,.ref 2 U.i),(Qu,.str Qa),(Qs,w)]) :
  Run (bnd (loopF (.lst (ps.map .str)) (setL (sc_law p) Qs) (turnL (P p) (callK (P p) (d+7)) (sc_law p) 41 (st_law_l2 p)) 5000 0 fr0) (goOn (J_law_2 p (callK (P p) (d+7))))) O
   fun fl O'=>(∃ a b w,fl=.next [(Qj,u1),(Qk,u2),(Qc,u3),(Ql,.str bg),(Qi,.str la),(Qh,u4),(Qb,.ref 16 n),(Qm,.ref 20 sn),(Qq,snapV fin),(Qn,.ref 3 sd),(Qo,u6),(Qd,a),(Qu,b),(Qs,w)])/\Ctx O' n sn sd fin (snapsL (feedL false cs) s0):=by
 have hse:s0.serr=[]:=by rw [hs0];rfl
 have hm0:mach (feedL false cs) s0 "" false=s0:=by rw [hs0];rfl
 refine forRunF (fun k fr O'=>∃ X:Str,X.cps.toList=flatS (ps.take k)/\TP O' U (mach (feedL false cs) s0 X false)/\Ctx O' n sn sd fin (snapsL (feedL false cs) s0) /\
   ((k=0/\X=""/\fr=fr0)\/∃ w,fr=[(Qj,u1),(Qk,u2),(Qc,u3),(Ql,.str bg),(Qi,.str la),(Qh,u4),(Qb,.ref 16 n),(Qm,.ref 20 sn),(Qq,snapV fin),(Qn,.ref 3 sd),(Qo,u6),(Qd,.ref 2 U.i),(Qu,.str X),(Qs,w)])) (ps.map .str) ⟨"",by rfl,by rw [hm0];exact h,hC,.inl ⟨rfl,rfl,rfl⟩⟩ (by rw [List.length_map];exact om23 hpl) (fun k v fr O' hv hI=>?_) (fun fr O' hI=>?_) fun fr O' hI=>?_
 ·refine xEAAAA hI fun X hX hTP hC' sh=>?_;refine ⟨by rw [Uc7,hv],?_⟩;rw [List.getElem?_map] at hv;refine xEAA (Option.map_eq_some_iff.mp hv) fun y hy qz1=>?_;subst qz1;have hXy:(X++y).cps.toList=flatS (ps.take (k+1)):=by rw [Ue0,hX,Ukk hy]
  have hp:∃ r,cs=(X++y).cps.toList++r:=⟨flatS (ps.drop (k+1)),by rw [hXy,<- hps];exact Uhe ps (k+1)⟩
  refine ⟨[(Qj,u1),(Qk,u2),(Qc,u3),(Ql,.str bg),(Qi,.str la),(Qh,u4),(Qb,.ref 16 n),(Qm,.ref 20 sn),(Qq,snapV fin),(Qn,.ref 3 sd),(Qo,u6),(Qd,.ref 2 U.i),(Qu,.str X),(Qs,.str y)],?_,(Uqp (p:=p) (d:=d) hT h0 hse hC' hTP hp).mono fun fl s2 qq=>xAAA qq fun e h1 h2=>⟨_,e,X++y,hXy,h1,h2,.inr ⟨_,rfl⟩⟩⟩;rw [Ubi (by kernel_rfl)];rcases sh with ⟨rfl,rfl,rfl⟩ | ⟨w,rfl⟩
  ·rcases hfr with ⟨-,rfl⟩ | ⟨w,rfl⟩ <;> kernel_rfl
  ·kernel_rfl
 ·rw [Uc7,List.getElem?_eq_none (Nat.le_refl _)]
 ·refine xEAAAA hI fun X hX hTP hC' sh=>?_;rw [List.length_map,List.take_length,hps] at hX;have sh2:∃ w,fr=[(Qj,u1),(Qk,u2),(Qc,u3),(Ql,.str bg),(Qi,.str la),(Qh,u4),(Qb,.ref 16 n),(Qm,.ref 20 sn),(Qq,snapV fin),(Qn,.ref 3 sd),(Qo,u6),(Qd,.ref 2 U.i),(Qu,.str X),(Qs,w)]:=by
   rcases sh with ⟨hk,rfl,rfl⟩ | sh
   ·rcases hfr with ⟨hne,-⟩ | sh
    ·rw [List.length_map] at hk;exact absurd (List.length_eq_zero_iff.mp hk) hne
    ·exact sh
   ·exact sh
  refine xEA sh2 fun w qz1=>?_;subst qz1;rw [Ukp];subst hfin;exact Une hT h0 hse hTP hX hC'.note fun O2 f2 hl2=>Run.next ⟨⟨_,_,_,rfl⟩,hC'.fx f2 hl2⟩
theorem Uqy{u1 u2 u3 u4 u5 u6:V}{bg la:Str}(hT:TX cs)(h0:Good 0 s0)(hse:s0.serr=[])(hC:Ctx O n sn sd fin (snapsL (feedL false cs) s0))(h:TP O U (mach (feedL false cs) s0 x false))(hp:∃ r,cs=(x++y).cps.toList++r) :
  Run (turnL (P p) (callK (P p) (d+7)) (sc_law p) 41 (st_law_l2 p) [(Qj,u1),(Qk,u2),(Qc,u3),(Ql,.str bg),(Qi,.str la),(Qh,u4),(Qb,.ref 16 n),(Qm,.ref 20 sn),(Qg,u5),(Qq,snapV fin),(Qn,.ref 3 sd),(Qo,u6),(Qd,.ref 2 U.i),(Qu,.str x),(Qs,.str y)]) O fun fl O'=>fl=.next [(Qj,u1),(Qk,u2),(Qc,u3),(Ql,.str bg),(Qi,.str la),(Qh,u4),(Qb,.ref 16 n),(Qm,.ref 20 sn),(Qg,u5),(Qq,snapV fin),(Qn,.ref 3 sd),(Qo,u6),(Qd,.ref 2 U.i),(Qu,.str (x++y)),(Qs,.str y)]/\TP O' U (mach (feedL false cs) s0 (x++y) false)/\Ctx O' n sn sd fin (snapsL (feedL false cs) s0):=by
 rw [Uhr];delta T_law_l2_1;refine Ujp hT h0 hse h hp hC.snap fun O1 m h1 f1=>?_;have hl1:O1.length=24:=by refine xEAA h1 fun t h w0=>?_;exact h.len
 show Run (cond false _ _) O1 _;refine Run.cf (Unm hT h0 h1 hp ((f1.get rfl).trans hC.snap) fun O2 h2 f2=>?_);have hl2:O2.length=24:=by refine xEAA h2 fun t h w0=>?_;exact h.len
 exact Run.next ⟨rfl,h2,hC.fx (f1.trans f2) hl2⟩
theorem Umm{u1 u2 u3 u4 u5 u6:V}{bg la:Str}{fr0:Fr}{ps:List Str}(hT:TX cs)(hs0:s0=PS.new bg la)(h0:Good 0 s0)(hC:Ctx O n sn sd fin (snapsL (feedL false cs) s0))(h:TP O U s0)(hps:flatS ps=cs)(hpl:ps.length < 1000)
  (hfin:fin=adv 4 (st (feedL false cs) s0 (feedL false cs).length) "") (hfr:(ps≠[]/\fr0=[(Qj,u1),(Qk,u2),(Qc,u3),(Ql,.str bg),(Qi,.str la),(Qh,u4),(Qb,.ref 16 n),(Qm,.ref 20 sn),(Qg,u5),(Qq,snapV fin),(Qn,.ref 3 sd),(Qo,u6),(Qd,.ref 2 U.i),(Qu,.str Qa)])\/∃ w,fr0=[(Qj,u1),(Qk,u2),(Qc,u3),(Ql,.str bg),(Qi,.str la),(Qh,u4),(Qb,.ref 16 n),(Qm,.ref 20 sn),(Qg,u5),(Qq,snapV fin),(Qn,.ref 3 sd),(Qo,u6),(Qd,.ref 2 U.i),(Qu,.str Qa),(Qs,w)]) :
  Run (bnd (loopF (.lst (ps.map .str)) (setL (sc_law p) Qs) (turnL (P p) (callK (P p) (d+7)) (sc_law p) 41 (st_law_l2 p)) 5000 0 fr0) (goOn (J_law_2 p (callK (P p) (d+7))))) O
   fun fl O'=>(∃ a b w,fl=.next [(Qj,u1),(Qk,u2),(Qc,u3),(Ql,.str bg),(Qi,.str la),(Qh,u4),(Qb,.ref 16 n),(Qm,.ref 20 sn),(Qg,u5),(Qq,snapV fin),(Qn,.ref 3 sd),(Qo,u6),(Qd,a),(Qu,b),(Qs,w)])/\Ctx O' n sn sd fin (snapsL (feedL false cs) s0):=by
 have hse:s0.serr=[]:=by rw [hs0];rfl
 have hm0:mach (feedL false cs) s0 "" false=s0:=by rw [hs0];rfl
 refine forRunF (fun k fr O'=>∃ X:Str,X.cps.toList=flatS (ps.take k)/\TP O' U (mach (feedL false cs) s0 X false)/\Ctx O' n sn sd fin (snapsL (feedL false cs) s0) /\
   ((k=0/\X=""/\fr=fr0)\/∃ w,fr=[(Qj,u1),(Qk,u2),(Qc,u3),(Ql,.str bg),(Qi,.str la),(Qh,u4),(Qb,.ref 16 n),(Qm,.ref 20 sn),(Qg,u5),(Qq,snapV fin),(Qn,.ref 3 sd),(Qo,u6),(Qd,.ref 2 U.i),(Qu,.str X),(Qs,w)])) (ps.map .str) ⟨"",by rfl,by rw [hm0];exact h,hC,.inl ⟨rfl,rfl,rfl⟩⟩ (by rw [List.length_map];exact om23 hpl) (fun k v fr O' hv hI=>?_) (fun fr O' hI=>?_) fun fr O' hI=>?_
 ·refine xEAAAA hI fun X hX hTP hC' sh=>?_;refine ⟨by rw [Uc7,hv],?_⟩;rw [List.getElem?_map] at hv;refine xEAA (Option.map_eq_some_iff.mp hv) fun y hy qz1=>?_;subst qz1;have hXy:(X++y).cps.toList=flatS (ps.take (k+1)):=by rw [Ue0,hX,Ukk hy]
  have hp:∃ r,cs=(X++y).cps.toList++r:=⟨flatS (ps.drop (k+1)),by rw [hXy,<- hps];exact Uhe ps (k+1)⟩
  refine ⟨[(Qj,u1),(Qk,u2),(Qc,u3),(Ql,.str bg),(Qi,.str la),(Qh,u4),(Qb,.ref 16 n),(Qm,.ref 20 sn),(Qg,u5),(Qq,snapV fin),(Qn,.ref 3 sd),(Qo,u6),(Qd,.ref 2 U.i),(Qu,.str X),(Qs,.str y)],?_,(Uqy (p:=p) (d:=d) hT h0 hse hC' hTP hp).mono fun fl s2 qq=>xAAA qq fun e h1 h2=>⟨_,e,X++y,hXy,h1,h2,.inr ⟨_,rfl⟩⟩⟩;rw [Ubi (by kernel_rfl)];rcases sh with ⟨rfl,rfl,rfl⟩ | ⟨w,rfl⟩
  ·rcases hfr with ⟨-,rfl⟩ | ⟨w,rfl⟩ <;> kernel_rfl
  ·kernel_rfl
 ·rw [Uc7,List.getElem?_eq_none (Nat.le_refl _)]
 ·refine xEAAAA hI fun X hX hTP hC' sh=>?_;rw [List.length_map,List.take_length,hps] at hX;have sh2:∃ w,fr=[(Qj,u1),(Qk,u2),(Qc,u3),(Ql,.str bg),(Qi,.str la),(Qh,u4),(Qb,.ref 16 n),(Qm,.ref 20 sn),(Qg,u5),(Qq,snapV fin),(Qn,.ref 3 sd),(Qo,u6),(Qd,.ref 2 U.i),(Qu,.str X),(Qs,w)]:=by
   rcases sh with ⟨hk,rfl,rfl⟩ | sh
   ·rcases hfr with ⟨hne,-⟩ | sh
    ·rw [List.length_map] at hk;exact absurd (List.length_eq_zero_iff.mp hk) hne
    ·exact sh
   ·exact sh
  refine xEA sh2 fun w qz1=>?_;subst qz1;rw [Uks];subst hfin;exact Une hT h0 hse hTP hX hC'.note fun O2 f2 hl2=>Run.next ⟨⟨_,_,_,rfl⟩,hC'.fx f2 hl2⟩
end
section
variable {p:Params}{O O' O₁:Store}{n d tb j k sn sd:Nat}{s s0 fin:PS}{cs:List Nat}{x y text:Str}{U:Rf}
theorem Uqz{u1 u2 u3 u4:V}{bg la:Str}{ps:List Str}(hT:TX cs)(hs0:s0=PS.new bg la)(h0:Good 0 s0)(hfin:fin=adv 4 (st (feedL false cs) s0 (feedL false cs).length) "")(hC:Ctx O n sn sd fin (snapsL (feedL false cs) s0))(hps:flatS ps=cs)(hpl:ps.length < 1000)(hne:ps≠[]) :
  Run (turnL (P p) (callK (P p) (d+7)) (sc_law p) 45 (st_law_l1 p) [(Qj,u1),(Qk,u2),(Qc,u3),(Ql,.str bg),(Qi,.str la),(Qh,u4),(Qb,.ref 16 n),(Qm,.ref 20 sn),(Qq,snapV fin),(Qn,.ref 3 sd),(Qo,.lst (ps.map .str))]) O fun fl O'=>(∃ a b w,fl=.next [(Qj,u1),(Qk,u2),(Qc,u3),(Ql,.str bg),(Qi,.str la),(Qh,u4),(Qb,.ref 16 n),(Qm,.ref 20 sn),(Qq,snapV fin),(Qn,.ref 3 sd),(Qo,.lst (ps.map .str)),(Qd,a),(Qu,b),(Qs,w)])/\Ctx O' n sn sd fin (snapsL (feedL false cs) s0):=by
 rw [Uhs];delta T_law_l1_0;refine Run.c (Ujy (p:=p) (d:=d+5) hC.len hC.sts bg la) fun v O1 qq=>xEAAA qq fun U ev h1 f1=>?_;subst ev;rw [<- hs0] at h1;have hl1:O1.length=24:=by refine xEAA h1 fun t h w0=>?_;exact h.len
 exact Ulz (d:=d) hT hs0 h0 (hC.fx f1 hl1) h1 hps hpl hfin (.inl ⟨hne,rfl⟩)
theorem Ur2{u1 u2 u3 u4:V}{bg la:Str}{w1 w2 w3:V}{ps:List Str}(hT:TX cs)(hs0:s0=PS.new bg la)(h0:Good 0 s0)(hfin:fin=adv 4 (st (feedL false cs) s0 (feedL false cs).length) "")(hC:Ctx O n sn sd fin (snapsL (feedL false cs) s0))(hps:flatS ps=cs)(hpl:ps.length < 1000) :
  Run (turnL (P p) (callK (P p) (d+7)) (sc_law p) 45 (st_law_l1 p) [(Qj,u1),(Qk,u2),(Qc,u3),(Ql,.str bg),(Qi,.str la),(Qh,u4),(Qb,.ref 16 n),(Qm,.ref 20 sn),(Qq,snapV fin),(Qn,.ref 3 sd),(Qo,.lst (ps.map .str)),(Qd,w1),(Qu,w2),(Qs,w3)]) O fun fl O'=>(∃ a b w,fl=.next [(Qj,u1),(Qk,u2),(Qc,u3),(Ql,.str bg),(Qi,.str la),(Qh,u4),(Qb,.ref 16 n),(Qm,.ref 20 sn),(Qq,snapV fin),(Qn,.ref 3 sd),(Qo,.lst (ps.map .str)),(Qd,a),(Qu,b),(Qs,w)])/\Ctx O' n sn sd fin (snapsL (feedL false cs) s0):=by
 rw [Uhg];delta T_law_l1_1;refine Run.c (Ujy (p:=p) (d:=d+5) hC.len hC.sts bg la) fun v O1 qq=>xEAAA qq fun U ev h1 f1=>?_;subst ev;rw [<- hs0] at h1;have hl1:O1.length=24:=by refine xEAA h1 fun t h w0=>?_;exact h.len
 exact Ulz (d:=d) hT hs0 h0 (hC.fx f1 hl1) h1 hps hpl hfin (.inr ⟨_,rfl⟩)
theorem Usc{u1 u2 u3 u4:V}{bg la:Str}{p0 p1 p2:List Str}(hT:TX cs)(hs0:s0=PS.new bg la)(h0:Good 0 s0)(hfin:fin=adv 4 (st (feedL false cs) s0 (feedL false cs).length) "")(hC:Ctx O n sn sd fin (snapsL (feedL false cs) s0))(e0:flatS p0=cs)(e1:flatS p1=cs)(e2:flatS p2=cs)(l0:p0.length < 1000)(l1:p1.length < 1000)(l2:p2.length < 1000)(hne:p0≠[]) :
  RF (bnd (loopF (.lst [.lst (p0.map .str),.lst (p1.map .str),.lst (p2.map .str)]) (setL (sc_law p) Qo) (turnL (P p) (callK (P p) (d+7)) (sc_law p) 45 (st_law_l1 p)) 5000 0 [(Qj,u1),(Qk,u2),(Qc,u3),(Ql,.str bg),(Qi,.str la),(Qh,u4),(Qb,.ref 16 n),(Qm,.ref 20 sn),(Qq,snapV fin),(Qn,.ref 3 sd)]) (goOn (J_law_1 p (callK (P p) (d+7))))) O fun v O'=>v=.bool true:=by
 refine forRun (fun k fr O'=>Ctx O' n sn sd fin (snapsL (feedL false cs) s0)/\((k=0/\fr=[(Qj,u1),(Qk,u2),(Qc,u3),(Ql,.str bg),(Qi,.str la),(Qh,u4),(Qb,.ref 16 n),(Qm,.ref 20 sn),(Qq,snapV fin),(Qn,.ref 3 sd)])\/(0 < k/\∃ a b e w,fr=[(Qj,u1),(Qk,u2),(Qc,u3),(Ql,.str bg),(Qi,.str la),(Qh,u4),(Qb,.ref 16 n),(Qm,.ref 20 sn),(Qq,snapV fin),(Qn,.ref 3 sd),(Qo,a),(Qd,b),(Qu,e),(Qs,w)]))) [.lst (p0.map .str),.lst (p1.map .str),.lst (p2.map .str)] ⟨hC,.inl ⟨rfl,rfl⟩⟩ (by simp) (fun k v fr O' hv hI=>?_) (fun fr O' hI=>rfl) fun fr O' hI=>?_
 ·refine xAA hI fun hC' sh=>?_;have hvs:∃ ps:List Str,v=.lst (ps.map .str)/\flatS ps=cs/\ps.length < 1000/\(k=0->ps≠[]):=by
   match k,hv with
   | 0,hv=>cases hv;exact ⟨p0,rfl,e0,l0,fun w0=>hne⟩
   | 1,hv=>cases hv;exact ⟨p1,rfl,e1,l1,fun h=>by cases h⟩
   | 2,hv=>cases hv;exact ⟨p2,rfl,e2,l2,fun h=>by cases h⟩
   | k+3,hv=>cases hv
  refine xEAAAA hvs fun ps qz1 hps hpl hpn=>?_;subst qz1;refine ⟨by rw [Uc7,hv],?_⟩;rcases sh with ⟨rfl,rfl⟩ | ⟨hk,a,b,e,w,rfl⟩
  ·exact ⟨_,by rw [Ubi (by kernel_rfl)];rfl,(Uqz (d:=d) hT hs0 h0 hfin hC' hps hpl (hpn rfl)).mono fun fl s2 ⟨⟨a,b,w,e⟩,h⟩=>.inl ⟨_,e,h,.inr ⟨by omega,_,_,_,_,rfl⟩⟩⟩
  ·exact ⟨[(Qj,u1),(Qk,u2),(Qc,u3),(Ql,.str bg),(Qi,.str la),(Qh,u4),(Qb,.ref 16 n),(Qm,.ref 20 sn),(Qq,snapV fin),(Qn,.ref 3 sd),(Qo,.lst (ps.map .str)),(Qd,b),(Qu,e),(Qs,w)],by rw [Ubi (by kernel_rfl)];kernel_rfl,(Ur2 (d:=d) hT hs0 h0 hfin hC' hps hpl).mono fun fl s2 ⟨⟨a,b,w,e⟩,h⟩=>.inl ⟨_,e,h,.inr ⟨by omega,_,_,_,_,rfl⟩⟩⟩
 ·refine xAA hI fun hC' sh=>?_;rcases sh with ⟨hk,-⟩ | ⟨-,a,b,e,w,rfl⟩
  ·cases hk
  ·rw [Uk0];exact RF.r rfl
theorem Uqs{u1 u2 u3 u4 u5:V}{bg la:Str}{ps:List Str}(hT:TX cs)(hs0:s0=PS.new bg la)(h0:Good 0 s0)(hfin:fin=adv 4 (st (feedL false cs) s0 (feedL false cs).length) "")(hC:Ctx O n sn sd fin (snapsL (feedL false cs) s0))(hps:flatS ps=cs)(hpl:ps.length < 1000)(hne:ps≠[]) :
  Run (turnL (P p) (callK (P p) (d+7)) (sc_law p) 45 (st_law_l1 p) [(Qj,u1),(Qk,u2),(Qc,u3),(Ql,.str bg),(Qi,.str la),(Qh,u4),(Qb,.ref 16 n),(Qm,.ref 20 sn),(Qg,u5),(Qq,snapV fin),(Qn,.ref 3 sd),(Qo,.lst (ps.map .str))]) O fun fl O'=>(∃ a b w,fl=.next [(Qj,u1),(Qk,u2),(Qc,u3),(Ql,.str bg),(Qi,.str la),(Qh,u4),(Qb,.ref 16 n),(Qm,.ref 20 sn),(Qg,u5),(Qq,snapV fin),(Qn,.ref 3 sd),(Qo,.lst (ps.map .str)),(Qd,a),(Qu,b),(Qs,w)])/\Ctx O' n sn sd fin (snapsL (feedL false cs) s0):=by
 rw [Uhj];delta T_law_l1_2;refine Run.c (Ujy (p:=p) (d:=d+5) hC.len hC.sts bg la) fun v O1 qq=>xEAAA qq fun U ev h1 f1=>?_;subst ev;rw [<- hs0] at h1;have hl1:O1.length=24:=by refine xEAA h1 fun t h w0=>?_;exact h.len
 exact Umm (d:=d) hT hs0 h0 (hC.fx f1 hl1) h1 hps hpl hfin (.inl ⟨hne,rfl⟩)
theorem Ura{u1 u2 u3 u4 u5:V}{bg la:Str}{w1 w2 w3:V}{ps:List Str}(hT:TX cs)(hs0:s0=PS.new bg la)(h0:Good 0 s0)(hfin:fin=adv 4 (st (feedL false cs) s0 (feedL false cs).length) "")(hC:Ctx O n sn sd fin (snapsL (feedL false cs) s0))(hps:flatS ps=cs)(hpl:ps.length < 1000) :
  Run (turnL (P p) (callK (P p) (d+7)) (sc_law p) 45 (st_law_l1 p) [(Qj,u1),(Qk,u2),(Qc,u3),(Ql,.str bg),(Qi,.str la),(Qh,u4),(Qb,.ref 16 n),(Qm,.ref 20 sn),(Qg,u5),(Qq,snapV fin),(Qn,.ref 3 sd),(Qo,.lst (ps.map .str)),(Qd,w1),(Qu,w2),(Qs,w3)]) O fun fl O'=>(∃ a b w,fl=.next [(Qj,u1),(Qk,u2),(Qc,u3),(Ql,.str bg),(Qi,.str la),(Qh,u4),(Qb,.ref 16 n),(Qm,.ref 20 sn),(Qg,u5),(Qq,snapV fin),(Qn,.ref 3 sd),(Qo,.lst (ps.map .str)),(Qd,a),(Qu,b),(Qs,w)])/\Ctx O' n sn sd fin (snapsL (feedL false cs) s0):=by
 rw [Uh6];delta T_law_l1_3;refine Run.c (Ujy (p:=p) (d:=d+5) hC.len hC.sts bg la) fun v O1 qq=>xEAAA qq fun U ev h1 f1=>?_;subst ev;rw [<- hs0] at h1;have hl1:O1.length=24:=by refine xEAA h1 fun t h w0=>?_;exact h.len
 exact Umm (d:=d) hT hs0 h0 (hC.fx f1 hl1) h1 hps hpl hfin (.inr ⟨_,rfl⟩)
theorem Urz{u1 u2 u3 u4 u5:V}{bg la:Str}{p0 p1 p2:List Str}(hT:TX cs)(hs0:s0=PS.new bg la)(h0:Good 0 s0)(hfin:fin=adv 4 (st (feedL false cs) s0 (feedL false cs).length) "")(hC:Ctx O n sn sd fin (snapsL (feedL false cs) s0))(e0:flatS p0=cs)(e1:flatS p1=cs)(e2:flatS p2=cs)(l0:p0.length < 1000)(l1:p1.length < 1000)(l2:p2.length < 1000)(hne:p0≠[]) :
  RF (bnd (loopF (.lst [.lst (p0.map .str),.lst (p1.map .str),.lst (p2.map .str)]) (setL (sc_law p) Qo) (turnL (P p) (callK (P p) (d+7)) (sc_law p) 45 (st_law_l1 p)) 5000 0 [(Qj,u1),(Qk,u2),(Qc,u3),(Ql,.str bg),(Qi,.str la),(Qh,u4),(Qb,.ref 16 n),(Qm,.ref 20 sn),(Qg,u5),(Qq,snapV fin),(Qn,.ref 3 sd)]) (goOn (J_law_1 p (callK (P p) (d+7))))) O fun v O'=>v=.bool true:=by
 refine forRun (fun k fr O'=>Ctx O' n sn sd fin (snapsL (feedL false cs) s0)/\((k=0/\fr=[(Qj,u1),(Qk,u2),(Qc,u3),(Ql,.str bg),(Qi,.str la),(Qh,u4),(Qb,.ref 16 n),(Qm,.ref 20 sn),(Qg,u5),(Qq,snapV fin),(Qn,.ref 3 sd)])\/(0 < k/\∃ a b e w,fr=[(Qj,u1),(Qk,u2),(Qc,u3),(Ql,.str bg),(Qi,.str la),(Qh,u4),(Qb,.ref 16 n),(Qm,.ref 20 sn),(Qg,u5),(Qq,snapV fin),(Qn,.ref 3 sd),(Qo,a),(Qd,b),(Qu,e),(Qs,w)]))) [.lst (p0.map .str),.lst (p1.map .str),.lst (p2.map .str)] ⟨hC,.inl ⟨rfl,rfl⟩⟩ (by simp) (fun k v fr O' hv hI=>?_) (fun fr O' hI=>rfl) fun fr O' hI=>?_
 ·refine xAA hI fun hC' sh=>?_;have hvs:∃ ps:List Str,v=.lst (ps.map .str)/\flatS ps=cs/\ps.length < 1000/\(k=0->ps≠[]):=by
   match k,hv with
   | 0,hv=>cases hv;exact ⟨p0,rfl,e0,l0,fun w0=>hne⟩
   | 1,hv=>cases hv;exact ⟨p1,rfl,e1,l1,fun h=>by cases h⟩
   | 2,hv=>cases hv;exact ⟨p2,rfl,e2,l2,fun h=>by cases h⟩
   | k+3,hv=>cases hv
  refine xEAAAA hvs fun ps qz1 hps hpl hpn=>?_;subst qz1;refine ⟨by rw [Uc7,hv],?_⟩;rcases sh with ⟨rfl,rfl⟩ | ⟨hk,a,b,e,w,rfl⟩
  ·exact ⟨_,by rw [Ubi (by kernel_rfl)];rfl,(Uqs (d:=d) hT hs0 h0 hfin hC' hps hpl (hpn rfl)).mono fun fl s2 ⟨⟨a,b,w,e⟩,h⟩=>.inl ⟨_,e,h,.inr ⟨by omega,_,_,_,_,rfl⟩⟩⟩
  ·exact ⟨[(Qj,u1),(Qk,u2),(Qc,u3),(Ql,.str bg),(Qi,.str la),(Qh,u4),(Qb,.ref 16 n),(Qm,.ref 20 sn),(Qg,u5),(Qq,snapV fin),(Qn,.ref 3 sd),(Qo,.lst (ps.map .str)),(Qd,b),(Qu,e),(Qs,w)],by rw [Ubi (by kernel_rfl)];kernel_rfl,(Ura (d:=d) hT hs0 h0 hfin hC' hps hpl).mono fun fl s2 ⟨⟨a,b,w,e⟩,h⟩=>.inl ⟨_,e,h,.inr ⟨by omega,_,_,_,_,rfl⟩⟩⟩
 ·refine xAA hI fun hC' sh=>?_;rcases sh with ⟨hk,-⟩ | ⟨-,a,b,e,w,rfl⟩
  ·cases hk
  ·rw [Ukw];exact RF.r rfl
end
section
variable {p:Params}{O O' O₁:Store}{n d tb j k sn sd:Nat}{s s0 fin:PS}{cs:List Nat}{x y text:Str}{U:Rf}
theorem Uo8(l:List Nat):flatS (l.map ch)=l:=by
 delta flatS;rw [List.map_map];induction l with
 | nil=>rfl
 | cons a r ih=>simpa [ch] using ih
theorem Ulg(x:Str):builtinV .list [.str x] O=some (.lst ((x.cps.toList.map ch).map .str),O):=by
 rw [List.map_map];rfl
theorem Us5{u2:V}{bg la:Str}{ns:List Int}(hT:TX cs)(hs0:s0=PS.new bg la)(h0:Good 0 s0)(hN:NS O n (st (feedL false cs) s0 (feedL false cs).length))(hTB:TB O tb)(hs:O.get 20 sn=some (.list (snapsL (feedL false cs) s0)))(hx:text.cps.toList=cs) :
  RF (J_law_0 p (callK (P p) (d+7)) [(Qj,.lst (ns.map .int)),(Qk,u2),(Qc,.str text),(Ql,.str bg),(Qi,.str la),(Qh,.ref 13 tb),(Qb,.ref 16 n),(Qm,.ref 20 sn)]) O fun v O'=>v=.bool true:=by
 rw [Uk5];delta J_law_0_T0;have hG:=Uc4 hT h0 (feedL false cs).length (Nat.le_refl _);have hfl:=Ubr false cs;have hl:=hT.len;refine RF.c (Umy (p:=p) (d:=d+2) hN hTB (List.mem_cons_self) (hG.inv.imp id fun h=>h.2) hG.sz hG.kq hG.done (fun w0=>by decide) (om41 hfl hl)) fun v O1 qq=>xAAA qq fun ev hN1 g1=>?_;subst ev;have hlen1:=hN1.len;refine xEA (reg_of hlen1 (by decide:3 < 24)) fun l3 hl3=>?_;refine RF.b (Ued hl3) ?_;have ht2:=Ua1 (o:=.dict tagEs) hl3;have hl4:(O1.add 3 (.dict tagEs))[3]?=some (l3++[.dict tagEs]):=by
  delta Store.add;rw [List.getElem?_modify,hl3];rfl
 refine RF.upd ht2 (RF.b (Udd hl4) ?_);have ht3:=Ubg (o:=.dict attrEs) hl4 ht2;have ha3:=Ua1 (o:=.dict attrEs) hl4;refine RF.b (upd_of (es':=stEs) ht3 ha3 (by decide) (.inr (by simp)) (by kernel_rfl)) ?_;have hst:(((O1.add 3 (.dict tagEs)).add 3 (.dict attrEs)).put 3 l3.length (.dict stEs)).get 3 l3.length=some (.dict stEs):=Uae ht3;have keep:∀ r,r≠3->(((O1.add 3 (.dict tagEs)).add 3 (.dict attrEs)).put 3 l3.length (.dict stEs))[r]?=O1[r]?:=fun r hr=>by rw [Ua9 hr,Uca hr,Uca hr]
 have hlen4:(((O1.add 3 (.dict tagEs)).add 3 (.dict attrEs)).put 3 l3.length (.dict stEs)).length=24:=by rw [Uah,Uau,Uau];exact hlen1
 revert hst keep hlen4
 generalize ((O1.add 3 (.dict tagEs)).add 3 (.dict attrEs)).put 3 l3.length (.dict stEs)=O4
 intro hst keep hlen4;refine RF.b1 (RF.b (Ulg text) (RF.c (Uh9 (p:=p) (d:=d+5) ns text hlen4) fun v O5 qq=>xEAAAAA qq fun ps ev hps hpl hlen5 keep5=>?_));subst ev;have hreg:∀ r,r≠3->r≠11->O5[r]?=O1[r]?:=fun r h1 h2=>(keep5 r h2).trans (keep r h1);have hC:Ctx O5 n sn l3.length (adv 4 (st (feedL false cs) s0 (feedL false cs).length) "") (snapsL (feedL false cs) s0):=by
  refine ⟨hlen5,hN1.of_reg hlen5 fun r hr=>hreg r (by rintro rfl;cases hr) (by rintro rfl;cases hr),?_,?_⟩
  ·delta Store.get;rw [hreg 20 (by decide) (by decide)];exact (g1.get (i:=sn) (by rfl:noteR 20=false)).trans hs
  ·delta Store.get;rw [keep5 3 (by decide)];exact hst
 refine RF.b1 ?_;have:=Usc (p:=p) (d:=d) (p0:=[text]) (p1:=text.cps.toList.map ch) (p2:=ps) (u1:=.lst (ns.map .int)) (u2:=u2) (u3:=.str text) (u4:=.ref 13 tb) (bg:=bg) (la:=la) hT hs0 h0 rfl hC (by show text.cps.toList++[]=cs;rw [List.append_nil];exact hx) (by rw [Uo8];exact hx) (by rw [hps];exact hx) (by show 1 < 1000;decide) (by rw [List.length_map,hx];omega) (by omega) (by simp);exact this
theorem Uss{u2 u5:V}{bg la:Str}{ns:List Int}(hT:TX cs)(hs0:s0=PS.new bg la)(h0:Good 0 s0)(hN:NS O n (st (feedL false cs) s0 (feedL false cs).length))(hTB:TB O tb)(hs:O.get 20 sn=some (.list (snapsL (feedL false cs) s0)))(hx:text.cps.toList=cs) :
  RF (J_law_0 p (callK (P p) (d+7)) [(Qj,.lst (ns.map .int)),(Qk,u2),(Qc,.str text),(Ql,.str bg),(Qi,.str la),(Qh,.ref 13 tb),(Qb,.ref 16 n),(Qm,.ref 20 sn),(Qg,u5)]) O fun v O'=>v=.bool true:=by
 rw [Ukx];delta J_law_0_T1;have hG:=Uc4 hT h0 (feedL false cs).length (Nat.le_refl _);have hfl:=Ubr false cs;have hl:=hT.len;refine RF.c (Umy (p:=p) (d:=d+2) hN hTB (List.mem_cons_self) (hG.inv.imp id fun h=>h.2) hG.sz hG.kq hG.done (fun w0=>by decide) (om41 hfl hl)) fun v O1 qq=>xAAA qq fun ev hN1 g1=>?_;subst ev;have hlen1:=hN1.len;refine xEA (reg_of hlen1 (by decide:3 < 24)) fun l3 hl3=>?_;refine RF.b (Ued hl3) ?_;have ht2:=Ua1 (o:=.dict tagEs) hl3;have hl4:(O1.add 3 (.dict tagEs))[3]?=some (l3++[.dict tagEs]):=by
  delta Store.add;rw [List.getElem?_modify,hl3];rfl
 refine RF.upd ht2 (RF.b (Udd hl4) ?_);have ht3:=Ubg (o:=.dict attrEs) hl4 ht2;have ha3:=Ua1 (o:=.dict attrEs) hl4;refine RF.b (upd_of (es':=stEs) ht3 ha3 (by decide) (.inr (by simp)) (by kernel_rfl)) ?_;have hst:(((O1.add 3 (.dict tagEs)).add 3 (.dict attrEs)).put 3 l3.length (.dict stEs)).get 3 l3.length=some (.dict stEs):=Uae ht3;have keep:∀ r,r≠3->(((O1.add 3 (.dict tagEs)).add 3 (.dict attrEs)).put 3 l3.length (.dict stEs))[r]?=O1[r]?:=fun r hr=>by rw [Ua9 hr,Uca hr,Uca hr]
 have hlen4:(((O1.add 3 (.dict tagEs)).add 3 (.dict attrEs)).put 3 l3.length (.dict stEs)).length=24:=by rw [Uah,Uau,Uau];exact hlen1
 revert hst keep hlen4
 generalize ((O1.add 3 (.dict tagEs)).add 3 (.dict attrEs)).put 3 l3.length (.dict stEs)=O4
 intro hst keep hlen4;refine RF.b1 (RF.b (Ulg text) (RF.c (Uh9 (p:=p) (d:=d+5) ns text hlen4) fun v O5 qq=>xEAAAAA qq fun ps ev hps hpl hlen5 keep5=>?_));subst ev;have hreg:∀ r,r≠3->r≠11->O5[r]?=O1[r]?:=fun r h1 h2=>(keep5 r h2).trans (keep r h1);have hC:Ctx O5 n sn l3.length (adv 4 (st (feedL false cs) s0 (feedL false cs).length) "") (snapsL (feedL false cs) s0):=by
  refine ⟨hlen5,hN1.of_reg hlen5 fun r hr=>hreg r (by rintro rfl;cases hr) (by rintro rfl;cases hr),?_,?_⟩
  ·delta Store.get;rw [hreg 20 (by decide) (by decide)];exact (g1.get (i:=sn) (by rfl:noteR 20=false)).trans hs
  ·delta Store.get;rw [keep5 3 (by decide)];exact hst
 refine RF.b1 ?_;have:=Urz (p:=p) (d:=d) (p0:=[text]) (p1:=text.cps.toList.map ch) (p2:=ps) (u1:=.lst (ns.map .int)) (u2:=u2) (u3:=.str text) (u4:=.ref 13 tb) (u5:=u5) (bg:=bg) (la:=la) hT hs0 h0 rfl hC (by show text.cps.toList++[]=cs;rw [List.append_nil];exact hx) (by rw [Uo8];exact hx) (by rw [hps];exact hx) (by show 1 < 1000;decide) (by rw [List.length_map,hx];omega) (by omega) (by simp);exact this
end
section
variable {p:Params}{O O' O₁:Store}{n d tb j k sn sd:Nat}{s s0 fin:PS}{cs:List Nat}{x y text:Str}{U:Rf}
noncomputable def snapsK(S:List Str)(s0:PS)(k:Nat):List V:=(List.range (k+1)).map fun j=>snapV (st S s0 j)
theorem Uge(S:List Str)(s0:PS)(k:Nat):snapsK S s0 (k+1)=snapsK S s0 k++[snapV (st S s0 (k+1))]:=by
 delta snapsK;rw [List.range_succ,List.map_append]
 rfl
theorem Uk2(S:List Str)(s0:PS)(k:Nat):snapsK S s0 k=(List.range k).map (fun j=>snapV (st S s0 j))++[snapV (st S s0 k)]:=by
 delta snapsK;rw [List.range_succ,List.map_append]
 rfl
theorem TB.state(h:TB O tb)(x:Str):cmpV .In (.str x) (.ref 13 tb) O=some (ofStr x).isSome:=by
 refine xEAA h fun rv hT w0=>?_;refine (Uj5 hT).trans ?_;rw [Ugi];delta ofStr;cases allSt.find? fun q=>q.str==x <;> rfl
theorem Uub{u2:V}{bg la:Str}{ns:List Int}(hT:TX cs)(hs0:s0=PS.new bg la)(h0:Good 0 s0)(hN:NS O n s0)(hTB:TB O tb)(hs:O.get 20 sn=some (.list [snapV s0]))(hx:text.cps.toList=cs)(hy:y.cps.toList=nl cs) :
  RF (bnd (loopF (.str y) (setL (sc_law p) Qg) (turnL (P p) (callK (P p) (d+7)) (sc_law p) 49 (st_law_l0 p)) 5000 0 [(Qj,.lst (ns.map .int)),(Qk,u2),(Qc,.str text),(Ql,.str bg),(Qi,.str la),(Qh,.ref 13 tb),(Qb,.ref 16 n),(Qm,.ref 20 sn)]) (goOn (J_law_0 p (callK (P p) (d+7))))) O fun v O'=>v=.bool true:=by
 have hS:feedL false cs=y.cps.toList.map ch:=by rw [hy];exact Ugc cs.length cs (Nat.le_refl _)
 have hlen:y.cps.toList.length=(feedL false cs).length:=by rw [hS,List.length_map]
 have hfl:=Ubr false cs;have hl:=hT.len;refine forRun (fun k fr O'=>NS O' n (st (feedL false cs) s0 k)/\TB O' tb/\O'.get 20 sn=some (.list (snapsK (feedL false cs) s0 k))/\(fr=[(Qj,.lst (ns.map .int)),(Qk,u2),(Qc,.str text),(Ql,.str bg),(Qi,.str la),(Qh,.ref 13 tb),(Qb,.ref 16 n),(Qm,.ref 20 sn)]\/∃ w,fr=[(Qj,.lst (ns.map .int)),(Qk,u2),(Qc,.str text),(Ql,.str bg),(Qi,.str la),(Qh,.ref 13 tb),(Qb,.ref 16 n),(Qm,.ref 20 sn),(Qg,w)])) (y.cps.toList.map fun c=>.str (ch c))
  ⟨hN,hTB,hs,.inl rfl⟩ (by rw [List.length_map];exact Nat.lt_of_le_of_lt (Nat.le_trans (Nat.le_of_eq hlen) (Nat.le_trans hfl hl)) (by decide)) (fun k v fr O' hv hI=>?_) (fun fr O' hI=>Ugl (by simp)) fun fr O' hI=>?_
 ·refine xAAAA hI fun hN' hTB' hs' sh=>?_;rw [List.getElem?_map] at hv;refine xEAA (Option.map_eq_some_iff.mp hv) fun c hc qz1=>?_;subst qz1;have hSk:(feedL false cs)[k]?=some (ch c):=by rw [hS,List.getElem?_map,hc];rfl
  have hk:k < (feedL false cs).length:=by rw [List.getElem?_eq_some_iff] at hSk;exact hSk.1
  refine xAAA (hT.signs k _ hSk) fun c1 c2 c3=>?_;have hG:=Uc4 hT h0 k (om49 hk);refine ⟨Ue9 (by rw [<- hc];simp),[(Qj,.lst (ns.map .int)),(Qk,u2),(Qc,.str text),(Ql,.str bg),(Qi,.str la),(Qh,.ref 13 tb),(Qb,.ref 16 n),(Qm,.ref 20 sn),(Qg,.str (ch c))],?_,?_⟩
  ·rw [Ubi (by kernel_rfl)];rcases sh with rfl | ⟨w,rfl⟩ <;> kernel_rfl
  ·rw [Uhx];delta T_law_l0_0;have hcf:fresh (st (feedL false cs) s0 k)->ch c≠"c":=fun hf=>c3 (by
    have hpos:∀ q,ofStr (st (feedL false cs) s0 k).state=some q->(st (feedL false cs) s0 k).pos=k:=fun q hq=>by
     rcases hG.inv with e | ⟨e,_⟩
     ·rw [hq] at e;cases e
     ·exact e
    rcases hf with e | e
    ·have e2:=hpos .tagOpen (by rw [e];exact Uai .tagOpen);have e3:=hG.fp.1 e;exact om44 e2 e3
    ·have e2:=hpos .endOpen (by rw [e];exact Uai .endOpen);have e3:=hG.fp.2 e;exact om45 e2 e3)
   have keep:∀ (s2:Store) (vs:List V),s2.get 20 sn=some (.list vs)->NS s2 n (st (feedL false cs) s0 (k+1))->TB s2 tb->NS (s2.put 20 sn (.list (vs++[snapV (st (feedL false cs) s0 (k+1))]))) n (st (feedL false cs) s0 (k+1))/\TB (s2.put 20 sn (.list (vs++[snapV (st (feedL false cs) s0 (k+1))]))) tb:=fun s2 vs h1 h2 h3 =>
    ⟨h2.of_reg (Uah.trans h2.len) fun r hr=>Ua9 (by rintro rfl;cases hr),h3.of_reg fun r hr=>Ua9 (by rcases hr with rfl | rfl <;> decide)⟩
   have hll:∀ vs:List V,vs=snapsK (feedL false cs) s0 k->vs.length < lim:=fun vs e=>by
    rw [e];delta snapsK;rw [List.length_map,List.length_range];delta lim;exact Nat.lt_of_le_of_lt (Nat.le_trans hk (Nat.le_trans hfl hl)) (by decide)
   refine Run.app hs' (Run.l hN'.item_state (Run.l (hTB'.state _) ?_));cases ho:(ofStr (st (feedL false cs) s0 k).state).isSome with
   | true =>
    refine Run.pos rfl (Run.c (Umy (p:=p) (d:=d+2) hN' hTB' c1 (hG.inv.imp id fun h=>h.2) hG.sz hG.kq hG.done hcf (om322 hfl hl hk)) fun v O2 qq=>xAAA qq fun ev hN2 g2=>?_);subst ev;have hs2:O2.get 20 sn=some (.list (snapsK (feedL false cs) s0 k)):=(g2.get (by rfl:noteR 20=false)).trans hs';rw [<- Unb hSk] at hN2 ⊢;refine xAA (keep O2 _ hs2 hN2 (hTB'.gx g2)) fun k1 k2=>?_;refine Run.b (Uag hs2 (hll _ rfl)) (Run.next (.inl ⟨_,rfl,k1,k2,?_,.inr ⟨_,rfl⟩⟩));rw [Uge];exact Uae hs2
   | false =>
    have hn:ofStr (st (feedL false cs) s0 k).state=none:=by cases h:ofStr (st (feedL false cs) s0 k).state with | none=>rfl | some q=>rw [h] at ho;cases ho
    have e:st (feedL false cs) s0 (k+1)=st (feedL false cs) s0 k:=by rw [Unb hSk,Ubt 4 hn]
    have hs3:itemV (.ref 20 sn) (.int (-1)) O'=some (snapV (st (feedL false cs) s0 (k+1))):=by
     rw [e];exact Ukn (vs:=(List.range k).map fun j=>snapV (st (feedL false cs) s0 j)) (by rw [<- Uk2];exact hs')
    refine xAA (keep O' _ hs' (by rw [e];exact hN') hTB') fun k1 k2=>?_;refine Run.neg Bool.false_ne_true (Run.l hs3 (Run.b (Uag hs' (hll _ rfl)) (Run.next (.inl ⟨_,rfl,k1,k2,?_,.inr ⟨_,rfl⟩⟩))));rw [Uge];exact Uae hs'
 ·refine xAAAA hI fun hN' hTB' hs' sh=>?_;rw [List.length_map,hlen] at hN' hs';rcases sh with rfl | ⟨w,rfl⟩
  ·exact Us5 hT hs0 h0 hN' hTB' hs' hx
  ·exact Uss hT hs0 h0 hN' hTB' hs' hx
end
theorem Um5:headsC.all (fun c=>(13::codes3).contains c&&c != 99&&c != 13)=true:=by kernel_rfl
theorem Ust:poolC.all (fun c=>(13::codes3).contains c)=true:=by kernel_rfl
theorem Uqh:tailC.all (fun c=>(13::codes3).contains c)=true:=by kernel_rfl
theorem Ut8(ns:List Int)(z:Nat)(hz:z<=16):TX ((textC ns).take z):=by
 have hA:∀ c ∈ ((ns.drop 1).take 2).map (pickC headsC 16),c ∈ headsC:=fun c h=>by
  obtain ⟨i,-,rfl⟩:=List.mem_map.mp h;exact Umr (m:=16) (by decide) rfl i
 have hB:∀ c ∈ ((ns.drop 3).take 14).map (pickC poolC 24),c ∈ poolC:=fun c h=>by
  obtain ⟨i,-,rfl⟩:=List.mem_map.mp h;exact Umr (m:=24) (by decide) rfl i
 refine ⟨fun c h=>?_,fun i hi c h=>?_,by rw [List.length_take];exact Nat.le_trans (Nat.min_le_left _ _) hz⟩
 ·have h:=List.mem_of_mem_take h;unfold textC drawnC at h;rcases List.mem_append.mp h with h | h
  ·rcases List.mem_append.mp h with h | h
   ·have:=List.all_eq_true.mp Um5 c (hA c h);rw [Bool.and_eq_true,Bool.and_eq_true] at this
    simpa using this.1.1
   ·simpa using List.all_eq_true.mp Ust c (hB c h)
  ·simpa using List.all_eq_true.mp Uqh c (List.mem_of_mem_drop h)
 ·have h:(textC ns)[i]?=some c:=by
   rw [List.getElem?_take] at h;split at h
   ·exact h
   ·cases h
  have fin:c ∈ headsC->c≠99/\c≠13:=fun hm=>by
   have:=List.all_eq_true.mp Um5 c hm;rw [Bool.and_eq_true,Bool.and_eq_true] at this;exact ⟨by simpa using this.1.2,by simpa using this.2⟩
  delta textC drawnC at h;have hAl:(((ns.drop 1).take 2).map (pickC headsC 16)).length=min 2 (ns.length - 1):=by rw [List.length_map,List.length_take,List.length_drop]
  by_cases hlt:i < (((ns.drop 1).take 2).map (pickC headsC 16)).length
  ·rw [List.append_assoc,List.getElem?_append_left hlt] at h;exact fin (hA c (List.mem_of_getElem? h))
  ·have hB0:(ns.drop 3).take 14=[]:=by
    rw [hAl] at hlt;have:ns.length<=2:=by omega
    rw [List.drop_eq_nil_of_le (by omega)];rfl
   rw [hB0,List.map_nil,List.append_nil,List.getElem?_append_right (Nat.le_of_not_lt hlt),List.getElem?_drop] at h;rw [show (((ns.drop 1).take 2).map (pickC headsC 16)).length+(i - (((ns.drop 1).take 2).map (pickC headsC 16)).length)=i by omega] at h
   match i,hi,h with
   | 0,_,h =>
    have:c=65:=by
     have e:tailC[0]?=some 65:=by kernel_rfl
     rw [e] at h;cases h;rfl
    rw [this];decide
   | 1,_,h =>
    have:c=98:=by
     have e:tailC[1]?=some 98:=by kernel_rfl
     rw [e] at h;cases h;rfl
    rw [this];decide
section
variable {p:Params}{O O' O₁:Store}{n d tb j k sn sd:Nat}{s s0 fin:PS}{cs:List Nat}{x y text:Str}{U:Rf}{Q:V->Store->Prop}{K:V->M Fl}
theorem Ur7(ns:List Int)(hlen:O.length=24):Run (callK (P p) (d+8) a_law [.lst (ns.map .int)]) O fun v O'=>v=.bool true:=by
 rw [B_law];show RF _ O _;delta F_law;obtain ⟨x,hx,hxc⟩:=Uso (p:=p) (d:=d+6) (O:=O) ns;refine RF.b (Ug3 (d:=d+6) ns 0 (by decide)) (RF.b hx (RF.b1 (RF.l (a:=.int ((num ns 0).fdiv 6)) ?_ (RF.l (a:=.int (((num ns 0).fdiv 6).fmod 6)) ?_ ?_))))
 ·exact div_of ⟨by decide,by decide⟩
 ·exact mod_of (by decide)
 obtain ⟨v,hv,hi⟩:=Uik (O:=O) [.int 16,.int 0,.int 16,.int 1,.int 16,.int 2] 6 (by decide) rfl ((num ns 0).fdiv 6);have hz:∃ z:Nat,v=.int z/\z<=16:=by
  simp at hv;rcases hv with rfl | rfl | rfl | rfl | rfl | rfl
  ·exact ⟨16,rfl,by decide⟩
  ·exact ⟨0,rfl,by decide⟩
  ·exact ⟨16,rfl,by decide⟩
  ·exact ⟨1,rfl,by decide⟩
  ·exact ⟨16,rfl,by decide⟩
  ·exact ⟨2,rfl,by decide⟩
 obtain ⟨z,rfl,hz⟩:=hz;refine RF.l hi (RF.l (a:=.str ⟨((textC ns).take z).toArray⟩) ?_ (RF.b1 (RF.l (a:=.int ((num ns 0).fmod 2)) ?_ ?_)))
 ·show some (V.str ⟨(sliceL none (some (z:Int)) x.cps.toList).toArray⟩)=_;rw [Uq4,hxc]
 ·exact mod_of (by decide)
 obtain ⟨bgv,hbv,hib⟩:=Uik (O:=O) [.str Qae,.str Qbg] 2 (by decide) rfl (num ns 0);have hbg:∃ bg:Str,bgv=.str bg/\(bg="tag open"\/bg="end tag open"):=by
  simp at hbv;rcases hbv with rfl | rfl
  ·exact ⟨_,rfl,.inl rfl⟩
  ·exact ⟨_,rfl,.inr rfl⟩
 obtain ⟨bg,rfl,hbg⟩:=hbg;refine RF.l hib (RF.b1 (RF.l (a:=.int ((num ns 0).fdiv 2)) ?_ (RF.l (a:=.int (((num ns 0).fdiv 2).fmod 3)) ?_ ?_)))
 ·exact div_of ⟨by decide,by decide⟩
 ·exact mod_of (by decide)
 obtain ⟨lav,hlv,hil⟩:=Uik (O:=O) [.str Qa,.str Qbh,.str (Y "ab")] 3 (by decide) rfl ((num ns 0).fdiv 2);have hla:∃ la:Str,lav=.str la:=by
  simp at hlv;rcases hlv with rfl | rfl | rfl <;> exact ⟨_,rfl⟩
 obtain ⟨la,rfl⟩:=hla;refine RF.l hil (RF.c (Uq0 (p:=p) (d:=d+6) hlen) fun v O1 ⟨tb,i1,i2,i3,i4,ev,G1,D1,r1,r2,r3,r4⟩=>?_);subst ev;have l1:=G1.len.trans hlen;refine RF.upd D1 (RF.c (Uoz (p:=p) (d:=d+6) l1) fun v O2 ⟨tn,i5,i6,i7,ev,G2,n2,D2,r5,r6,r7⟩=>?_);subst ev;have l2:=G2.len.trans l1;have ht2:=G2.keep _ _ _ D1;have hne2:tb≠tn:=by rintro rfl;rw [D1] at n2;cases n2
 refine RF.b (upd_of (es':=[(Qae,.ref 12 i1),(Qbg,.ref 12 i2),(Qad,.ref 12 i3),(Qbc,.ref 12 i4),(Qav,.ref 12 i5),(Qac,.ref 12 i6),(Qbk,.ref 12 i7)]) ht2 D2 (by show 4+3 < lim;decide) (.inr hne2) (by kernel_rfl)) ?_;have ht3:=Uae (o:=.dict [(Qae,.ref 12 i1),(Qbg,.ref 12 i2),(Qad,.ref 12 i3),(Qbc,.ref 12 i4),(Qav,.ref 12 i5),(Qac,.ref 12 i6),(Qbk,.ref 12 i7)]) ht2;have keep3:∀ i o,O2.get 12 i=some o->(O2.put 13 tb (.dict [(Qae,.ref 12 i1),(Qbg,.ref 12 i2),(Qad,.ref 12 i3),(Qbc,.ref 12 i4),(Qav,.ref 12 i5),(Qac,.ref 12 i6),(Qbk,.ref 12 i7)])).get 12 i=some o:=fun i o h=>by rw [Uab (by decide)];exact h
 have l3:(O2.put 13 tb (.dict [(Qae,.ref 12 i1),(Qbg,.ref 12 i2),(Qad,.ref 12 i3),(Qbc,.ref 12 i4),(Qav,.ref 12 i5),(Qac,.ref 12 i6),(Qbk,.ref 12 i7)])).length=24:=Uah.trans l2;revert ht3 keep3 l3
 generalize O2.put 13 tb _=O3
 intro ht3 keep3 l3;refine RF.upd ht3 (RF.c (Ul4 (p:=p) (d:=d+6) l3) fun v O4 ⟨tv,i8,i9,ev,G4,n4,D4,r8,r9⟩=>?_);subst ev;have l4:=G4.len.trans l3;have ht4:=G4.keep _ _ _ ht3;have hne4:tb≠tv:=by rintro rfl;rw [ht3] at n4;cases n4
 let rv:St->V:=fun q=>match q with
  | .tagOpen=>.ref 12 i1 | .endOpen=>.ref 12 i2 | .tagName=>.ref 12 i3 | .self=>.ref 12 i4 | .befName=>.ref 12 i5 | .name=>.ref 12 i6 | .aftName=>.ref 12 i7
  | .befVal=>.ref 12 i8 | .dq=>.lst (rowsL .dq) | .sq=>.lst (rowsL .sq) | .bare=>.lst (rowsL .bare) | .aftVal=>.ref 12 i9
 have hes:updD [(Qae,.ref 12 i1),(Qbg,.ref 12 i2),(Qad,.ref 12 i3),(Qbc,.ref 12 i4),(Qav,.ref 12 i5),(Qac,.ref 12 i6),(Qbk,.ref 12 i7)]
   [(Qbu,.ref 12 i8),(Qcq,.lst (rowsL .dq)),(Qcr,.lst (rowsL .sq)),(Qcy,.lst (rowsL .bare)),(Qch,.ref 12 i9)]=allSt.map fun q=>(q.str,rv q):=by kernel_rfl
 refine RF.b (upd_of ht4 D4 (by show 7+5 < lim;decide) (.inr hne4) hes) ?_;have hTB:TB (O4.put 13 tb (.dict (allSt.map fun q=>(q.str,rv q)))) tb:=by
  refine ⟨rv,Uae ht4,fun q=>?_⟩;have old:∀ i o,O4.get 12 i=some o->(O4.put 13 tb (.dict (allSt.map fun q=>(q.str,rv q)))).get 12 i=some o:=fun i o h=>by rw [Uab (by decide)];exact h
  have from1:∀ i o,O1.get 12 i=some o->(O4.put 13 tb (.dict (allSt.map fun q=>(q.str,rv q)))).get 12 i=some o:=fun i o h=>old i o (G4.keep _ _ _ (keep3 i o (G2.keep _ _ _ h)));have from2:∀ i o,O2.get 12 i=some o->(O4.put 13 tb (.dict (allSt.map fun q=>(q.str,rv q)))).get 12 i=some o:=fun i o h=>old i o (G4.keep _ _ _ (keep3 i o h));cases q with
  | tagOpen=>exact .inl ⟨i1,rfl,from1 _ _ r1⟩
  | endOpen=>exact .inl ⟨i2,rfl,from1 _ _ r2⟩
  | tagName=>exact .inl ⟨i3,rfl,from1 _ _ r3⟩
  | self=>exact .inl ⟨i4,rfl,from1 _ _ r4⟩
  | befName=>exact .inl ⟨i5,rfl,from2 _ _ r5⟩
  | name=>exact .inl ⟨i6,rfl,from2 _ _ r6⟩
  | aftName=>exact .inl ⟨i7,rfl,from2 _ _ r7⟩
  | befVal=>exact .inl ⟨i8,rfl,old _ _ r8⟩
  | dq=>exact .inr rfl
  | sq=>exact .inr rfl
  | bare=>exact .inr rfl
  | aftVal=>exact .inl ⟨i9,rfl,old _ _ r9⟩
 have l5:(O4.put 13 tb (.dict (allSt.map fun q=>(q.str,rv q)))).length=24:=Uah.trans l4;revert hTB l5
 generalize O4.put 13 tb _=O5
 intro hTB l5;have tbG:∀ {a b:Store},TB a tb->Grow a b->TB b tb:=fun h G=>by
  obtain ⟨rv,h1,h2⟩:=h;exact ⟨rv,G.keep _ _ _ h1,fun q=>(h2 q).imp (fun ⟨i,e,hi⟩=>⟨i,e,G.keep _ _ _ hi⟩) id⟩
 refine RF.nlG l5 (by decide) fun o O6 G6 h6=>RF.nlG (G6.len.trans l5) (by decide) fun e O7 G7 h7=>RF.nlG (G7.len.trans (G6.len.trans l5)) (by decide) fun w O8 G8 h8=>RF.nlG (G8.len.trans (G7.len.trans (G6.len.trans l5))) (by decide) fun t O9 G9 h9=>?_;have l9:=G9.len.trans (G8.len.trans (G7.len.trans (G6.len.trans l5)));refine RF.ndG l9 (by decide) fun n O10 G10 h10=>RF.upd h10 (RF.ndG (G10.len.trans l9) (by decide) fun m O11 G11 h11=>?_);have l11:=G11.len.trans (G10.len.trans l9);have h10':=G11.keep _ _ _ h10;refine RF.b (upd_of (es':=noteEs ⟨n,o,e,w,t⟩ "" false (PS.new bg la)) h10' h11 (by show 8+3 < lim;decide) (.inl (by decide)) (by kernel_rfl)) ?_;have G69:=G7.trans (G8.trans (G9.trans (G10.trans G11)));have hTB11:=tbG hTB (G6.trans G69);have k6:=G69.keep _ _ _ h6;have k7:=(G8.trans (G9.trans (G10.trans G11))).keep _ _ _ h7;have k8:=(G9.trans (G10.trans G11)).keep _ _ _ h8;have k9:=(G10.trans G11).keep _ _ _ h9;have hN:NS (O11.put 16 n (.dict (noteEs ⟨n,o,e,w,t⟩ "" false (PS.new bg la)))) n (PS.new bg la) :=
  ⟨⟨n,o,e,w,t⟩,"",false,[],[],rfl,⟨Uah.trans l11,Uae h10',by rw [Uab (by decide)];exact k6,by rw [Uab (by decide)];exact k7,by rw [Uab (by decide)];exact k8,by rw [Uab (by decide)];exact k9⟩,rfl,fun w0 w0=>⟨rfl,rfl⟩⟩
 have hTB12:TB (O11.put 16 n (.dict (noteEs ⟨n,o,e,w,t⟩ "" false (PS.new bg la)))) tb:=hTB11.of_reg fun r hr=>Ua9 (by rcases hr with rfl | rfl <;> decide);have l12:(O11.put 16 n (.dict (noteEs ⟨n,o,e,w,t⟩ "" false (PS.new bg la)))).length=24:=Uah.trans l11;revert hN hTB12 l12
 generalize O11.put 16 n _=O12
 intro hN hTB12 l12;refine RF.b1 (RF.b1 (RF.nlG l12 (by decide) fun sn O13 G13 h13=>?_));have hN13:NS O13 n (PS.new bg la):=by
  obtain ⟨ν,kd,cl,ws,ts,e1,h,hD,hq⟩:=hN;exact ⟨ν,kd,cl,ws,ts,e1,⟨G13.len.trans l12,G13.keep _ _ _ h.note,G13.keep _ _ _ h.out,G13.keep _ _ _ h.err,G13.keep _ _ _ h.wd,G13.keep _ _ _ h.tw⟩,hD,hq⟩
 have hTX:=Ut8 ns z hz;obtain ⟨y,hy,hyc⟩:=Ugb (p:=p) (d:=d+6) (O:=O13) (x:=⟨((textC ns).take z).toArray⟩) (fun c hc=>Ukh (hTX.mem c hc)) (by rw [<- Udz];have:=hTX.len;delta lim;show ((textC ns).take z).length<=_;exact om38 this);refine RF.b hy ?_;exact Uub (p:=p) (d:=d) (cs:=(textC ns).take z) (text:=⟨((textC ns).take z).toArray⟩) hTX rfl (Uqi hbg) hN13 (tbG hTB12 G13) h13 rfl hyc
end
theorem lawOk3:LawOk:=by
 intro p ns _;obtain ⟨v,O',e,rfl⟩:=Ur7 (p:=p) (d:=12) (O:=List.replicate 24 []) ns rfl;exact ⟨O',Unc 20 a_law [.lst (ns.map .int)] _ _ e⟩
end Mine
end
theorem PySem.Challenge.cw_nt0611_03_holds : PySem.Challenge.rw_nt0611_03.Holds :=
 Mine.fin Mine.lawOk3


