import PyProof.Rows.All
import Wide.All
import OpenK.AllK
import Wide.FinOn
import PySem.Challenge.RW_nt0611_01
set_option Elab.async false
set_option maxRecDepth 100000
set_option linter.unusedVariables false
set_option genInjectivity false
set_option genSizeOf false
set_option genSizeOfSpec false
set_option tactic.hygienic false
set_option backward.match.sparseCases false
section
namespace Mine
theorem xAA{p0 p1 P:Prop}(h:p0/\p1)(k:p0->p1->P):P:=k h.1 h.2
theorem xAAA{p0 p1 p2 P:Prop}(h:p0/\p1/\p2)(k:p0->p1->p2->P):P:=k h.1 h.2.1 h.2.2
theorem xAAAA{p0 p1 p2 p3 P:Prop}(h:p0/\p1/\p2/\p3)(k:p0->p1->p2->p3->P):P:=k h.1 h.2.1 h.2.2.1 h.2.2.2
theorem xAAAAA{p0 p1 p2 p3 p4 P:Prop}(h:p0/\p1/\p2/\p3/\p4)(k:p0->p1->p2->p3->p4->P):P:=k h.1 h.2.1 h.2.2.1 h.2.2.2.1 h.2.2.2.2
theorem xAAAAAA{p0 p1 p2 p3 p4 p5 P:Prop}(h:p0/\p1/\p2/\p3/\p4/\p5)(k:p0->p1->p2->p3->p4->p5->P):P:=k h.1 h.2.1 h.2.2.1 h.2.2.2.1 h.2.2.2.2.1 h.2.2.2.2.2
theorem xAAAAAAA{p0 p1 p2 p3 p4 p5 p6 P:Prop}(h:p0/\p1/\p2/\p3/\p4/\p5/\p6)(k:p0->p1->p2->p3->p4->p5->p6->P):P:=k h.1 h.2.1 h.2.2.1 h.2.2.2.1 h.2.2.2.2.1 h.2.2.2.2.2.1 h.2.2.2.2.2.2
theorem xAAAEA{τ0:Sort _}{p0 p1 p2:Prop}{p4:τ0->Prop}{P:Prop}(h:p0/\p1/\p2/\(∃ a0,p4 a0))(k:p0->p1->p2->∀ a0,p4 a0->P):P:=h.2.2.2.elim fun a0 g0=>k h.1 h.2.1 h.2.2.1 a0 g0
theorem xAAAEEAA{τ0 τ1:Sort _}{p0 p1 p2:Prop}{p5 p6:τ0->τ1->Prop}{P:Prop}(h:p0/\p1/\p2/\(∃ a0 a1,p5 a0 a1/\p6 a0 a1))(k:p0->p1->p2->∀ a0 a1,p5 a0 a1->p6 a0 a1->P):P:=h.2.2.2.elim fun a0 g0=>g0.elim fun a1 g1=>k h.1 h.2.1 h.2.2.1 a0 a1 g1.1 g1.2
theorem xAAEEAAA{τ0 τ1:Sort _}{p0 p1:Prop}{p4 p5 p6:τ0->τ1->Prop}{P:Prop}(h:p0/\p1/\(∃ a0 a1,p4 a0 a1/\p5 a0 a1/\p6 a0 a1))(k:p0->p1->∀ a0 a1,p4 a0 a1->p5 a0 a1->p6 a0 a1->P):P:=h.2.2.elim fun a0 g0=>g0.elim fun a1 g1=>k h.1 h.2.1 a0 a1 g1.1 g1.2.1 g1.2.2
theorem xAEAA{τ0:Sort _}{p0:Prop}{p2 p3:τ0->Prop}{P:Prop}(h:p0/\(∃ a0,p2 a0/\p3 a0))(k:p0->∀ a0,p2 a0->p3 a0->P):P:=h.2.elim fun a0 g0=>k h.1 a0 g0.1 g0.2
theorem xAEAAA{τ0:Sort _}{p0:Prop}{p2 p3 p4:τ0->Prop}{P:Prop}(h:p0/\(∃ a0,p2 a0/\p3 a0/\p4 a0))(k:p0->∀ a0,p2 a0->p3 a0->p4 a0->P):P:=h.2.elim fun a0 g0=>k h.1 a0 g0.1 g0.2.1 g0.2.2
theorem xAEAEEAA{τ0 τ1 τ2:Sort _}{p0:Prop}{p2:τ0->Prop}{p5 p6:τ0->τ1->τ2->Prop}{P:Prop}(h:p0/\(∃ a0,p2 a0/\(∃ a1 a2,p5 a0 a1 a2/\p6 a0 a1 a2)))(k:p0->∀ a0,p2 a0->∀ a1 a2,p5 a0 a1 a2->p6 a0 a1 a2->P):P:=h.2.elim fun a0 g0=>g0.2.elim fun a1 g1=>g1.elim fun a2 g2=>k h.1 a0 g0.1 a1 a2 g2.1 g2.2
theorem xAEEA{τ0 τ1:Sort _}{p0:Prop}{p3:τ0->τ1->Prop}{P:Prop}(h:p0/\(∃ a0 a1,p3 a0 a1))(k:p0->∀ a0 a1,p3 a0 a1->P):P:=h.2.elim fun a0 g0=>g0.elim fun a1 g1=>k h.1 a0 a1 g1
theorem xAEEAAA{τ0 τ1:Sort _}{p0:Prop}{p3 p4 p5:τ0->τ1->Prop}{P:Prop}(h:p0/\(∃ a0 a1,p3 a0 a1/\p4 a0 a1/\p5 a0 a1))(k:p0->∀ a0 a1,p3 a0 a1->p4 a0 a1->p5 a0 a1->P):P:=h.2.elim fun a0 g0=>g0.elim fun a1 g1=>k h.1 a0 a1 g1.1 g1.2.1 g1.2.2
theorem xAEEAAAAA{τ0 τ1:Sort _}{p0:Prop}{p3 p4 p5 p6 p7:τ0->τ1->Prop}{P:Prop}(h:p0/\(∃ a0 a1,p3 a0 a1/\p4 a0 a1/\p5 a0 a1/\p6 a0 a1/\p7 a0 a1))(k:p0->∀ a0 a1,p3 a0 a1->p4 a0 a1->p5 a0 a1->p6 a0 a1->p7 a0 a1->P):P:=h.2.elim fun a0 g0=>g0.elim fun a1 g1=>k h.1 a0 a1 g1.1 g1.2.1 g1.2.2.1 g1.2.2.2.1 g1.2.2.2.2
theorem xEA{τ0:Sort _}{p1:τ0->Prop}{P:Prop}(h:∃ a0,p1 a0)(k:∀ a0,p1 a0->P):P:=h.elim fun a0 g0=>k a0 g0
theorem xEAA{τ0:Sort _}{p1 p2:τ0->Prop}{P:Prop}(h:∃ a0,p1 a0/\p2 a0)(k:∀ a0,p1 a0->p2 a0->P):P:=h.elim fun a0 g0=>k a0 g0.1 g0.2
theorem xEAAA{τ0:Sort _}{p1 p2 p3:τ0->Prop}{P:Prop}(h:∃ a0,p1 a0/\p2 a0/\p3 a0)(k:∀ a0,p1 a0->p2 a0->p3 a0->P):P:=h.elim fun a0 g0=>k a0 g0.1 g0.2.1 g0.2.2
theorem xEAAAA{τ0:Sort _}{p1 p2 p3 p4:τ0->Prop}{P:Prop}(h:∃ a0,p1 a0/\p2 a0/\p3 a0/\p4 a0)(k:∀ a0,p1 a0->p2 a0->p3 a0->p4 a0->P):P:=h.elim fun a0 g0=>k a0 g0.1 g0.2.1 g0.2.2.1 g0.2.2.2
theorem xEAAAAA{τ0:Sort _}{p1 p2 p3 p4 p5:τ0->Prop}{P:Prop}(h:∃ a0,p1 a0/\p2 a0/\p3 a0/\p4 a0/\p5 a0)(k:∀ a0,p1 a0->p2 a0->p3 a0->p4 a0->p5 a0->P):P:=h.elim fun a0 g0=>k a0 g0.1 g0.2.1 g0.2.2.1 g0.2.2.2.1 g0.2.2.2.2
theorem xEAAAAAA{τ0:Sort _}{p1 p2 p3 p4 p5 p6:τ0->Prop}{P:Prop}(h:∃ a0,p1 a0/\p2 a0/\p3 a0/\p4 a0/\p5 a0/\p6 a0)(k:∀ a0,p1 a0->p2 a0->p3 a0->p4 a0->p5 a0->p6 a0->P):P:=h.elim fun a0 g0=>k a0 g0.1 g0.2.1 g0.2.2.1 g0.2.2.2.1 g0.2.2.2.2.1 g0.2.2.2.2.2
theorem xEAAEA{τ0 τ1:Sort _}{p1 p2:τ0->Prop}{p4:τ0->τ1->Prop}{P:Prop}(h:∃ a0,p1 a0/\p2 a0/\(∃ a1,p4 a0 a1))(k:∀ a0,p1 a0->p2 a0->∀ a1,p4 a0 a1->P):P:=h.elim fun a0 g0=>g0.2.2.elim fun a1 g1=>k a0 g0.1 g0.2.1 a1 g1
theorem xEAEAAA{τ0 τ1:Sort _}{p1:τ0->Prop}{p3 p4 p5:τ0->τ1->Prop}{P:Prop}(h:∃ a0,p1 a0/\(∃ a1,p3 a0 a1/\p4 a0 a1/\p5 a0 a1))(k:∀ a0,p1 a0->∀ a1,p3 a0 a1->p4 a0 a1->p5 a0 a1->P):P:=h.elim fun a0 g0=>g0.2.elim fun a1 g1=>k a0 g0.1 a1 g1.1 g1.2.1 g1.2.2
theorem xEEA{τ0 τ1:Sort _}{p2:τ0->τ1->Prop}{P:Prop}(h:∃ a0 a1,p2 a0 a1)(k:∀ a0 a1,p2 a0 a1->P):P:=h.elim fun a0 g0=>g0.elim fun a1 g1=>k a0 a1 g1
theorem xEEAA{τ0 τ1:Sort _}{p2 p3:τ0->τ1->Prop}{P:Prop}(h:∃ a0 a1,p2 a0 a1/\p3 a0 a1)(k:∀ a0 a1,p2 a0 a1->p3 a0 a1->P):P:=h.elim fun a0 g0=>g0.elim fun a1 g1=>k a0 a1 g1.1 g1.2
theorem xEEAAA{τ0 τ1:Sort _}{p2 p3 p4:τ0->τ1->Prop}{P:Prop}(h:∃ a0 a1,p2 a0 a1/\p3 a0 a1/\p4 a0 a1)(k:∀ a0 a1,p2 a0 a1->p3 a0 a1->p4 a0 a1->P):P:=h.elim fun a0 g0=>g0.elim fun a1 g1=>k a0 a1 g1.1 g1.2.1 g1.2.2
theorem xEEAAAA{τ0 τ1:Sort _}{p2 p3 p4 p5:τ0->τ1->Prop}{P:Prop}(h:∃ a0 a1,p2 a0 a1/\p3 a0 a1/\p4 a0 a1/\p5 a0 a1)(k:∀ a0 a1,p2 a0 a1->p3 a0 a1->p4 a0 a1->p5 a0 a1->P):P:=h.elim fun a0 g0=>g0.elim fun a1 g1=>k a0 a1 g1.1 g1.2.1 g1.2.2.1 g1.2.2.2
theorem xEEAAAAA{τ0 τ1:Sort _}{p2 p3 p4 p5 p6:τ0->τ1->Prop}{P:Prop}(h:∃ a0 a1,p2 a0 a1/\p3 a0 a1/\p4 a0 a1/\p5 a0 a1/\p6 a0 a1)(k:∀ a0 a1,p2 a0 a1->p3 a0 a1->p4 a0 a1->p5 a0 a1->p6 a0 a1->P):P:=h.elim fun a0 g0=>g0.elim fun a1 g1=>k a0 a1 g1.1 g1.2.1 g1.2.2.1 g1.2.2.2.1 g1.2.2.2.2
theorem xEEAAAAAA{τ0 τ1:Sort _}{p2 p3 p4 p5 p6 p7:τ0->τ1->Prop}{P:Prop}(h:∃ a0 a1,p2 a0 a1/\p3 a0 a1/\p4 a0 a1/\p5 a0 a1/\p6 a0 a1/\p7 a0 a1)(k:∀ a0 a1,p2 a0 a1->p3 a0 a1->p4 a0 a1->p5 a0 a1->p6 a0 a1->p7 a0 a1->P):P:=h.elim fun a0 g0=>g0.elim fun a1 g1=>k a0 a1 g1.1 g1.2.1 g1.2.2.1 g1.2.2.2.1 g1.2.2.2.2.1 g1.2.2.2.2.2
theorem xEEEA{τ0 τ1 τ2:Sort _}{p3:τ0->τ1->τ2->Prop}{P:Prop}(h:∃ a0 a1 a2,p3 a0 a1 a2)(k:∀ a0 a1 a2,p3 a0 a1 a2->P):P:=h.elim fun a0 g0=>g0.elim fun a1 g1=>g1.elim fun a2 g2=>k a0 a1 a2 g2
theorem xEEEAA{τ0 τ1 τ2:Sort _}{p3 p4:τ0->τ1->τ2->Prop}{P:Prop}(h:∃ a0 a1 a2,p3 a0 a1 a2/\p4 a0 a1 a2)(k:∀ a0 a1 a2,p3 a0 a1 a2->p4 a0 a1 a2->P):P:=h.elim fun a0 g0=>g0.elim fun a1 g1=>g1.elim fun a2 g2=>k a0 a1 a2 g2.1 g2.2
theorem xEEEAAAA{τ0 τ1 τ2:Sort _}{p3 p4 p5 p6:τ0->τ1->τ2->Prop}{P:Prop}(h:∃ a0 a1 a2,p3 a0 a1 a2/\p4 a0 a1 a2/\p5 a0 a1 a2/\p6 a0 a1 a2)(k:∀ a0 a1 a2,p3 a0 a1 a2->p4 a0 a1 a2->p5 a0 a1 a2->p6 a0 a1 a2->P):P:=h.elim fun a0 g0=>g0.elim fun a1 g1=>g1.elim fun a2 g2=>k a0 a1 a2 g2.1 g2.2.1 g2.2.2.1 g2.2.2.2
theorem xEEEAAAAA{τ0 τ1 τ2:Sort _}{p3 p4 p5 p6 p7:τ0->τ1->τ2->Prop}{P:Prop}(h:∃ a0 a1 a2,p3 a0 a1 a2/\p4 a0 a1 a2/\p5 a0 a1 a2/\p6 a0 a1 a2/\p7 a0 a1 a2)(k:∀ a0 a1 a2,p3 a0 a1 a2->p4 a0 a1 a2->p5 a0 a1 a2->p6 a0 a1 a2->p7 a0 a1 a2->P):P:=h.elim fun a0 g0=>g0.elim fun a1 g1=>g1.elim fun a2 g2=>k a0 a1 a2 g2.1 g2.2.1 g2.2.2.1 g2.2.2.2.1 g2.2.2.2.2
theorem xEEEAAAAAA{τ0 τ1 τ2:Sort _}{p3 p4 p5 p6 p7 p8:τ0->τ1->τ2->Prop}{P:Prop}(h:∃ a0 a1 a2,p3 a0 a1 a2/\p4 a0 a1 a2/\p5 a0 a1 a2/\p6 a0 a1 a2/\p7 a0 a1 a2/\p8 a0 a1 a2)(k:∀ a0 a1 a2,p3 a0 a1 a2->p4 a0 a1 a2->p5 a0 a1 a2->p6 a0 a1 a2->p7 a0 a1 a2->p8 a0 a1 a2->P):P:=h.elim fun a0 g0=>g0.elim fun a1 g1=>g1.elim fun a2 g2=>k a0 a1 a2 g2.1 g2.2.1 g2.2.2.1 g2.2.2.2.1 g2.2.2.2.2.1 g2.2.2.2.2.2
theorem xEEEAAAAAAAAA{τ0 τ1 τ2:Sort _}{p3 p4 p5 p6 p7 p8 p9 p10 p11:τ0->τ1->τ2->Prop}{P:Prop}(h:∃ a0 a1 a2,p3 a0 a1 a2/\p4 a0 a1 a2/\p5 a0 a1 a2/\p6 a0 a1 a2/\p7 a0 a1 a2/\p8 a0 a1 a2/\p9 a0 a1 a2/\p10 a0 a1 a2/\p11 a0 a1 a2)(k:∀ a0 a1 a2,p3 a0 a1 a2->p4 a0 a1 a2->p5 a0 a1 a2->p6 a0 a1 a2->p7 a0 a1 a2->p8 a0 a1 a2->p9 a0 a1 a2->p10 a0 a1 a2->p11 a0 a1 a2->P):P:=h.elim fun a0 g0=>g0.elim fun a1 g1=>g1.elim fun a2 g2=>k a0 a1 a2 g2.1 g2.2.1 g2.2.2.1 g2.2.2.2.1 g2.2.2.2.2.1 g2.2.2.2.2.2.1 g2.2.2.2.2.2.2.1 g2.2.2.2.2.2.2.2.1 g2.2.2.2.2.2.2.2.2
theorem xEEEEAA{τ0 τ1 τ2 τ3:Sort _}{p4 p5:τ0->τ1->τ2->τ3->Prop}{P:Prop}(h:∃ a0 a1 a2 a3,p4 a0 a1 a2 a3/\p5 a0 a1 a2 a3)(k:∀ a0 a1 a2 a3,p4 a0 a1 a2 a3->p5 a0 a1 a2 a3->P):P:=h.elim fun a0 g0=>g0.elim fun a1 g1=>g1.elim fun a2 g2=>g2.elim fun a3 g3=>k a0 a1 a2 a3 g3.1 g3.2
theorem xEEEEAAAA{τ0 τ1 τ2 τ3:Sort _}{p4 p5 p6 p7:τ0->τ1->τ2->τ3->Prop}{P:Prop}(h:∃ a0 a1 a2 a3,p4 a0 a1 a2 a3/\p5 a0 a1 a2 a3/\p6 a0 a1 a2 a3/\p7 a0 a1 a2 a3)(k:∀ a0 a1 a2 a3,p4 a0 a1 a2 a3->p5 a0 a1 a2 a3->p6 a0 a1 a2 a3->p7 a0 a1 a2 a3->P):P:=h.elim fun a0 g0=>g0.elim fun a1 g1=>g1.elim fun a2 g2=>g2.elim fun a3 g3=>k a0 a1 a2 a3 g3.1 g3.2.1 g3.2.2.1 g3.2.2.2
theorem xEEEEAAAAA{τ0 τ1 τ2 τ3:Sort _}{p4 p5 p6 p7 p8:τ0->τ1->τ2->τ3->Prop}{P:Prop}(h:∃ a0 a1 a2 a3,p4 a0 a1 a2 a3/\p5 a0 a1 a2 a3/\p6 a0 a1 a2 a3/\p7 a0 a1 a2 a3/\p8 a0 a1 a2 a3)(k:∀ a0 a1 a2 a3,p4 a0 a1 a2 a3->p5 a0 a1 a2 a3->p6 a0 a1 a2 a3->p7 a0 a1 a2 a3->p8 a0 a1 a2 a3->P):P:=h.elim fun a0 g0=>g0.elim fun a1 g1=>g1.elim fun a2 g2=>g2.elim fun a3 g3=>k a0 a1 a2 a3 g3.1 g3.2.1 g3.2.2.1 g3.2.2.2.1 g3.2.2.2.2
theorem xEEEEAAAAAA{τ0 τ1 τ2 τ3:Sort _}{p4 p5 p6 p7 p8 p9:τ0->τ1->τ2->τ3->Prop}{P:Prop}(h:∃ a0 a1 a2 a3,p4 a0 a1 a2 a3/\p5 a0 a1 a2 a3/\p6 a0 a1 a2 a3/\p7 a0 a1 a2 a3/\p8 a0 a1 a2 a3/\p9 a0 a1 a2 a3)(k:∀ a0 a1 a2 a3,p4 a0 a1 a2 a3->p5 a0 a1 a2 a3->p6 a0 a1 a2 a3->p7 a0 a1 a2 a3->p8 a0 a1 a2 a3->p9 a0 a1 a2 a3->P):P:=h.elim fun a0 g0=>g0.elim fun a1 g1=>g1.elim fun a2 g2=>g2.elim fun a3 g3=>k a0 a1 a2 a3 g3.1 g3.2.1 g3.2.2.1 g3.2.2.2.1 g3.2.2.2.2.1 g3.2.2.2.2.2
theorem xEEEEAAAAAAA{τ0 τ1 τ2 τ3:Sort _}{p4 p5 p6 p7 p8 p9 p10:τ0->τ1->τ2->τ3->Prop}{P:Prop}(h:∃ a0 a1 a2 a3,p4 a0 a1 a2 a3/\p5 a0 a1 a2 a3/\p6 a0 a1 a2 a3/\p7 a0 a1 a2 a3/\p8 a0 a1 a2 a3/\p9 a0 a1 a2 a3/\p10 a0 a1 a2 a3)(k:∀ a0 a1 a2 a3,p4 a0 a1 a2 a3->p5 a0 a1 a2 a3->p6 a0 a1 a2 a3->p7 a0 a1 a2 a3->p8 a0 a1 a2 a3->p9 a0 a1 a2 a3->p10 a0 a1 a2 a3->P):P:=h.elim fun a0 g0=>g0.elim fun a1 g1=>g1.elim fun a2 g2=>g2.elim fun a3 g3=>k a0 a1 a2 a3 g3.1 g3.2.1 g3.2.2.1 g3.2.2.2.1 g3.2.2.2.2.1 g3.2.2.2.2.2.1 g3.2.2.2.2.2.2
theorem xEEEEAAAAAAAA{τ0 τ1 τ2 τ3:Sort _}{p4 p5 p6 p7 p8 p9 p10 p11:τ0->τ1->τ2->τ3->Prop}{P:Prop}(h:∃ a0 a1 a2 a3,p4 a0 a1 a2 a3/\p5 a0 a1 a2 a3/\p6 a0 a1 a2 a3/\p7 a0 a1 a2 a3/\p8 a0 a1 a2 a3/\p9 a0 a1 a2 a3/\p10 a0 a1 a2 a3/\p11 a0 a1 a2 a3)(k:∀ a0 a1 a2 a3,p4 a0 a1 a2 a3->p5 a0 a1 a2 a3->p6 a0 a1 a2 a3->p7 a0 a1 a2 a3->p8 a0 a1 a2 a3->p9 a0 a1 a2 a3->p10 a0 a1 a2 a3->p11 a0 a1 a2 a3->P):P:=h.elim fun a0 g0=>g0.elim fun a1 g1=>g1.elim fun a2 g2=>g2.elim fun a3 g3=>k a0 a1 a2 a3 g3.1 g3.2.1 g3.2.2.1 g3.2.2.2.1 g3.2.2.2.2.1 g3.2.2.2.2.2.1 g3.2.2.2.2.2.2.1 g3.2.2.2.2.2.2.2
theorem xEEEEEAAAAA{τ0 τ1 τ2 τ3 τ4:Sort _}{p5 p6 p7 p8 p9:τ0->τ1->τ2->τ3->τ4->Prop}{P:Prop}(h:∃ a0 a1 a2 a3 a4,p5 a0 a1 a2 a3 a4/\p6 a0 a1 a2 a3 a4/\p7 a0 a1 a2 a3 a4/\p8 a0 a1 a2 a3 a4/\p9 a0 a1 a2 a3 a4)(k:∀ a0 a1 a2 a3 a4,p5 a0 a1 a2 a3 a4->p6 a0 a1 a2 a3 a4->p7 a0 a1 a2 a3 a4->p8 a0 a1 a2 a3 a4->p9 a0 a1 a2 a3 a4->P):P:=h.elim fun a0 g0=>g0.elim fun a1 g1=>g1.elim fun a2 g2=>g2.elim fun a3 g3=>g3.elim fun a4 g4=>k a0 a1 a2 a3 a4 g4.1 g4.2.1 g4.2.2.1 g4.2.2.2.1 g4.2.2.2.2
theorem om0{a b:Nat}(h0:((a+3)<b)):(a<b):=Nat.lt_of_add_right_lt h0
theorem om1{a b:Nat}(h0:((a+3)<b)):((a+1)<b):=Nat.lt_of_succ_lt (Nat.lt_of_succ_lt h0)
theorem om4{a:Nat}(h0:((a+1)<5000)):(a<5000):=Nat.lt_of_succ_lt h0
theorem om5{a b:Nat}(h0:((a+1)<b)):(a<b):=Nat.lt_of_succ_lt h0
theorem om6{a b:Nat}(h0:((a+1)<(b+1))):(a<b):=Nat.succ_lt_succ_iff.mp h0
theorem om7{a b:Nat}(h0:((a+3)<b)):((a+2)<b):=Nat.lt_of_succ_lt h0
theorem om9{a b c:Nat}(h0:(c<=b))(h1:(a<=c)):(a<=b):=Nat.le_trans h1 h0
theorem om10{a b c:Nat}(h0:((a+1)<c))(h1:(b<=1)):((a+b)<=c):=Nat.le_trans (Nat.add_le_add_left h1 a) (Nat.le_of_lt h0)
theorem om11{a b:Nat}(h0:((a+1)<b)):((a+1)<=b):=Nat.le_of_succ_le h0
theorem om13{a b:Nat}:((a+1)<=(a+(b+1))):=Nat.succ_le_succ (Nat.le_add_right a b)
theorem om14{a b c:Nat}(h0:(b<=c))(h1:(a<=1)):((a+b)<=(c+1)):=Nat.add_comm c 1▸Nat.add_le_add h1 h0
theorem om15{a b c:Nat}(h0:(c<=b))(h1:(a=c)):(a<=b):=le_of_eq_of_le h1 h0
theorem om16{a:Nat}:(a<=(a+1)):=Nat.le_add_right a 1
theorem om17{a:Nat}(h0:((a+1)<5000)):(a<1000000):=Nat.lt_of_lt_of_le (Nat.lt_of_succ_lt h0) (by decide)
theorem om19{a:Int}:(((a+1)-1)=a):=Int.add_sub_cancel a 1
theorem om22{a:Nat}(h0:(a<5000)):((a-0)<5000):=Nat.sub_lt_of_lt h0
theorem om25{a b:Nat}(h0:((b-a)=0))(h1:(a<=b)):(a=b):=Nat.le_antisymm h1 (Nat.le_of_sub_eq_zero h0)
theorem om26{a b c:Nat}(h0:((b-a)=(c+1)))(h1:(a<=b)):(a<b):=Nat.lt_of_sub_eq_succ h0
theorem om30{a b c:Nat}(h0:(c<=b))(h1:(a<=(3*c))):(a<=(3*b)):=Nat.le_trans h1 (Nat.mul_le_mul_left 3 h0)
theorem om31{a b c:Nat}(h0:(c<=(3*b)))(h1:(a<=(c+1))):(a<=(3*(b+1))):=Nat.le_trans h1 (Nat.add_le_add h0 (by decide:1<=3))
theorem om32{a b c d:Nat}(h0:(c<=(d+1)))(h1:(d<=(3*b)))(h2:(a<=(c+2))):(a<=(3*(b+1))):=Nat.le_trans h2 (Nat.le_trans (Nat.add_le_add_right h0 2) (Nat.add_le_add_right h1 3))
theorem om33{a b:Nat}(h0:(b<=1)):((a+b)<=(a+1)):=Nat.add_le_add_iff_left.mpr h0
theorem om37{a b:Int}(h0:(b<a)):(0<=((a-b)-1)):=Int.le_sub_one_of_lt (Int.sub_pos_of_lt h0)
theorem om42{a b:Nat}(h0:((a+1)<b)):((a+1)<b):=h0
theorem om46{a b:Nat}(h0:(b<=1500))(h1:(a<=(3*b))):((a+3)<1000000):=Nat.lt_of_le_of_lt (Nat.add_le_add_right (Nat.le_trans h1 (Nat.mul_le_mul_left 3 h0)) 3) (by decide)
theorem om47{a b c:Nat}(h0:((c+(b+1))<=1500)):((a+1)<=(a+(b+1))):=Nat.succ_le_succ (Nat.le_add_right a b)
theorem om48{a b:Nat}:(((a+1)+b)<=(a+(b+1))):=Nat.le_of_eq (Nat.succ_add a b)
theorem om49{a b:Nat}(h0:(a<b)):(a<=b):=Nat.le_of_succ_le h0
theorem om51{a b:Nat}(h0:(a<b)):(((a:Nat):Int)<((b:Nat):Int)):=Int.ofNat_lt.mpr h0
theorem om52{a b:Nat}(h0:(¬(a<b))):(¬(((a:Nat):Int)<((b:Nat):Int))):=fun q=>h0 (Int.ofNat_lt.mp q)
theorem om54{a:Nat}{b:Int}{c:Nat}(h0:((b<0)/\((0<=(b+((a:Nat):Int)))/\(c=(Int.toNat (b+((a:Nat):Int))))))):((-((a:Nat):Int))<=b):=by omega
theorem om304{a b c d e:Nat}(h0:((c<=15)/\(0<c)))(h1:(d=c))(h2:(e=c))(h3:(a<=(0+e)))(h4:(e=c))(h5:(b=1000000)):(a<=b):=h5▸Nat.le_trans (Nat.zero_add e▸h3) (h2▸Nat.le_trans h0.1 (by decide))
theorem om305{a b c:Nat}(h0:(a<=(c+5)))(h1:(((c+(8*(b+1)))+200)<9900)):((((a+3)+(8*b))+200)<9900):=Nat.lt_of_le_of_lt (Nat.add_le_add_right (Nat.le_trans (Nat.add_le_add_right (Nat.add_le_add_right h0 3) (8*b)) (Nat.le_of_eq (Nat.add_right_comm c 8 (8*b)))) 200) h1
theorem om306{a b c:Nat}(h0:(a=(c+1)))(h1:(((c+(2*(b+1)))+2)<1000)):((((a+1)+(2*b))+2)<1000):=by subst h0;exact Nat.lt_of_le_of_lt (Nat.add_le_add_right (Nat.le_of_eq (Nat.add_right_comm c 2 (2*b))) 2) h1
theorem om307{a b:Nat}{c:Int}(h0:(((a:Nat):Int)=(max 0 (min c ((b:Nat):Int))))):(a<=b):=Int.ofNat_le.mp (h0▸Int.max_le.mpr ⟨Int.natCast_nonneg b,Int.min_le_right c b⟩)
theorem om311{a:Nat}:((Int.toNat ((-1)+(((a+1):Nat):Int)))=a):=by rw [Int.add_comm,show ((a+1:Nat):Int)=(a:Int)+1 from rfl,Int.add_neg_cancel_right];rfl
theorem om312{a b c d e:Nat}(h0:((a+c)<5000))(h1:(d<c))(h2:(b<=e))(h3:(e<=d)):((a+b)<1000000):=Nat.lt_trans (Nat.lt_of_le_of_lt (Nat.add_le_add_left (Nat.le_of_lt (Nat.lt_of_le_of_lt (Nat.le_trans h2 h3) h1)) a) h0) (by decide)
theorem om314{a b:Nat}(h0:(((a+(8*(b+1)))+200)<9900)):((((a+3)+(8*b))+200)<9900):=Nat.lt_of_le_of_lt (Nat.add_le_add_right (Nat.le_trans (Nat.le_of_eq (Nat.add_right_comm a 3 (8*b))) (Nat.add_le_add_left (show 3<=8 by decide) (a+8*b))) 200) h0
theorem om315{a b:Int}{c:Nat}{d:Int}(h0:(((Int.natAbs b)<=c)/\(((Int.natAbs d)<=c)/\((0<a)/\(a<=((c:Nat):Int))))))(h1:(c=1000000)):((Int.natAbs a)<=4000000):=Int.ofNat_le.mp (by rw [Int.natAbs_of_nonneg (Int.le_of_lt h0.2.2.1)];exact Int.le_trans h0.2.2.2 (by rw [h1];decide))
theorem om316{a b:Nat}(h0:(((a+(2*(b+1)))+2)<1000)):((a+1)<1000):=Nat.lt_of_le_of_lt (Nat.succ_le_succ (Nat.le_trans (Nat.le_add_right a (2*(b+1))) (Nat.le_succ _))) h0
theorem om317{a b:Int}{c:Nat}{d:Int}(h0:(((Int.natAbs b)<=c)/\(((Int.natAbs d)<=c)/\((0<a)/\(a<=((c:Nat):Int))))))(h1:(c=1000000)):((Int.natAbs a)<1073741824):=Int.ofNat_lt.mp (by rw [Int.natAbs_of_nonneg (Int.le_of_lt h0.2.2.1)];exact Int.lt_of_le_of_lt h0.2.2.2 (by rw [h1];decide))
theorem om318{a b:Nat}(h0:(((a+(2*(b+1)))+2)<1000)):((((a+1)+(2*b))+2)<1000):=Nat.lt_of_le_of_lt (Nat.add_le_add_right (Nat.le_trans (Nat.le_of_eq (Nat.add_right_comm a 1 (2*b))) (Nat.le_succ _)) 2) h0
theorem om324{a b:Nat}(h0:(((a+(8*b))+200)<9900)):((a+65)<9900):=Nat.lt_of_le_of_lt (Nat.add_le_add (Nat.le_add_right a (8*b)) (show 65<=200 by decide)) h0
theorem om325{a b:Nat}(h0:(((a+(2*(b+1)))+2)<1000)):(a<1000):=Nat.lt_of_le_of_lt (Nat.le_trans (Nat.le_add_right a (2*(b+1))) (Nat.le_add_right _ 2)) h0
theorem om326{a:Int}(h0:((0<=a)/\(a<=2000001))):((Int.natAbs a)<=4000000):=Int.ofNat_le.mp (by rw [Int.natAbs_of_nonneg h0.1];exact Int.le_trans h0.2 (by decide))
theorem om329{a:Int}{b:Nat}(h0:(¬(0<=a)))(h1:(0<=(a+((b:Nat):Int)))):((Int.toNat (a+((b:Nat):Int)))<b):=(Int.toNat_lt h1).mpr (by have q:=Int.add_lt_add_right (Int.not_le.mp h0) b;rwa [Int.zero_add] at q)
theorem om336{a:Nat}{b:Int}{c d:Nat}(h0:(a=c))(h1:((b<0)/\((0<=(b+((c:Nat):Int)))/\(d=(Int.toNat (b+((c:Nat):Int))))))):((-((a:Nat):Int))<=b):=h0▸Int.le_of_sub_nonneg (by rw [Int.sub_neg];exact h1.2.1)
end Mine
end
section
open PySem
namespace Mine
inductive Bi where
 | len | range | list | tuple | ord | chr
inductive Mi where
 | join | find | replace | append | extend | pop | get | update
noncomputable abbrev ob{α β:Type}(x:Option α)(f:α->β)(z:β):β:=match x with
 | some a=>f a
 | none=>z
inductive V where
 | none | bool (b:Bool) | int (i:Int) | str (s:Str)
 | tup (vs:List V) | lst (vs:List V) | rng (a b c:Int) | ref (r i:Nat) | fn (a:Addr) | bi (n:Bi)
 deriving Inhabited
inductive Ob where
 | list (vs:List V) | dict (es:List (Str×V)) | inst (c:Addr) (es:List (Str×V))
 deriving Inhabited
noncomputable abbrev Store:=List (List Ob)
noncomputable abbrev Fr:=List (Str×V)
noncomputable abbrev Y:String->Str:=Str.ofString
noncomputable abbrev Qa:Str:=Y "signs"
noncomputable abbrev Qb:Str:=Y "errors"
noncomputable abbrev Qc:Str:=Y "self"
noncomputable abbrev Qd:Str:=Y "c"
noncomputable abbrev Qe:Str:=Y "attrs"
noncomputable abbrev Qf:Str:=Y "gap"
noncomputable abbrev Qg:Str:=Y "name"
noncomputable abbrev Qh:Str:=Y "end"
noncomputable abbrev Qi:Str:=Y "drawn"
noncomputable abbrev Qj:Str:=Y "ahead"
noncomputable abbrev Qk:Str:=Y "text"
noncomputable abbrev Ql:Str:=Y "kind"
noncomputable abbrev Qm:Str:=Y "t"
noncomputable abbrev Qn:Str:=Y "k"
noncomputable abbrev Qo:Str:=Y "script"
noncomputable abbrev Qp:Str:=Y "head"
noncomputable abbrev Qq:Str:=Y "tag"
noncomputable abbrev Qr:Str:=Y "pool"
noncomputable abbrev Qs:Str:=Y "is_closing"
noncomputable abbrev Qt:Str:=Y ""
noncomputable abbrev Qu:Str:=Y "numbers"
noncomputable abbrev Qv:Str:=Y "append"
noncomputable abbrev Qw:Str:=Y "draft"
noncomputable abbrev Qx:Str:=Y "sign"
noncomputable abbrev Qy:Str:=Y "/"
noncomputable abbrev Qz:Str:=Y "code"
noncomputable abbrev Qaa:Str:=Y "error"
noncomputable abbrev Qab:Str:=Y "\x00"
noncomputable abbrev Qac:Str:=Y "missing"
noncomputable abbrev Qad:Str:=Y "out"
noncomputable abbrev Qae:Str:=Y "number"
noncomputable abbrev Qaf:Str:=Y "<"
noncomputable abbrev Qag:Str:=Y "to"
noncomputable abbrev Qah:Str:=Y "way"
noncomputable abbrev Qai:Str:=Y "tag name"
noncomputable abbrev Qaj:Str:=Y "attribute name"
noncomputable abbrev Qak:Str:=Y "known"
noncomputable abbrev Qal:Str:=Y "last"
noncomputable abbrev Qam:Str:=Y "again"
noncomputable abbrev Qan:Str:=Y "\""
noncomputable abbrev Qao:Str:=Y "at"
noncomputable abbrev Qap:Str:=Y "state"
noncomputable abbrev Qaq:Str:=Y "next"
noncomputable abbrev Qar:Str:=Y ">"
noncomputable abbrev Qas:Str:=Y "is_up"
noncomputable abbrev Qat:Str:=Y "here"
noncomputable abbrev Qau:Str:=Y "there"
noncomputable abbrev Qav:Str:=Y "A"
noncomputable abbrev Qaw:Str:=Y "is_return"
noncomputable abbrev Qax:Str:=Y "states"
noncomputable abbrev Qay:Str:=Y "value"
noncomputable abbrev Qaz:Str:=Y "�"
noncomputable abbrev Qba:Str:=Y "tag open"
noncomputable abbrev Qbb:Str:=Y "'"
noncomputable abbrev Qbc:Str:=Y "token"
noncomputable abbrev Qbd:Str:=Y "="
noncomputable abbrev Qbe:Str:=Y "is_closed"
noncomputable abbrev Qbf:Str:=Y "many"
noncomputable abbrev Qbg:Str:=Y "odd"
noncomputable abbrev Qbh:Str:=Y "why"
noncomputable abbrev Qbi:Str:=Y "data"
noncomputable abbrev Qbj:Str:=Y "\x0a"
noncomputable abbrev Qbk:Str:=Y "Z"
noncomputable abbrev Qbl:Str:=Y "a"
noncomputable abbrev Qbm:Str:=Y "z"
noncomputable abbrev Qbn:Str:=Y "kept"
noncomputable abbrev Qbo:Str:=Y "start"
noncomputable abbrev Qbp:Str:=Y "quote"
noncomputable abbrev Qbq:Str:=Y "stream"
noncomputable abbrev Qbr:Str:=Y "is_waiting"
noncomputable abbrev Qbs:Str:=Y "place"
noncomputable abbrev Qbt:Str:=Y "\n"
noncomputable abbrev Qbu:Str:=Y "emit_eof"
noncomputable abbrev Qbv:Str:=Y " "
noncomputable abbrev Qbw:Str:=Y "i"
noncomputable abbrev Qbx:Str:=Y "add_name"
noncomputable abbrev Qby:Str:=Y "add_value"
noncomputable abbrev Qbz:Str:=Y "attr"
noncomputable abbrev Qca:Str:=Y "comment"
noncomputable abbrev Qcb:Str:=Y "</"
noncomputable abbrev Qcc:Str:=Y "before attribute name"
noncomputable abbrev Qcd:Str:=Y "is_done"
noncomputable abbrev Qce:Str:=Y "blanks"
noncomputable abbrev Qcf:Str:=Y "first"
noncomputable abbrev Qcg:Str:=Y "second"
noncomputable abbrev Qch:Str:=Y "begin_attr"
noncomputable abbrev Qci:Str:=Y "feed"
noncomputable abbrev Qcj:Str:=Y "emit_draft"
noncomputable abbrev Qck:Str:=Y "__debug__"
noncomputable abbrev Qcl:Str:=Y "__classdict__"
noncomputable abbrev Qcm:Str:=Y "/claim/cut.py"
noncomputable abbrev Qcn:Str:=Y "emit_sign"
noncomputable abbrev Qco:Str:=Y "public"
noncomputable abbrev Qcp:Str:=Y "system"
noncomputable abbrev Qcq:Str:=Y "is_quirks"
noncomputable abbrev Qcr:Str:=Y "self-closing start tag"
noncomputable abbrev Qcs:Str:=Y "unexpected-null-character"
noncomputable abbrev Qct:Str:=Y "after attribute name"
noncomputable abbrev Qcu:Str:=Y "missing-attribute-value"
noncomputable abbrev Qcv:Str:=Y "end-tag-with-trailing-solidus"
noncomputable abbrev Qcw:Str:=Y "end-tag-with-attributes"
noncomputable abbrev Qcx:Str:=Y "bare"
noncomputable abbrev Qcy:Str:=Y "check_attr"
noncomputable abbrev Qcz:Str:=Y "emit_text"
noncomputable abbrev Qda:Str:=Y "is_ready"
noncomputable abbrev Qdb:Str:=Y "\x09"
noncomputable abbrev Qdc:Str:=Y "\x0c"
noncomputable abbrev Qdd:Str:=Y "back"
noncomputable abbrev Qde:Str:=Y "before attribute value"
noncomputable abbrev Qdf:Str:=Y "`"
noncomputable abbrev Qdg:Str:=Y "\x0d"
noncomputable abbrev Qdh:Str:=Y "\x0d\x0a"
noncomputable abbrev Qdi:Str:=Y "B"
noncomputable abbrev Qdj:Str:=Y "other"
noncomputable abbrev Qdk:Str:=Y "pop"
noncomputable abbrev M(α:Type):=Store->Option (α×Store)
noncomputable abbrev CC:=Addr->List V->M V
noncomputable def Store.get(O:Store)(r i:Nat):Option Ob:=match O[r]? with
 | some l=>l[i]?
 | none=>none
noncomputable def Store.put(O:Store)(r i:Nat)(o:Ob):Store:=O.modify r fun l=>l.set i o
noncomputable def Store.add(O:Store)(r:Nat)(o:Ob):Store:=O.modify r fun l=>l++[o]
noncomputable def ret{α:Type}(a:α):M α:=fun O=>some (a,O)
noncomputable def bnd{α β:Type}(m:M α)(k:α->M β):M β:=fun O=>match m O with
 | some (a,O')=>k a O'
 | none=>none
noncomputable def fail{α:Type}:M α:=fun w0=>none
noncomputable def lift{α:Type}(x:Option α):M α:=fun O=>match x with
 | some a=>some (a,O)
 | none=>none
noncomputable def look{α:Type}(f:Store->Option α):M α:=fun O=>match f O with
 | some a=>some (a,O)
 | none=>none
noncomputable def lim:Nat:=1000000
noncomputable def lk{α:Type}(x:Str):List (Str×α)->Option α
 | []=>none
 | (y,v)::r=>if y==x then some v else lk x r
noncomputable def setK{α:Type}(x:Str)(v:α):List (Str×α)->List (Str×α)
 | []=>[(x,v)]
 | (y,w)::r=>if y==x then (y,v)::r else (y,w)::setK x v r
noncomputable def lkN{α:Type}(x:Nat):List (Nat×α)->Option α
 | []=>none
 | (y,v)::r=>if Nat.beq y x then some v else lkN x r
structure Fn where
 params:List Str
 dflts:List V
 body:List Stmt
 scope:Scope
structure Cls where
 region:Nat
 meths:List (Str×Addr)
 attrs:List Str
 init:Addr
structure Prog where
 fns:List (Addr×Fn)
 clss:List (Addr×Cls)
 globs:List (Str×Addr)
 site:Nat->Nat->Option Nat
noncomputable def lstO:V->Option (List V)
 | .lst us=>some us
 | _=>none
noncomputable def objO(O:Store):V->Option (Nat×Nat×Ob)
 | .ref r i=>ob (O.get r i) (fun o=>some (r,i,o)) none
 | _=>none
noncomputable def listB:Ob->Option (List V)
 | .list vs=>some vs
 | _=>none
noncomputable def dictB:Ob->Option (List (Str×V))
 | .dict es=>some es
 | _=>none
noncomputable def instB:Ob->Option (Addr×List (Str×V))
 | .inst c es=>some (c,es)
 | _=>none
noncomputable def lref(O:Store)(v:V):Option (Nat×Nat×List V):=ob (objO O v) (fun z=>ob (listB z.2.2) (fun vs=>some (z.1,z.2.1,vs)) none) none
noncomputable def dref(O:Store)(v:V):Option (Nat×Nat×List (Str×V)):=ob (objO O v) (fun z=>ob (dictB z.2.2) (fun vs=>some (z.1,z.2.1,vs)) none) none
noncomputable def asList(O:Store)(v:V):Option (List V):=ob (lstO v) some (ob (lref O v) (fun z=>some z.2.2) none)
noncomputable def tupO:V->Option (List V)
 | .tup vs=>some vs
 | _=>none
noncomputable def asSeq(O:Store)(v:V):Option (List V):=ob (tupO v) some (asList O v)
noncomputable def strO:V->Option Str
 | .str s=>some s
 | _=>none
noncomputable def intO:V->Option Int
 | .int s=>some s
 | _=>none
noncomputable def allO{α β:Type}(f:α->Option β):List α->Option (List β)
 | []=>some []
 | v::vs=>ob (f v) (fun d=>ob (allO f vs) (fun ds=>some (d::ds)) none) none
noncomputable def scal:V->Option PyData
 | .none=>some .none
 | .bool b=>some (.bool b)
 | .int i=>some (.int i)
 | .str s=>some (.str s)
 | _=>none
noncomputable def toD(O:Store):Nat->V->Option PyData
 | 0=>scal
 | n+1=>fun v=>ob (tupO v) (fun vs=>ob (allO (toD O n) vs) (fun ds=>some (.tuple ds)) none)
   (ob (asList O v) (fun vs=>ob (allO (toD O n) vs) (fun ds=>some (.list ds)) none) (scal v))
noncomputable abbrev toDs(O:Store)(n:Nat):List V->Option (List PyData):=allO (toD O n)
noncomputable abbrev strsOf:List V->Option (List Str):=allO strO
noncomputable abbrev intsOf:List V->Option (List Int):=allO intO
noncomputable def eqG(O:Store)(a b:V):Option Bool:=ob (toD O 8 a) (fun da=>ob (toD O 8 b) (fun db=>some (PyData.eqv da db)) none) none
noncomputable def eqV(O:Store)(a b:V):Option Bool:=ob (strO a) (fun x=>ob (strO b) (fun y=>some (x==y)) (eqG O a b)) (ob (intO a) (fun x=>ob (intO b) (fun y=>some (x==y)) (eqG O a b)) (eqG O a b))
noncomputable abbrev strss:List V->Option (List (List Str)):=allO fun v=>ob (lstO v) strsOf none
noncomputable def hasSub(x y:Str):Bool:=!(Builtin.Str.occurrences x y 0 x.length 1).isEmpty
noncomputable def dictO(O:Store)(v:V):Option (List (Str×V)):=ob (dref O v) (fun z=>some z.2.2) none
noncomputable def memV(a:V)(vs:List V):Option Bool :=
 ob (strO a) (fun x=>ob (strsOf vs) (fun l=>some (l.any (·==x))) none)
  (ob (intO a) (fun x=>ob (intsOf vs) (fun l=>some (l.any (·==x))) none)
   (ob (lstO a) (fun us=>ob (strsOf us) (fun x=>ob (strss vs) (fun l=>some (l.any (·==x))) none) none) none))
noncomputable def inV(O:Store)(a c:V):Option Bool :=
 ob (strO a) (fun x=>ob (strO c) (fun y=>some (hasSub y x)) (ob (dictO O c) (fun es=>some (lk x es).isSome) (ob (asSeq O c) (memV a) none)))
  (ob (asSeq O c) (memV a) none)
noncomputable abbrev ob2{α β γ:Type}(f:α->Option β)(a b:α)(k:β->β->Option γ)(z:Option γ):Option γ:=ob (f a) (fun x=>ob (f b) (fun y=>k x y) z) z
noncomputable def noneO:V->Option Unit
 | .none=>some ()
 | _=>none
noncomputable def isNone:V->Option Bool
 | .none=>some true
 | .ref _ _=>some false
 | _=>none
noncomputable def isV(a b:V):Option Bool:=ob (noneO b) (fun w0=>isNone a) none
noncomputable def strLt(x y:Str):Bool:=decide (x.cps.toList < y.cps.toList)
noncomputable def cmpV(op:CmpOp)(a b:V)(O:Store):Option Bool:=match op with
 | .Eq=>eqV O a b
 | .NotEq=>(eqV O a b).map (!·)
 | .Lt=>ob2 intO a b (fun x y=>some (decide (x < y))) none
 | .LtE=>ob2 intO a b (fun x y=>some (decide (x<=y))) (ob2 strO a b (fun x y=>some (!strLt y x)) none)
 | .Gt=>ob2 intO a b (fun x y=>some (decide (y < x))) none
 | .GtE=>ob2 intO a b (fun x y=>some (decide (y<=x))) none
 | .Is=>isV a b
 | .IsNot=>(isV a b).map (!·)
 | .In=>inV O a b
 | .NotIn=>(inV O a b).map (!·)
noncomputable def binV(op:Operator)(a b:V)(O:Store):Option V:=match op with
 | .Add=>ob2 intO a b (fun x y=>some (.int (x+y)))
   (ob2 strO a b (fun x y=>if x.length+y.length<=lim then some (.str (x++y)) else none)
    (ob2 (asList O) a b (fun x y=>if x.length+y.length<=lim then some (.lst (x++y)) else none) none))
 | .Sub=>ob2 intO a b (fun x y=>some (.int (x - y))) none
 | .Mult=>ob2 intO a b (fun x y=>if x.natAbs < 1000000/\y.natAbs < 1000000 then some (.int (x*y)) else none) none
 | .Mod=>ob2 intO a b (fun x y=>if 0 < y then some (.int (x.fmod y)) else none) none
 | .FloorDiv=>ob2 intO a b (fun x y=>if 0 < y/\y.natAbs < 1000000000 then some (.int (x.fdiv y)) else none) none
 | _=>none
noncomputable def augV(op:Operator)(a b:V)(_:Store):Option V:=match op with
 | .Sub=>ob2 intO a b (fun x y=>some (.int (x - y))) none
 | _=>none
noncomputable def idx(i:Int)(n:Nat):Option Nat :=
 if 0<=i then (if i.toNat < n then some i.toNat else none)
 else if 0<=i+n then some (i+n).toNat else none
noncomputable def itemV(o i:V)(O:Store):Option V :=
 ob (strO o) (fun s=>ob (intO i) (fun k=>ob (idx k s.length) (fun j=>some (.str ⟨#[s.cps.getD j 0]⟩)) none) none)
  (ob (dictO O o) (fun es=>ob (strO i) (fun x=>lk x es) none)
   (ob (intO i) (fun k=>ob (asSeq O o) (fun vs=>ob (idx k vs.length) (fun j=>vs[j]?) none) none) none))
noncomputable def sliceL{α:Type}(lo hi:Option Int)(l:List α):List α :=
 (l.drop (lo.elim 0 (clipAt l.length))).take (hi.elim l.length (clipAt l.length) - lo.elim 0 (clipAt l.length))
noncomputable def stepL{α:Type}(lo hi:Option Int)(k:Int)(l:List α):List α :=
 (sliceRange (sliceBounds lo hi (some k) l.length).1 (sliceBounds lo hi (some k) l.length).2.1 (sliceBounds lo hi (some k) l.length).2.2).filterMap (l[·]?)
noncomputable def optInt(o:Option V):Option (Option Int):=ob o (fun v=>ob (intO v) (fun i=>some (some i)) none) (some none)
noncomputable def sOk(s:Str):Bool:=s.cps.all (· < 0x110000)
noncomputable def sliceV(o:V)(lo hi:Option V)(O:Store):Option V:=ob (optInt lo) (fun a=>ob (optInt hi) (fun b =>
 ob (strO o) (fun s=>some (.str ⟨(sliceL a b s.cps.toList).toArray⟩)) (ob (asList O o) (fun vs=>some (.lst (sliceL a b vs))) none)) none) none
noncomputable def stepV(o:V)(lo hi:Option V)(st:V)(O:Store):Option V:=ob (optInt lo) (fun a=>ob (optInt hi) (fun b =>
 ob (intO st) (fun k=>ob (asList O o) (fun vs=>if k≠0 then some (.lst (stepL a b k vs)) else none) none) none) none) none
noncomputable def isT:V->Option Bool
 | .bool b=>some b
 | .none=>some false
 | _=>none
noncomputable def rngO:V->Option (Int×Int×Int)
 | .rng a b c=>some (a,b,c)
 | _=>none
noncomputable def drawV(o:V)(k:Nat)(O:Store):Option (Option V) :=
 ob (strO o) (fun s=>some (if k < s.cps.size then some (.str ⟨#[s.cps.getD k 0]⟩) else none))
  (ob (rngO o) (fun r=>if 0 < r.2.2 then some (if r.1+(k:Int)*r.2.2 < r.2.1 then some (.int (r.1+(k:Int)*r.2.2)) else none) else none)
   (ob (asList O o) (fun vs=>some vs[k]?) none))
inductive Fl where
 | next (fr:Fr) | ret (v:V)
noncomputable def mkList(P:Prog)(pos:Pos)(vs:List V):M V:=fun O=>if vs.length<=lim then (match P.site pos.line pos.col with
 | some r=>match O[r]? with
  | some l=>some (.ref r l.length,O.add r (.list vs))
  | none=>none
 | none=>some (.lst vs,O)) else none
noncomputable def one:List V->Option V
 | [a]=>some a
 | _=>none
noncomputable def two{α:Type}:List α->Option (α×α)
 | [a,b]=>some (a,b)
 | _=>none
noncomputable def rangeV:List Int->Option V
 | [b]=>if b.natAbs<=lim then some (.rng 0 b 1) else none
 | [a,b]=>if a.natAbs<=lim/\b.natAbs<=lim then some (.rng a b 1) else none
 | [a,b,c]=>if a.natAbs<=lim/\b.natAbs<=lim/\0 < c/\c<=lim then some (.rng a b c) else none
 | _=>none
noncomputable def bV(n:Bi)(O:Store)(args:List V):Option V:=match n with
 | .len=>ob (one args) (fun a=>ob (strO a) (fun s=>some (.int s.length)) (ob (asSeq O a) (fun vs=>some (.int vs.length)) none)) none
 | .range=>ob (intsOf args) rangeV none
 | .ord=>ob (one args) (fun a=>ob (strO a) (fun s=>if s.length=1 then some (.int (s.cps.getD 0 0:Nat)) else none) none) none
 | .chr=>ob (one args) (fun a=>ob (intO a) (fun i=>if 0<=i/\i < 0x110000 then some (.str ⟨#[i.toNat]⟩) else none) none) none
 | .list=>ob (one args) (fun a=>ob (strO a) (fun s=>some (.lst (s.cps.toList.map fun c=>.str ⟨#[c]⟩))) (ob (asList O a) (fun vs=>some (.lst vs)) none)) none
 | .tuple=>ob (one args) (fun a=>ob (asList O a) (fun vs=>some (.tup vs)) none) none
noncomputable def builtinV(n:Bi)(args:List V):M V:=look fun O=>bV n O args
noncomputable def joinS(ss:List Str):Str:=⟨(ss.map (·.cps.toList)).flatten.toArray⟩
inductive MK where
 | bi (id:Mi) | fn (f:Addr)
noncomputable def strM(x:Str):Option Mi:=if x=="join" then some .join else if x=="find" then some .find else if x=="replace" then some .replace else none
noncomputable def listM(x:Str):Option Mi:=if x=="append" then some .append else if x=="extend" then some .extend else if x=="pop" then some .pop else none
noncomputable def dictM(x:Str):Option Mi:=if x=="get" then some .get else if x=="update" then some .update else none
noncomputable def updD(es fs:List (Str×V)):List (Str×V):=fs.foldl (fun es p=>setK p.1 p.2 es) es
noncomputable def mV(id:Mi)(o:V)(args:List V)(O:Store):Option (V×Store):=match id with
 | .join=>ob (strO o) (fun s=>ob (one args) (fun v=>ob (asList O v) (fun vs=>ob (strsOf vs) (fun l=>if (l.map (·.length)).sum<=lim/\l.length<=1000/\s.length=0 then some (.str (joinS l),O) else none) none) none) none) none
 | .find=>ob (strO o) (fun s=>ob (one args) (fun v=>ob (strO v) (fun x=>some (.int (Txt.find s x),O)) none) none) none
 | .replace=>none
 | .append=>ob (lref O o) (fun z=>ob (one args) (fun v=>if z.2.2.length < lim then some (.none,O.put z.1 z.2.1 (.list (z.2.2++[v]))) else none) none) none
 | .extend=>ob (lref O o) (fun z=>ob (one args) (fun v=>ob (asList O v) (fun ws=>if z.2.2.length+ws.length < lim then some (.none,O.put z.1 z.2.1 (.list (z.2.2++ws))) else none) none) none) none
 | .pop=>ob (lref O o) (fun z=>if args.isEmpty then ob z.2.2.getLast? (fun x=>some (x,O.put z.1 z.2.1 (.list z.2.2.dropLast))) none else none) none
 | .get=>ob (dref O o) (fun z=>ob (two args) (fun a=>ob (strO a.1) (fun x=>some ((lk x z.2.2).getD a.2,O)) none) none) none
 | .update=>ob (dref O o) (fun z=>ob (one args) (fun v=>ob (dref O v) (fun y=>if z.2.2.length+y.2.2.length < lim/\(z.1≠y.1\/z.2.1≠y.2.1) then some (.none,O.put z.1 z.2.1 (.dict (updD z.2.2 y.2.2))) else none) none) none) none
noncomputable def methV(id:Mi)(o:V)(args:List V):M V:=fun O=>mV id o args O
noncomputable def biTab:List (Str×Bi):=[("len",.len),("range",.range),("list",.list),("tuple",.tuple),("ord",.ord),("chr",.chr)]
noncomputable def biName(x:Str):Option Bi:=lk x biTab
section
variable (P:Prog)(call:CC)(sc:Scope)
noncomputable def nameO(fr:Fr)(x:Str):Option V:=match lk x fr with
 | some v=>some v
 | none=>match sc.names.lookup x with
  | some .globalImplicit=>match lk x P.globs with
   | some a=>some (.fn a)
   | none=>(biName x).map .bi
  | _=>none
noncomputable def nameV(fr:Fr)(x:Str):M V:=lift (nameO P sc fr x)
noncomputable def applyV(f:V)(args:List V):M V:=match f with
 | .bi n=>builtinV n args
 | .fn a=>match lkN a P.clss with
  | some c=>fun O=>match O[c.region]? with
   | some l=>bnd (call c.init (.ref c.region l.length::args)) (fun | .none=>ret (.ref c.region l.length) | _=>fail) (O.add c.region (.inst a []))
   | none=>none
  | none=>call a args
 | _=>fail
noncomputable def instO(O:Store)(o:V):Option (Nat×Nat×Addr×List (Str×V)×Cls):=ob (objO O o) (fun z=>ob (instB z.2.2) (fun c=>ob (lkN c.1 P.clss) (fun k=>some (z.1,z.2.1,c.1,c.2,k)) none) none) none
noncomputable def attrO(o:V)(x:Str)(O:Store):Option V:=ob (instO P O o) (fun z=>if z.2.2.2.2.attrs.contains x then lk x z.2.2.2.1 else none) none
noncomputable def attrV(o:V)(x:Str):M V:=look (attrO P o x)
noncomputable def setAttrV(o:V)(x:Str)(v:V):M Unit:=fun O=>ob (instO P O o) (fun z=>if z.2.2.2.2.attrs.contains x&&decide (z.2.2.2.1.length < 100) then some ((),O.put z.1 z.2.1 (.inst z.2.2.1 (setK x v z.2.2.2.1))) else none) none
noncomputable def setItemV(o k v:V):M Unit:=fun O=>ob (strO k)
 (fun x=>ob (dref O o) (fun z=>if z.2.2.length < lim then some ((),O.put z.1 z.2.1 (.dict (setK x v z.2.2))) else none) none)
 (ob (intO k) (fun j=>ob (lref O o) (fun z=>ob (idx j z.2.2.length) (fun m=>some ((),O.put z.1 z.2.1 (.list (z.2.2.set m v)))) none) none) none)
noncomputable def methK(o:V)(x:Str)(O:Store):Option MK:=ob (strO o) (fun w0=>(strM x).map .bi) (ob (lref O o) (fun w0=>(listM x).map .bi) (ob (dref O o) (fun w0=>(dictM x).map .bi)
 (ob (instO P O o) (fun z=>ob (lk x z.2.2.2.2.meths) (fun f=>ob (lk x z.2.2.2.1) (fun w0=>none) (some (.fn f))) none) none)))
noncomputable def methodV(k:MK)(o:V)(args:List V):M V:=match k with
 | .fn f=>call f (o::args)
 | .bi id=>methV id o args
noncomputable def isRepl:MK->Bool
 | .bi id=>match id with
  | .replace=>true
  | _=>false
 | _=>false
noncomputable def constV:Const->M V
 | .none=>ret .none
 | .bool b=>ret (.bool b)
 | .int i=>ret (.int i)
 | .str s=>if s.cps.all (· < 0x110000)/\s.length<=lim then ret (.str s) else fail
 | _=>fail
noncomputable def mkDict(P:Prog)(pos:Pos)(es:List (Str×V)):M V:=fun O=>match P.site pos.line pos.col with
 | some r=>match O[r]? with
  | some l=>some (.ref r l.length,O.add r (.dict (updD [] es)))
  | none=>none
 | none=>none
noncomputable def compK(o:V)(elt:V->M V)(test:V->M Bool):Nat->Nat->List V->M V
 | 0,_,_=>fail
 | n+1,k,acc=>bnd (look (drawV o k)) fun r=>ob r (fun v=>bnd (test v) fun b =>
   if b then bnd (elt v) fun w=>if acc.length < lim then compK o elt test n (k+1) (acc++[w]) else fail
   else compK o elt test n (k+1) acc) (ret (.lst acc))
noncomputable def plainBase:Expr->Bool
 | .Call (.Name ..) ..=>false
 | _=>true
noncomputable def cstS:Expr->Option Str
 | .Constant c _ _=>match c with
  | .str a=>some a
  | _=>none
 | _=>none
noncomputable def replV(o:V)(args:List Expr):M V:=ob (strO o) (fun s=>ob (two args) (fun p=>ob (cstS p.1) (fun a=>ob (cstS p.2) (fun b =>
  if b.length<=14/\(a==b)=false/\(Txt.replace s a b).cps.all (· < 0x110000)=true/\(Txt.replace s a b).length<=lim then ret (.str (Txt.replace s a b)) else fail) fail) fail) fail) fail
noncomputable def callOk(o:Expr)(args:List Expr)(ap p:Pos):Bool:=plainBase o&&decide (args.length < 20)&&(ap.endLine==p.line)
noncomputable def compFr(scope:Scope)(fr:Fr):Fr:=fr.filter fun p=>scope.names.lookup p.1==some NameKind.free
noncomputable def notSet:Expr->Bool
 | .Set ..=>false
 | _=>true
noncomputable def negV:V->Option V
 | .int i=>some (.int (-i))
 | _=>none
noncomputable def compOk(sc scope:Scope)(x:Str):Bool:=scope.kind==.function&&(x != (Y ".0"))&&scope.names.lookup x==some .local&&scope.names.all fun p=>(p.1 != Qck)&&(p.1 != Qcl) &&
 (match p.2 with
  | .local=>p.1==x||(p.1==(Y ".0")&&scope.names.lookup (Y ".0")==some .local)
  | .free=>sc.names.lookup p.1==some .cell&&p.1 != x
  | .globalImplicit=>p.1 != x
  | _=>false)
noncomputable def nameE:Expr->Option Str
 | .Name x _=>some x
 | _=>none
noncomputable def genV:List Comprehension->Option (Str×Expr×List Expr)
 | [g]=>if g.is_async=0 then ob (nameE g.target) (fun x=>some (x,g.iter,g.ifs)) none else none
 | _=>none
noncomputable abbrev Shp:=CmpOp×Expr×Option (CmpOp×Expr)
noncomputable def shpV:List CmpOp->List Expr->Option Shp
 | [op],[r]=>some (op,r,none)
 | [op1,op₂],[r₁,r₂]=>some (op1,r₁,some (op₂,r₂))
 | _,_=>none
inductive Cal where
 | m (o:Expr) (x:Str) (ap:Pos) | n (f:Str) (q:Pos) | bad
noncomputable abbrev calB{β:Type}(c:Cal)(f:Expr->Str->Pos->β)(g:Str->Pos->β)(z:β):β:=match c with
 | .m o x ap=>f o x ap
 | .n h q=>g h q
 | .bad=>z
noncomputable def calE:Expr->Cal
 | .Attribute o x ap=>.m o x ap
 | .Name f q=>.n f q
 | _=>.bad
noncomputable def calV(f:Expr):List Keyword->Cal
 | []=>calE f
 | _=>.bad
noncomputable def slcV:Expr->Option (Option Expr×Option Expr×Option Expr)
 | .Slice lo hi st _=>some (lo,hi,st)
 | _=>none
inductive Tst where
 | no (e:Expr) | bool (op:BoolOp) (es:List Expr) | cmp (l:Expr) (d:Shp) | plain | bad
noncomputable abbrev tstB{β:Type}(t:Tst)(f:Expr->β)(g:BoolOp->List Expr->β)(h:Expr->Shp->β)(p z:β):β:=match t with
 | .no e=>f e
 | .bool op es=>g op es
 | .cmp l d=>h l d
 | .plain=>p
 | .bad=>z
noncomputable def tstV:Expr->Tst
 | .UnaryOp op e _=>match op with
  | .Not=>.no e
  | _=>.bad
 | .BoolOp op es _=>.bool op es
 | .IfExp ..=>.bad
 | .Compare l ops rs _=>match shpV ops rs with
  | some d=>.cmp l d
  | none=>.bad
 | _=>.plain
inductive Tgt where
 | tup (ts:List Expr) | one (t:Expr) | bad
noncomputable abbrev tgtB{β:Type}(t:Tgt)(f:List Expr->β)(g:Expr->β)(z:β):β:=match t with
 | .tup ts=>f ts
 | .one t=>g t
 | .bad=>z
noncomputable def tgtV:List Expr->Tgt
 | [t]=>match t with
  | .Tuple ts _ _=>.tup ts
  | .List ..=>.bad
  | .Starred ..=>.bad
  | t=>.one t
 | _=>.bad
noncomputable def augT:Expr->Option (Expr×Str)
 | .Attribute o x _=>some (o,x)
 | _=>none
noncomputable def goOn(k:Fr->M Fl):Fl->M Fl
 | .next fr=>k fr
 | .ret v=>ret (.ret v)
noncomputable def setOk(sc:Scope)(x:Str):Bool:=match sc.names.lookup x with
 | some .local=>true
 | some .cell=>true
 | _=>false
noncomputable def forV(t:Expr):List Stmt->Option Str
 | []=>nameE t
 | _=>none
noncomputable abbrev ifsE(t:Fr->Expr->M Bool)(ifs:List Expr)(fr:Fr):M Bool:=match ifs with
 | []=>ret true
 | [c]=>t fr c
 | _=>fail
mutual
noncomputable def evalE:Nat->Scope->Fr->Expr->M V
 | 0,_,_,_=>fail
 | n+1,sc,fr,e=>match e with
  | .Constant c _ _=>constV c
  | .Name x _=>nameV P sc fr x
  | .BoolOp op es _=>boolE n sc fr op es
  | .BinOp l op r _=>bnd (evalE n sc fr l) fun a=>bnd (evalE n sc fr r) fun b=>look (binV op a b)
  | .UnaryOp op e _=>match op with
   | .Not=>bnd (evalE n sc fr e) fun a=>bnd (lift (isT a)) fun b=>ret (.bool (!b))
   | .USub=>bnd (evalE n sc fr e) fun a=>lift (negV a)
   | _=>fail
  | .IfExp t a b _=>bnd (testE n sc fr t) fun c=>if c then evalE n sc fr a else evalE n sc fr b
  | .Dict ks vs pos=>if ks.length<=15/\0 < ks.length then bnd (pairsE n sc fr ks vs) fun es=>mkDict P pos es else fail
  | .List es pos=>bnd (evalEs n sc fr es) fun vs=>mkList P pos vs
  | .Tuple es _ _=>bnd (evalEs n sc fr es) fun vs=>if vs.length<=lim then ret (.tup vs) else fail
  | .ListComp elt gens scope _=>bnd (lift (genV gens)) fun d=>if notSet d.2.1&&compOk sc scope d.1 then bnd (evalE n sc fr d.2.1) fun o =>
    compK o (fun v=>evalE n scope (setK d.1 v (compFr scope fr)) elt) (fun v=>ifsE (fun fr' c=>testE n scope fr' c) d.2.2 (setK d.1 v (compFr scope fr))) 200 0 [] else fail
  | .Compare l ops rs _=>bnd (lift (shpV ops rs)) fun s=>bnd (evalE n sc fr l) fun a=>bnd (evalE n sc fr s.2.1) fun b=>bnd (look (cmpV s.1 a b)) fun c=>ob s.2.2
   (fun t=>if c then (if notSet t.2 then bnd (evalE n sc fr t.2) fun d=>bnd (look (cmpV t.1 b d)) fun e=>ret (.bool e) else fail) else (if notSet t.2 then ret (.bool false) else fail)) (ret (.bool c))
  | .Call f args kws p=>calB (calV f kws)
   (fun o x ap=>if callOk o args ap p then bnd (evalE n sc fr o) fun ov =>
    bnd (look (methK P ov x)) fun k=>if isRepl k then replV ov args else bnd (evalEs n sc fr args) fun as=>methodV call k ov as else fail)
   (fun f q=>if decide (args.length < 20) then bnd (evalE n sc fr (.Name f q)) fun fv=>bnd (evalEs n sc fr args) fun as=>applyV P call fv as else fail) fail
  | .Attribute o x _=>if plainBase o then bnd (evalE n sc fr o) fun ov=>attrV P ov x else fail
  | .Subscript o i _=>ob (slcV i) (fun s=>bnd (evalE n sc fr o) fun ov=>bnd (optE n sc fr s.1) fun a=>bnd (optE n sc fr s.2.1) fun b=>ob s.2.2
    (fun st=>bnd (evalE n sc fr st) fun c=>look (stepV ov a b c)) (look (sliceV ov a b)))
   (bnd (evalE n sc fr o) fun ov=>bnd (evalE n sc fr i) fun iv=>look (itemV ov iv))
  | _=>fail

noncomputable def optE:Nat->Scope->Fr->Option Expr->M (Option V)
 | 0,_,_,_=>fail
 | _+1,_,_,none=>ret none
 | n+1,sc,fr,some e=>bnd (evalE n sc fr e) fun v=>ret (some v)

noncomputable def evalEs:Nat->Scope->Fr->List Expr->M (List V)
 | 0,_,_,_=>fail
 | _+1,_,_,[]=>ret []
 | n+1,sc,fr,e::r=>bnd (evalE n sc fr e) fun v=>bnd (evalEs n sc fr r) fun vs=>ret (v::vs)

noncomputable def pairsE:Nat->Scope->Fr->List (Option Expr)->List Expr->M (List (Str×V))
 | 0,_,_,_,_=>fail
 | _+1,_,_,[],[]=>ret []
 | n+1,sc,fr,some k::ks,e::r=>bnd (evalE n sc fr k) fun
  | .str x=>bnd (evalE n sc fr e) fun v=>bnd (pairsE n sc fr ks r) fun vs=>ret ((x,v)::vs)
  | _=>fail
 | _+1,_,_,_,_=>fail

noncomputable def boolE:Nat->Scope->Fr->BoolOp->List Expr->M V
 | 0,_,_,_,_=>fail
 | n+1,sc,fr,_,[e]=>evalE n sc fr e
 | n+1,sc,fr,op,e::r=>bnd (evalE n sc fr e) fun v=>bnd (lift (isT v)) fun b=>match op,b with
  | .And,false=>ret v
  | .Or,true=>ret v
  | _,_=>boolE n sc fr op r
 | _+1,_,_,_,_=>fail

noncomputable def testE:Nat->Scope->Fr->Expr->M Bool
 | 0,_,_,_=>fail
 | n+1,sc,fr,e=>tstB (tstV e) (fun e=>bnd (testE n sc fr e) fun b=>ret (!b)) (fun op es=>testsE n sc fr op es)
  (fun l s=>bnd (evalE n sc fr l) fun a=>bnd (evalE n sc fr s.2.1) fun b=>bnd (look (cmpV s.1 a b)) fun c=>ob s.2.2
   (fun t=>if c then (if notSet t.2 then bnd (evalE n sc fr t.2) fun d=>look (cmpV t.1 b d) else fail) else (if notSet t.2 then ret false else fail)) (ret c))
  (bnd (evalE n sc fr e) fun v=>lift (isT v)) fail

noncomputable def testsE:Nat->Scope->Fr->BoolOp->List Expr->M Bool
 | 0,_,_,_,_=>fail
 | _+1,_,_,op,[]=>ret (op==.And)
 | n+1,sc,fr,op,e::r=>bnd (testE n sc fr e) fun b=>match op,b with
  | .And,false=>ret false
  | .Or,true=>ret true
  | _,_=>testsE n sc fr op r
end
noncomputable def setVar(x:Str)(v:V)(fr:Fr):M Fr:=if setOk sc x then ret (setK x v fr) else fail
noncomputable def assignE(n:Nat)(fr:Fr)(v:V)(t:Expr):M Fr:=match t with
 | .Name x _=>setVar sc x v fr
 | .Attribute o x _=>bnd (evalE P call n sc fr o) fun ov=>bnd (setAttrV P ov x v) fun w0=>ret fr
 | .Subscript o i _=>bnd (evalE P call n sc fr o) fun ov=>bnd (evalE P call n sc fr i) fun iv=>bnd (setItemV ov iv v) fun w0=>ret fr
 | _=>fail
noncomputable def assignEs(n:Nat):Fr->List V->List Expr->M Fr
 | fr,[],[]=>ret fr
 | fr,v::vs,t::ts=>bnd (assignE P call sc n fr v t) fun fr'=>assignEs n fr' vs ts
 | _,_,_=>fail
noncomputable def loopW(test:Fr->M Bool)(body:Fr->M Fl):Nat->Fr->M Fl
 | 0,_=>fail
 | n+1,fr=>bnd (test fr) fun b=>if b then bnd (body fr) (goOn fun fr'=>loopW test body n fr') else ret (.next fr)
noncomputable def loopF(o:V)(set:V->Fr->M Fr)(body:Fr->M Fl):Nat->Nat->Fr->M Fl
 | 0,_,_=>fail
 | n+1,k,fr=>bnd (look (drawV o k)) fun r=>ob r (fun v=>bnd (set v fr) fun fr₁=>bnd (body fr₁) (goOn fun fr'=>loopF o set body n (k+1) fr')) (ret (.next fr))
noncomputable def tupOk(e:Expr):Bool:=match e with
 | .Tuple vs _ _=>!(vs.all (constantsAlone 8))||vs.all (foldedForSure 8)
 | _=>true
noncomputable def notComp:Expr->Bool
 | .ListComp ..=>false
 | .SetComp ..=>false
 | .DictComp ..=>false
 | _=>true
noncomputable def tupV:V->Option (List V)
 | .tup vs=>some vs
 | _=>none
noncomputable def nameT:Expr->Bool
 | .Name ..=>true
 | _=>false
noncomputable def names:List Expr->List Str
 | .Name x _::r=>x::names r
 | _::r=>names r
 | []=>[]
noncomputable def nodupB:List Str->Bool
 | []=>true
 | x::r=>!(r.any (·==x))&&nodupB r
mutual
noncomputable def execS:Nat->Fr->Stmt->M Fl
 | 0,_,_=>fail
 | n+1,fr,s=>match s with
  | .Expr e _=>if notComp e then bnd (evalE P call n sc fr e) fun w0=>ret (.next fr) else fail
  | .Pass _=>ret (.next fr)
  | .Return e _=>match e with
   | some e=>bnd (evalE P call n sc fr e) fun v=>ret (.ret v)
   | none=>ret (.ret .none)
  | .Assign ts e _=>tgtB (tgtV ts)
   (fun ts=>if tupOk e&&nodupB (names ts)&&decide (ts.length < 20) then bnd (evalE P call n sc fr e) fun v=>bnd (lift (tupV v)) fun vs=>bnd (assignEs P call sc n fr vs ts) fun fr'=>ret (.next fr') else fail)
   (fun t=>bnd (evalE P call n sc fr e) fun v=>bnd (assignE P call sc n fr v t) fun fr'=>ret (.next fr')) fail
  | .AugAssign t op e _=>ob (augT t) (fun z=>bnd (evalE P call n sc fr z.1) fun ov=>bnd (attrV P ov z.2) fun a=>bnd (evalE P call n sc fr e) fun b =>
    bnd (look (augV op a b)) fun v=>bnd (setAttrV P ov z.2 v) fun w0=>ret (.next fr)) fail
  | .If t a b _=>bnd (testE P call n sc fr t) fun c=>if c then execSs n fr a else execSs n fr b
  | .While t a b _=>match b with
   | []=>loopW (fun fr=>testE P call n sc fr t) (fun fr=>execSs n fr a) 5000 fr
   | _=>fail
  | .For t it a b _=>ob (forV t b) (fun x=>if notSet it then bnd (evalE P call n sc fr it) fun o=>loopF o (fun v fr=>setVar sc x v fr) (fun fr=>execSs n fr a) 5000 0 fr else fail) fail
  | _=>fail
noncomputable def execSs:Nat->Fr->List Stmt->M Fl
 | 0,_,_=>fail
 | n+1,fr,ss=>match ss with
  | []=>ret (.next fr)
  | s::r=>bnd (execS n fr s) (goOn fun fr'=>execSs n fr' r)
end
end
noncomputable def bindP:List Str->List V->List V->Option Fr
 | [],[],_=>some []
 | p::ps,v::vs,ds=>match bindP ps vs ds with
  | some fr=>some ((p,v)::fr)
  | none=>none
 | p::ps,[],ds=>match ds.drop (ds.length - (ps.length+1)) with
  | d::_=>if ps.length < ds.length then (match bindP ps [] ds with
   | some fr=>some ((p,d)::fr)
   | none=>none) else none
  | []=>none
 | [],_::_,_=>none
noncomputable def callD(P:Prog):Nat->CC
 | 0,_,_=>fail
 | d+1,a,args=>match lkN a P.fns with
  | some f=>match bindP f.params args f.dflts with
   | some fr=>bnd (execSs P (callD P d) f.scope 60 fr f.body) fun
    | .ret v=>ret v
    | .next _=>ret .none
   | none=>fail
  | none=>fail
end Mine
end
section
open PySem PySem.Calls PyProof.Rows PySem.W
namespace Mine
structure Gh where
 ρ:Nat->Nat->Option (Addr×Addr)
 Z:Addr->Prop
noncomputable def Gh.St(g:Gh)(b:Addr):Prop:=∃ r i a,g.ρ r i=some (a,b)
noncomputable def biVal:Bi->Value
 | .len=>.builtin "len" | .ord=>.builtin "ord" | .chr=>.builtin "chr"
 | .range=>.type "range" | .list=>.type "list" | .tuple=>.type "tuple"
noncomputable abbrev lo(its:Array Value)(n:Nat):Obj:={ cls:=.type "list",data:=.seq its n }
noncomputable abbrev tpo(its:Array Value)(n:Nat):Obj:={ cls:=.type "tuple",data:=.seq its n }
mutual
noncomputable def VR(g:Gh)(h:Heap):V->Value->Prop
 | .none,u=>u=.none
 | .bool b,u=>u=.bool b
 | .int i,u=>∃ t,u=.int i t
 | .str s,u=>∃ t,u=.str s t/\sOk s=true/\s.length<=lim
 | .tup vs,u=>∃ a its n,u=.ref a/\h.get? a=some (tpo its n)/\¬ g.Z a/\VRs g h vs its.toList/\vs.length<=lim
 | .lst vs,u=>∃ a its n,u=.ref a/\h.get? a=some (lo its n)/\¬ g.Z a/\VRs g h vs its.toList/\vs.length<=lim
 | .rng a b c,u=>∃ r t1 t2 t3,u=.ref r/\IsRange h r a b c t1 t2 t3/\¬ g.Z r/\a.natAbs<=lim/\b.natAbs<=lim/\0 < c/\c<=lim
 | .ref r i,u=>∃ a d,u=.ref a/\g.ρ r i=some (a,d)
 | .fn a,u=>u=.ref a
 | .bi n,u=>u=biVal n
noncomputable def VRs(g:Gh)(h:Heap):List V->List Value->Prop
 | [],us=>us=[]
 | v::vs,us=>∃ u r,us=u::r/\VR g h v u/\VRs g h vs r
end
noncomputable def ER(g:Gh)(h:Heap):List (Str×V)->List DictEntry->Prop
 | [],l=>l=[]
 | (x,v)::es,l=>∃ e r,l=e::r/\(∃ t,e.key=.str x t)/\VR g h v e.val/\ER g h es r
noncomputable def PR(g:Gh)(h:Heap):List (Str×V)->List (Str×Value)->Prop
 | [],l=>l=[]
 | (x,v)::es,l=>∃ u r,l=(x,u)::r/\VR g h v u/\PR g h es r
structure Cx where
 prog:Program
 w:World
 B:Heap
 K:Frag
 P:Prog
 big:∃ b,sysModules < b/\B.get? b≠none
noncomputable def OR(C:Cx)(g:Gh)(h:Heap)(o:Ob)(a d:Addr):Prop:=match o with
 | .list vs=>a=d/\∃ its n,h.get? d=some (lo its n)/\VRs g h vs its.toList/\vs.length<=lim
 | .dict es=>a=d/\∃ l,h.DictOf (strKind C.prog C.w) d l/\PR g h es l/\es.length<=lim
 | .inst c es=>h.get? a=some (instObj c d)/\¬ g.Z a/\∃ l n,h.get? d=some (dictOf l n)/\ER g h es l/\es.length<=100
structure Rel(C:Cx)(g:Gh)(O:Store)(h:Heap):Prop where
 base:∀ b o,C.B.get? b=some o->h.get? b=some o
 zb:∀ a,g.Z a->C.B.get? a=none/\sysModules < a
 zh:∀ a,g.Z a->h.get? a≠none
 st:∀ b,g.St b->g.Z b
 dom:∀ r i,O.get r i=none->g.ρ r i=none
 obj:∀ r i o,O.get r i=some o->∃ a d,g.ρ r i=some (a,d)/\OR C g h o a d
 inj:∀ r i r' i' a a' d,g.ρ r i=some (a,d)->g.ρ r' i'=some (a',d)->r=r'/\i=i'
structure Tr(W:Addr->Prop)(g:Gh)(s:Shared)(g':Gh)(s':Shared):Prop where
 grow:∀ r i x,g.ρ r i=some x->g'.ρ r i=some x
 keep:∀ b o,s.heap.get? b=some o->¬ g.St b->¬ W b->s'.heap.get? b=some o
 zz:∀ a,s.heap.get? a≠none->¬ W a->g'.Z a->g.Z a
 zk:∀ a,g.Z a->g'.Z a
 live:∀ a,s.heap.get? a≠none->¬ W a->s'.heap.get? a≠none
 fresh:∀ b,g'.St b->¬ g.St b->s.heap.get? b=none\/W b
 gens:s'.gens=s.gens
 os:s'.os=s.os
theorem Tr.refl(W:Addr->Prop)(g:Gh)(s:Shared):Tr W g s g s :=
 ⟨fun w0 w0 w0 e=>e,fun w0 w0 e w0 w0=>e,fun w0 w0 w0 z=>z,fun w0 z=>z,fun w0 e w0=>e,fun w0 a b=>absurd a b,rfl,rfl⟩
theorem Uae{h:Heap}{b:Addr}{o:Obj}(e:h.get? b=some o):h.get? b≠none:=by rw [e];exact Option.some_ne_none _
theorem Tr.trans{W:Addr->Prop}{g₁ g₂ g₃:Gh}{s₁ s₂ s₃:Shared}(x:Tr W g₁ s₁ g₂ s₂)(y:Tr W g₂ s₂ g₃ s₃):Tr W g₁ s₁ g₃ s₃ where
 grow:=fun r i p e=>y.grow _ _ _ (x.grow _ _ _ e)
 keep:=fun b o e h w=>by
  refine y.keep b o (x.keep b o e h w) (fun q=>?_) w;rcases x.fresh b q h with z | z
  ·rw [e] at z;cases z
  ·exact w z
 zz:=fun a l w z=>x.zz a l w (y.zz a (x.live a l w) w z)
 zk:=fun a z=>y.zk a (x.zk a z)
 live:=fun a l w=>y.live a (x.live a l w) w
 fresh:=fun b p q=>by
  by_cases m:g₂.St b
  ·exact x.fresh b m q
  ·rcases y.fresh b p m with z | z
   ·by_cases w:W b
    ·exact .inr w
    ·refine .inl ?_
     by_cases l:s₁.heap.get? b=none
     ·exact l
     ·exact absurd z (x.live b l w)
   ·exact .inr z
 gens:=y.gens.trans x.gens
 os:=y.os.trans x.os
theorem Tr.weak{W W':Addr->Prop}{g g':Gh}{s s':Shared}(x:Tr W g s g' s')(h:∀ b,s.heap.get? b≠none->W b->W' b):Tr W' g s g' s' :=
 { x with
  keep:=fun b o e p w=>x.keep b o e p fun q=>w (h b (Uae e) q)
  zz:=fun a l w z=>x.zz a l (fun q=>w (h a l q)) z
  live:=fun a l w=>x.live a l fun q=>w (h a l q)
  fresh:=fun b p q=>by
   rcases x.fresh b p q with z | z
   ·exact .inl z
   ·by_cases l:s.heap.get? b=none
    ·exact .inl l
    ·exact .inr (h b l z) }
theorem Tr.none{W:Addr->Prop}{g g':Gh}{s s':Shared}(x:Tr (fun w0=>False) g s g' s'):Tr W g s g' s':=x.weak fun w0 w0 q=>q.elim
section
variable {W:Addr->Prop}{g g':Gh}{s s':Shared}
theorem Tr.at_(x:Tr W g s g' s')(hs:∀ b,g.St b->g.Z b)(hw:∀ b,W b->g.Z b){a:Addr}{o:Obj}(e:s.heap.get? a=some o)(z:¬ g.Z a):s'.heap.get? a=some o :=
 x.keep a o e (fun q=>z (hs a q)) fun q=>z (hw a q)
theorem Tr.notZ(x:Tr W g s g' s')(hw:∀ b,W b->g.Z b){a:Addr}{o:Obj}(e:s.heap.get? a=some o)(z:¬ g.Z a):¬ g'.Z a :=
 fun q=>z (x.zz a (Uae e) (fun w=>z (hw a w)) q)
structure Kp(g:Gh)(h:Heap)(g':Gh)(h':Heap):Prop where
 grow:∀ r i x,g.ρ r i=some x->g'.ρ r i=some x
 at_:∀ a o,h.get? a=some o->¬ g.Z a->h'.get? a=some o
 nz:∀ a o,h.get? a=some o->¬ g.Z a->¬ g'.Z a
theorem Tr.kp(x:Tr W g s g' s')(hs:∀ b,g.St b->g.Z b)(hw:∀ b,W b->g.Z b):Kp g s.heap g' s'.heap :=
 ⟨x.grow,fun w0 w0 e z=>x.at_ hs hw e z,fun w0 w0 e z=>x.notZ hw e z⟩
variable {h₀ h₁:Heap}
mutual
theorem VR.kp(x:Kp g h₀ g' h₁):∀ (v:V) {u:Value},VR g h₀ v u->VR g' h₁ v u
 | .none,_,h=>by simpa [VR] using h
 | .bool _,_,h=>by simpa [VR] using h
 | .int _,_,h=>by simpa [VR] using h
 | .str _,_,h=>by simpa [VR] using h
 | .tup vs,_,h=>by
  dsimp only [VR] at h ⊢;refine xEEEAAAAA h fun a its n e ho z hv hl=>?_;exact ⟨a,its,n,e,x.at_ _ _ ho z,x.nz _ _ ho z,VRs.kp x vs hv,hl⟩
 | .lst vs,_,h=>by
  dsimp only [VR] at h ⊢;refine xEEEAAAAA h fun a its n e ho z hv hl=>?_;exact ⟨a,its,n,e,x.at_ _ _ ho z,x.nz _ _ ho z,VRs.kp x vs hv,hl⟩
 | .rng _ _ _,_,h=>by
  dsimp only [VR] at h ⊢;refine xEEEEAAAA h fun r t1 t2 t3 e ho z bd=>?_;exact ⟨r,t1,t2,t3,e,x.at_ _ _ ho z,x.nz _ _ ho z,bd⟩
 | .ref _ _,_,h=>by
  dsimp only [VR] at h ⊢;refine xEEAA h fun a d e p=>?_;exact ⟨a,d,e,x.grow _ _ _ p⟩
 | .fn _,_,h=>by simpa [VR] using h
 | .bi _,_,h=>by simpa [VR] using h
theorem VRs.kp(x:Kp g h₀ g' h₁):∀ (vs:List V) {us:List Value},VRs g h₀ vs us->VRs g' h₁ vs us
 | [],_,h=>by simpa [VRs] using h
 | v::vs,_,h=>by
  dsimp only [VRs] at h ⊢;refine xEEAAA h fun u r e a b=>?_;exact ⟨u,r,e,VR.kp x v a,VRs.kp x vs b⟩
end
theorem ER.kp(x:Kp g h₀ g' h₁):∀ (es:List (Str×V)) {l:List DictEntry},ER g h₀ es l->ER g' h₁ es l
 | [],_,h=>by simpa [ER] using h
 | (k,v)::es,_,h=>by
  dsimp only [ER] at h ⊢;refine xEEAAAA h fun e r q a b c=>?_;exact ⟨e,r,q,a,VR.kp x v b,ER.kp x es c⟩
theorem PR.kp(x:Kp g h₀ g' h₁):∀ (es:List (Str×V)) {l:List (Str×Value)},PR g h₀ es l->PR g' h₁ es l
 | [],_,h=>by simpa [PR] using h
 | (k,v)::es,_,h=>by
  dsimp only [PR] at h ⊢;refine xEEAAA h fun e r q b c=>?_;exact ⟨e,r,q,VR.kp x v b,PR.kp x es c⟩
end
section
variable {W:Addr->Prop}{g g':Gh}{s s':Shared}
theorem VR.tr(x:Tr W g s g' s')(hs:∀ b,g.St b->g.Z b)(hw:∀ b,W b->g.Z b)(v:V){u:Value}(h:VR g s.heap v u):VR g' s'.heap v u:=VR.kp (x.kp hs hw) v h
theorem VRs.tr(x:Tr W g s g' s')(hs:∀ b,g.St b->g.Z b)(hw:∀ b,W b->g.Z b)(v:List V){u:List Value}(h:VRs g s.heap v u):VRs g' s'.heap v u:=VRs.kp (x.kp hs hw) v h
theorem ER.tr(x:Tr W g s g' s')(hs:∀ b,g.St b->g.Z b)(hw:∀ b,W b->g.Z b)(es:List (Str×V)){l:List DictEntry}(h:ER g s.heap es l):ER g' s'.heap es l:=ER.kp (x.kp hs hw) es h
theorem PR.tr(x:Tr W g s g' s')(hs:∀ b,g.St b->g.Z b)(hw:∀ b,W b->g.Z b)(es:List (Str×V)){l:List (Str×Value)}(h:PR g s.heap es l):PR g' s'.heap es l:=PR.kp (x.kp hs hw) es h
end
theorem VRs.len{g:Gh}{h:Heap}:∀ {vs:List V} {us:List Value},VRs g h vs us->us.length=vs.length
 | [],_,e=>by dsimp only [VRs] at e;rw [e];rfl
 | v::vs,_,e=>by
  dsimp only [VRs] at e;refine xEEAAA e fun u r qz1 w0 h=>?_;subst qz1;simp [VRs.len h]
theorem VRs.get{g:Gh}{h:Heap}:∀ {vs:List V} {us:List Value},VRs g h vs us->∀ {i:Nat} {v:V},vs[i]?=some v->∃ u,us[i]?=some u/\VR g h v u
 | [],_,_,i,v,q=>by simp at q
 | v::vs,_,e,i,w,q=>by
  dsimp only [VRs] at e;refine xEEAAA e fun u r qz1 a h=>?_;subst qz1;cases i with
  | zero=>simp at q;subst q;exact ⟨u,rfl,a⟩
  | succ i=>exact VRs.get h (by simpa using q)
theorem VRs.app{g:Gh}{h:Heap}:∀ {vs ws:List V} {us xs:List Value},VRs g h vs us->VRs g h ws xs->VRs g h (vs++ws) (us++xs)
 | [],_,_,_,e,f=>by dsimp only [VRs] at e;subst e;exact f
 | v::vs,_,_,_,e,f=>by
  dsimp only [VRs] at e;refine xEEAAA e fun u r qz1 a h=>?_;subst qz1;skip;exact ⟨u,r++_,rfl,a,VRs.app h f⟩
theorem VRs.one{g:Gh}{h:Heap}{v:V}{u:Value}(e:VR g h v u):VRs g h [v] [u]:=by dsimp only [VRs];exact ⟨u,[],rfl,e,rfl⟩
theorem VRs.take{g:Gh}{h:Heap}:∀ (n:Nat) {vs:List V} {us:List Value},VRs g h vs us->VRs g h (vs.take n) (us.take n)
 | 0,_,_,_=>by rfl
 | n+1,[],_,e=>by dsimp only [VRs] at e;subst e;simp [VRs]
 | n+1,v::vs,_,e=>by
  dsimp only [VRs] at e;refine xEEAAA e fun u r qz1 a h=>?_;subst qz1;skip;exact ⟨u,_,rfl,a,VRs.take n h⟩
theorem VRs.drop{g:Gh}{h:Heap}:∀ (n:Nat) {vs:List V} {us:List Value},VRs g h vs us->VRs g h (vs.drop n) (us.drop n)
 | 0,_,_,e=>by simpa using e
 | n+1,[],_,e=>by dsimp only [VRs] at e;subst e;simp [VRs]
 | n+1,v::vs,_,e=>by
  dsimp only [VRs] at e;refine xEEAAA e fun u r qz1 a h=>?_;subst qz1;skip;exact VRs.drop n h
theorem VRs.set{g:Gh}{h:Heap}{w:V}{x:Value}(q:VR g h w x):∀ (n:Nat) {vs:List V} {us:List Value},VRs g h vs us->VRs g h (vs.set n w) (us.set n x)
 | _,[],_,e=>by dsimp only [VRs] at e;subst e;simp [VRs]
 | 0,v::vs,_,e=>by
  dsimp only [VRs] at e;refine xEEAAA e fun u r qz1 a h=>?_;subst qz1;skip;exact ⟨x,r,rfl,q,h⟩
 | n+1,v::vs,_,e=>by
  dsimp only [VRs] at e;refine xEEAAA e fun u r qz1 a h=>?_;subst qz1;skip;exact ⟨u,_,rfl,a,VRs.set q n h⟩
set_option tactic.hygienic true in
theorem Store.get_put{O:Store}{r i:Nat}{o o':Ob}(h:O.get r i=some o')(r' i':Nat):(O.put r i o).get r' i'=if r'=r/\i'=i then some o else O.get r' i':=by
 delta Store.get at h ⊢;delta Store.put;rw [List.getElem?_modify];split at h
 ·rename_i l hl
  by_cases e:r=r'
  ·subst e;simp only [if_true,hl,Option.map_eq_map,Option.map_some,List.getElem?_set];have hi:i < l.length:=by
    rw [List.getElem?_eq_some_iff] at h;exact h.1
   by_cases e':i=i'
   ·subst e';simp [hi]
   ·have:¬ i'=i:=fun q=>e' q.symm;simp [e',this]
  ·have:¬ r'=r:=fun q=>e q.symm;simp only [e,if_false,this,false_and];cases O[r']? <;> rfl
 ·cases h
theorem Store.get_add{O:Store}{r:Nat}{l:List Ob}{o:Ob}(h:O[r]?=some l)(r' i':Nat):(O.add r o).get r' i'=if r'=r/\i'=l.length then some o else O.get r' i':=by
 delta Store.get Store.add;rw [List.getElem?_modify]
 by_cases e:r=r'
 ·subst e;simp only [if_true,h,Option.map_eq_map,Option.map_some,true_and];rw [List.getElem?_append]
  by_cases q:i' < l.length
  ·have:¬ i'=l.length:=Nat.ne_of_lt q;simp [q,this]
  ·by_cases z:i'=l.length
   ·subst z;simp
   ·have h1:l.length < i':=Nat.lt_of_le_of_ne (Nat.le_of_not_lt q) fun e=>z e.symm;have h2:l[i']?=none:=List.getElem?_eq_none (om49 h1);simp only [q,if_false,z,h2];obtain ⟨k,hk⟩:∃ k,i' - l.length=k+1:=⟨i' - l.length - 1,((Nat.sub_add_cancel (Nat.sub_pos_of_lt h1)).symm)⟩
    rw [hk];simp
 ·have:¬ r'=r:=fun q=>e q.symm;simp only [e,if_false,this,false_and];cases O[r']? <;> rfl
theorem Store.get_end{O:Store}{r:Nat}{l:List Ob}(h:O[r]?=some l):O.get r l.length=none:=by
 delta Store.get;rw [h];simp
theorem OR.tr{C:Cx}{W:Addr->Prop}{g g':Gh}{s s':Shared}(x:Tr W g s g' s')(hs:∀ b,g.St b->g.Z b)(hw:∀ b,W b->g.Z b){o:Ob}{a d:Addr}
  (hd:∀ ob,s.heap.get? d=some ob->s'.heap.get? d=some ob) (h:OR C g s.heap o a d):OR C g' s'.heap o a d:=by
 cases o with
 | list vs=>refine xAEEAAA h fun e its n q v l=>?_;exact ⟨e,its,n,hd _ q,VRs.tr x hs hw vs v,l⟩
 | dict es=>refine xAEAAA h fun e its qz1 v l=>?_;obtain ⟨o,k1,k2,q,k3⟩:=qz1;exact ⟨e,its,⟨o,k1,k2,hd _ q,k3⟩,PR.tr x hs hw es v,l⟩
 | inst c es=>refine xAAEEAAA h fun e z its n q v l=>?_;exact ⟨x.at_ hs hw e z,x.notZ hw e z,its,n,hd _ q,ER.tr x hs hw es v,l⟩
theorem Tr.grown{g:Gh}{s s':Shared}(k:∀ b o,s.heap.get? b=some o->s'.heap.get? b=some o)(hg:s'.gens=s.gens)(ho:s'.os=s.os) :
  Tr (fun w0=>False) g s g s' :=
 ⟨fun w0 w0 w0 e=>e,fun b o e w0 w0=>k b o e,fun w0 w0 w0 z=>z,fun w0 z=>z,fun a l w0=>by
  cases e:s.heap.get? a with
  | none=>exact absurd e l
  | some o=>rw [k a o e];exact Option.some_ne_none _,fun w0 a b=>absurd a b,hg,ho⟩
theorem Rel.grown{C:Cx}{g:Gh}{O:Store}{s s':Shared}(R:Rel C g O s.heap)(k:∀ b o,s.heap.get? b=some o->s'.heap.get? b=some o)
  (hg:s'.gens=s.gens) (ho:s'.os=s.os):Rel C g O s'.heap where
 base:=fun b o e=>k b o (R.base b o e)
 zb:=R.zb
 zh:=fun a z=>(Tr.grown (g:=g) k hg ho).live a (R.zh a z) (fun f=>f)
 st:=R.st
 dom:=R.dom
 obj:=fun r i o e=>by
  refine xEEAA (R.obj r i o e) fun a d p q=>?_;exact ⟨a,d,p,OR.tr (W:=fun w0=>False) (Tr.grown k hg ho) R.st (fun w0 f=>f.elim) (k d) q⟩
 inj:=R.inj
theorem Rel.low{C:Cx}{g:Gh}{O:Store}{h:Heap}(R:Rel C g O h):sysModules < h.objs.size:=by
 refine xEAA C.big fun b hb hl=>?_;cases e:C.B.get? b with
 | none=>exact absurd e hl
 | some o=>exact Nat.lt_trans hb (Heap.lt_size (R.base b o e))
section
variable {C:Cx}{g:Gh}{O:Store}{s s':Shared}
set_option tactic.hygienic true in
theorem Rel.put(R:Rel C g O s.heap){r i:Nat}{o o':Ob}{a d:Addr}(e:O.get r i=some o)(hp:g.ρ r i=some (a,d))(hs:Heap.SameBut d s.heap s'.heap)(hl:s'.heap.get? d≠none)
  (hg:s'.gens=s.gens) (ho:s'.os=s.os) (hn:(x:Tr (fun w0=>False) g s g s')->OR C g s'.heap o' a d) :
  Tr (fun w0=>False) g s g s'/\Rel C g (O.put r i o') s'.heap:=by
 have hd:g.St d:=⟨r,i,a,hp⟩
 have live:∀ b,s.heap.get? b≠none->s'.heap.get? b≠none:=fun b l=>by
  by_cases q:b=d
  ·subst q;exact hl
  ·rw [hs.2 b q];exact l
 have x:Tr (fun w0=>False) g s g s':=by
  refine ⟨fun w0 w0 w0 e=>e,fun b ob e n w0=>?_,fun w0 w0 w0 z=>z,fun w0 z=>z,fun b l w0=>live b l,fun w0 a b=>absurd a b,hg,ho⟩;exact (hs.2 b fun q=>n (q▸hd)).trans e
 refine ⟨x,⟨fun b ob q=>?_,R.zb,fun b z=>live b (R.zh b z),R.st,fun r' i' q=>?_,fun r' i' ob q=>?_,R.inj⟩⟩
 ·have:b≠d:=fun z=>by
   subst z;have:=(R.zb _ (R.st _ hd)).1;rw [q] at this;cases this
  exact (hs.2 b this).trans (R.base b ob q)
 ·rw [Store.get_put e] at q;split at q
  ·cases q
  ·exact R.dom _ _ q
 ·rw [Store.get_put e] at q;split at q
  ·rename_i z;refine xAA z fun qz1 qz2=>?_;subst qz1;subst qz2;cases q;exact ⟨a,d,hp,hn x⟩
  ·rename_i z;refine xEEAA (R.obj _ _ _ q) fun a' d' p' q'=>?_;refine ⟨a',d',p',OR.tr x R.st (fun w0 f=>f.elim) (fun ob z'=>?_) q'⟩;have:d'≠d:=fun y=>by
    subst y;exact z (R.inj _ _ _ _ _ _ _ p' hp)
   exact (hs.2 d' this).trans z'
noncomputable def Gh.ext(g:Gh)(r i:Nat)(a d:Addr):Gh:=⟨fun r' i'=>if r'=r/\i'=i then some (a,d) else g.ρ r' i',fun b=>g.Z b\/b=d⟩
set_option tactic.hygienic true in
theorem Rel.add(R:Rel C g O s.heap){r:Nat}{l:List Ob}{o:Ob}{a d:Addr}(e:O[r]?=some l)(k:∀ b ob,s.heap.get? b=some ob->s'.heap.get? b=some ob)
  (hd:s.heap.get? d=none) (hd':s'.heap.get? d≠none) (hy:sysModules < d)
  (hg:s'.gens=s.gens) (ho:s'.os=s.os) (hn:Tr (fun w0=>False) g s (g.ext r l.length a d) s'->OR C (g.ext r l.length a d) s'.heap o a d) :
  Tr (fun w0=>False) g s (g.ext r l.length a d) s'/\Rel C (g.ext r l.length a d) (O.add r o) s'.heap:=by
 have hnone:g.ρ r l.length=none:=R.dom _ _ (Store.get_end e);have hnz:¬ g.St d:=fun q=>R.zh d (R.st d q) hd;have live:=(Tr.grown (g:=g) k hg ho).live;have x:Tr (fun w0=>False) g s (g.ext r l.length a d) s':=by
  refine ⟨fun r' i' p q=>?_,fun b ob q w0 w0=>k b ob q,fun b q w0 z=>?_,fun b z=>.inl z,live,fun b p q=>?_,hg,ho⟩
  ·show (if _ then _ else _)=_;split
   ·rename_i z;refine xAA z fun qz1 qz2=>?_;subst qz1;subst qz2;rw [hnone] at q;cases q
   ·exact q
  ·rcases z with z | z
   ·exact z
   ·subst z;exact absurd hd q
  ·refine xEEEA p fun r' i' a' p=>?_;have p:(if r'=r/\i'=l.length then some (a,d) else g.ρ r' i')=some (a',b):=p;split at p
   ·cases p;exact .inl hd
   ·exact absurd ⟨r',i',a',p⟩ q
 have st:∀ b,(g.ext r l.length a d).St b->(g.ext r l.length a d).Z b:=fun b p=>by
  refine xEEEA p fun r' i' a' p=>?_;have p:(if r'=r/\i'=l.length then some (a,d) else g.ρ r' i')=some (a',b):=p;split at p
  ·cases p;exact .inr rfl
  ·exact .inl (R.st b ⟨r',i',a',p⟩)
 refine ⟨x,⟨fun b ob q=>k b ob (R.base b ob q),fun b z=>?_,fun b z=>?_,st,fun r' i' q=>?_,fun r' i' ob q=>?_,fun r' i' r'' i'' a' a'' d' p q=>?_⟩⟩
 ·rcases z with z | z
  ·exact R.zb b z
  ·subst z;refine ⟨?_,hy⟩;cases q:C.B.get? b with
   | none=>rfl
   | some ob=>have:=R.base b ob q;rw [hd] at this;cases this
 ·rcases z with z | z
  ·exact live b (R.zh b z) (fun f=>f)
  ·subst z;exact hd'
 ·rw [Store.get_add e] at q;split at q
  ·cases q
  ·rename_i z;show (if _ then _ else _)=_;rw [if_neg z];exact R.dom _ _ q
 ·rw [Store.get_add e] at q;split at q
  ·rename_i z;refine xAA z fun qz1 qz2=>?_;subst qz1;subst qz2;cases q;refine ⟨a,d,by show (if _ then _ else _)=_;rw [if_pos ⟨rfl,rfl⟩],hn x⟩
  ·rename_i z;refine xEEAA (R.obj _ _ _ q) fun a' d' p' q'=>?_;exact ⟨a',d',x.grow _ _ _ p',OR.tr x R.st (fun w0 f=>f.elim) (k d') q'⟩
 ·have p:(if r'=r/\i'=l.length then some (a,d) else g.ρ r' i')=some (a',d'):=p;have q:(if r''=r/\i''=l.length then some (a,d) else g.ρ r'' i'')=some (a'',d'):=q;split at p <;> split at q
  ·rename_i z z';exact ⟨z.1.trans z'.1.symm,z.2.trans z'.2.symm⟩
  ·cases p;exact absurd ⟨r'',i'',a'',q⟩ hnz
  ·cases q;exact absurd ⟨r',i',a',p⟩ hnz
  ·exact R.inj _ _ _ _ _ _ _ p q
end
theorem Uai{n:Nat}(h:n<=lim):n<=sizeLine:=Nat.le_trans h (by delta lim sizeLine;decide)
structure Facts(C:Cx):Prop where
 X:C.K.In C.B
 lim:C.B.NoLimit
 ns:∃ mg mb,C.B.Ns mainGlobals mg/\C.B.Ns builtinsNs mb/\(∀ x a,lk x C.P.globs=some a->mg x=some (.ref a)) /\
  (∀ x:Str,x="len"\/x="ord"\/x="chr"->lk x C.P.globs=none->mg x=none/\mb x=some (.builtin x.toString)) /\
  (∀ x:Str,x="range"\/x="list"\/x="tuple"->lk x C.P.globs=none->mg x=none/\mb x=some (.type x.toString))
structure Room(A:Around)(d:Nat):Prop where
 handled:A.handled=none
 depth:A.depth+2*d+2 < 1000
 units:A.units+8*d+200 < 9900
structure FR(g:Gh)(h:Heap)(env:Env)(fr:Fr):Prop where
 kind:env.scope.kind=.function
 glob:env.globals=mainGlobals
 blt:env.builtins=builtinsNs
 dbg:∀ p ∈ env.scope.names,(p.1==Qck)=false/\(p.1==Qcl)=false
 zl:g.Z env.locals
 sl:¬ g.St env.locals
 ns:∃ m,h.Ns env.locals m/\∀ x v,lk x fr=some v->env.kindOf x=some .local->∃ u,m x=some u/\VR g h v u
 var:∀ x v,lk x fr=some v->env.kindOf x=some .local\/(env.kindOf x=some .cell\/env.kindOf x=some .free)/\∃ c u,env.cells.lookup x=some c/\h.IsCell c (some u)/\VR g h v u
 cell:∀ x c,env.cells.lookup x=some c->g.Z c/\¬ g.St c/\c≠env.locals/\∃ u,h.IsCell c u
 has:∀ x,env.kindOf x=some .cell->∃ c,env.cells.lookup x=some c
 apart:∀ x y c,env.cells.lookup x=some c->env.cells.lookup y=some c->x=y
section
variable {C:Cx}
noncomputable def Ev(C:Cx)(A:Around){α:Type}(t:Sem α)(g:Gh)(O:Store)(s:Shared)(T:Gh->Heap->α->Prop):Prop :=
 0 < s.toks->∀ (Q:α->Shared->Prop) (E:Value->Shared->Prop),(∀ a s' g',Tr (fun w0=>False) g s g' s'->Rel C g' O s'.heap->T g' s'.heap a->Q a s')->wpAny (model C.prog C.w) A t Q E s
variable {A:Around}{g:Gh}{O O₁ O':Store}{s:Shared}
theorem Ev.bind{α β:Type}{t:Sem α}{k:α->Sem β}{T:Gh->Heap->α->Prop}{T':Gh->Heap->β->Prop}(h:Ev C A t g O₁ s T)
  (hk:∀ a s₁ g₁,Tr (fun w0=>False) g s g₁ s₁->Rel C g₁ O₁ s₁.heap->T g₁ s₁.heap a->Ev C A (k a) g₁ O' s₁ T'):Ev C A (t >>= k) g O' s T' :=
 fun p Q E q=>wpAny_bind (wpAny_mono (wpAny_toks_of p (h p (fun a s₁=>0 < s₁.toks->wpAny (model C.prog C.w) A (k a) Q E s₁) E fun a s₁ g₁ x R t' p'=>hk a s₁ g₁ x R t' p' Q E fun b s₂ g₂ x₂ R2 t₂=>q b s₂ g₂ (x.trans x₂) R2 t₂))
  (fun w0 w0 x=>x.2 x.1) fun w0 w0 x=>x.2)
theorem Ev.mono{α:Type}{t:Sem α}{T T':Gh->Heap->α->Prop}(h:Ev C A t g O s T)(k:∀ g' h' a,T g' h' a->T' g' h' a):Ev C A t g O s T' :=
 fun p Q E q=>h p Q E fun a s' g' x R t'=>q a s' g' x R (k _ _ _ t')
theorem Ev.same{α:Type}{t:Sem α}{T:Gh->Heap->α->Prop}(R:Rel C g O s.heap)
  (h:∀ (Q:α->Shared->Prop) (E:Value->Shared->Prop),(∀ a k,T g s.heap a->Q a { s with toks:=k })->wpAny (model C.prog C.w) A t Q E s):Ev C A t g O s T :=
 fun w0 Q E q=>h Q E fun a k t'=>q a _ g (Tr.grown (fun w0 w0 e=>e) rfl rfl) (R.grown (s':={ s with toks:=k }) (fun w0 w0 e=>e) rfl rfl) t'
theorem Tr.tok{W:Addr->Prop}(k:Nat):Tr W g s g { s with toks:=k }:=(Tr.grown (s:=s) (s':={ s with toks:=k }) (fun w0 w0 e=>e) rfl rfl).none
theorem Rel.tok(R:Rel C g O s.heap)(k:Nat):Rel C g O ({ s with toks:=k }:Shared).heap:=R
theorem FR.tr{s':Shared}{g':Gh}{env:Env}{fr:Fr}(F:FR g s.heap env fr)(R:Rel C g O s.heap)(x:Tr (fun w0=>False) g s g' s'):FR g' s'.heap env fr:=by
 have nf:∀ b,False->g.Z b:=fun w0 f=>f.elim;have nst:∀ {c:Addr} {o:Obj},s.heap.get? c=some o->¬ g.St c->¬ g'.St c:=fun e n q=>by
  rcases x.fresh _ q n with z | z
  ·rw [e] at z;cases z
  ·exact z
 have kp:∀ {c:Addr} {o:Obj},s.heap.get? c=some o->¬ g.St c->s'.heap.get? c=some o:=fun e n=>x.keep _ _ e n fun f=>f;refine xEAA F.ns fun m qz1 hv=>?_;obtain ⟨o,es,ep,ho,hd,hk,hm⟩:=qz1;refine ⟨F.kind,F.glob,F.blt,F.dbg,x.zk _ F.zl,nst ho F.sl,⟨m,⟨o,es,ep,kp ho F.sl,hd,hk,hm⟩,fun y v e k=>?_⟩,fun y v e=>?_,fun y c e=>?_,F.has,F.apart⟩
 ·refine xEAA (hv y v e k) fun u a b=>?_;exact ⟨u,a,VR.tr x R.st nf v b⟩
 ·rcases F.var y v e with k | ⟨k,c,u,a,⟨oc,hc,hcd⟩,b⟩
  ·exact .inl k
  ·exact .inr ⟨k,c,u,a,⟨oc,kp hc (F.cell y c a).2.1,hcd⟩,VR.tr x R.st nf v b⟩
 ·refine xAAAEEAA (F.cell y c e) fun z n l u oc hc hcd=>?_;exact ⟨x.zk _ z,nst hc n,l,u,oc,kp hc n,hcd⟩
theorem VR.tr'{s':Shared}{g':Gh}{v:V}{u:Value}(h:VR g s.heap v u)(R:Rel C g O s.heap)(x:Tr (fun w0=>False) g s g' s'):VR g' s'.heap v u:=VR.tr x R.st (fun w0 f=>f.elim) v h
theorem VRs.tr'{s':Shared}{g':Gh}{v:List V}{u:List Value}(h:VRs g s.heap v u)(R:Rel C g O s.heap)(x:Tr (fun w0=>False) g s g' s'):VRs g' s'.heap v u:=VRs.tr x R.st (fun w0 f=>f.elim) v h
set_option tactic.hygienic true in
theorem Unn{c:Const}{env:Env}{k:Nat}{pos:Pos}{v:V}(h:constV c O=some (v,O'))(R:Rel C g O s.heap) :
  Ev C A (eval (.Constant c k pos) env) g O' s fun g' h' u=>VR g' h' v u:=by
 cases c with
 | none=>cases h;exact Ev.same R fun Q E q=>wpAny_Constant_none (q _ s.toks (by rfl))
 | bool b=>cases h;exact Ev.same R fun Q E q=>wpAny_Constant_bool (q _ s.toks (by rfl))
 | int i=>cases h;exact Ev.same R fun Q E q=>wpAny_Constant_int (q _ _ (by simp [VR]))
 | str x =>
  dsimp only [constV] at h;split at h
  ·rename_i hx;cases h;exact Ev.same R fun Q E q=>Constant_str (q _ _ (by dsimp only [VR];exact ⟨_,rfl,hx.1,hx.2⟩))
  ·cases h
 | _=>cases h
theorem Ua6{α:Type}:∀ {l:List (Str×α)} {x:Str} {v:α},l.lookup x=some v->(x,v) ∈ l
 | (k,v)::r,n,c,h=>by
  rw [List.lookup_cons] at h;cases hb:n==k with
  | true=>rw [hb] at h;cases h;rw [beq_iff_eq.mp hb];exact List.mem_cons_self
  | false=>rw [hb] at h;exact List.mem_cons_of_mem _ (Ua6 h)
theorem lk_hit{α:Type}{x:Str}{v:α}{r:List (Str×α)}:lk x ((x,v)::r)=some v:=if_pos (beq_self_eq_true x)
theorem Uc0{α:Type}{x y:Str}{v:α}{r:List (Str×α)}(h:y≠x):lk x ((y,v)::r)=lk x r:=if_neg fun z=>h (beq_iff_eq.mp z)
theorem lk_mem{α:Type}{x:Str}{v:α}:∀ {l:List (Str×α)},lk x l=some v->(x,v) ∈ l
 | [],e=>by cases e
 | (y,w)::r,e=>by
  by_cases q:y=x
  ·subst q;rw [lk_hit] at e;cases e;exact List.mem_cons_self
  ·rw [Uc0 q] at e;exact List.mem_cons_of_mem _ (lk_mem e)
theorem Up2:∀ e ∈ biTab,((e.1="len"\/e.1="ord"\/e.1="chr")/\biVal e.2=.builtin e.1.toString)\/((e.1="range"\/e.1="list"\/e.1="tuple")/\biVal e.2=.type e.1.toString):=by decide +kernel
theorem Uj7{x:Str}{b:Bi}(h:biName x=some b):((x="len"\/x="ord"\/x="chr")/\biVal b=.builtin x.toString)\/((x="range"\/x="list"\/x="tuple")/\biVal b=.type x.toString):=Up2 (x,b) (lk_mem h)
set_option tactic.hygienic true in
theorem Up0{sc:Scope}{env:Env}{fr:Fr}{x:Str}{pos:Pos}{v:V}(Fa:Facts C)(F:FR g s.heap env fr)(R:Rel C g O s.heap)
  (hsc:∀ y,sc.names.lookup y=some .globalImplicit->env.kindOf y=some .globalImplicit) (h:nameV C.P sc fr x O=some (v,O')) :
  Ev C A (eval (.Name x pos) env) g O' s fun g' h' u=>VR g' h' v u:=by
 delta nameV lift at h;split at h
 case h_2=>cases h
 rename_i v' hv';cases h;delta nameO at hv';split at hv'
 ·rename_i v' hv;cases hv';refine Ev.same R fun Q E q=>?_;rcases F.var x v hv with k | ⟨k,c,u,hc,hu,hr⟩
  ·refine xEAA F.ns fun m hm hmv=>?_;refine xEAA (hmv x v hv k) fun u hu hr=>?_;exact wpAny_Name (wpAny_loadName_local F.kind k hm hu (q u s.toks hr)) (F.dbg (x,.local) (Ua6 k)).1
  ·rcases k with k | k
   ·exact wpAny_Name (wpAny_loadName_cell F.kind k hc hu (q u s.toks hr)) (F.dbg (x,_) (Ua6 k)).1
   ·exact wpAny_Name (wpAny_loadName_free F.kind k hc hu (q u s.toks hr) (F.dbg (x,_) (Ua6 k)).2) (F.dbg (x,_) (Ua6 k)).1
 ·split at hv'
  ·rename_i hk;have k:=hsc x hk;have hd:=(F.dbg (x,_) (Ua6 k)).1;refine xEEAAAAA Fa.ns fun mg mb ng nb hg hb ht=>?_;have ng':s.heap.Ns env.globals mg:=F.glob▸ng.keeps R.base;have nb':s.heap.Ns env.builtins mb:=F.blt▸nb.keeps R.base;split at hv'
   ·rename_i a ha;cases hv';exact Ev.same R fun Q E q=>Name_function_global F.kind k (loadGlobal_global ng' (hg x a ha) (q _ s.toks (by rfl))) hd
   ·rename_i hn;refine xEAA (Option.map_eq_some_iff.mp hv') fun b hb' qz1=>?_;subst qz1;rcases Uj7 hb' with ⟨hy,e⟩ | ⟨hy,e⟩
    ·refine xAA (hb x hy hn) fun h1 h2=>?_;exact Ev.same R fun Q E q=>Name_function_global F.kind k (loadGlobal_builtin ng' h1 nb' h2 (q _ s.toks (by dsimp only [VR];exact e.symm))) hd
    ·refine xAA (ht x hy hn) fun h1 h2=>?_;exact Ev.same R fun Q E q=>Name_function_global F.kind k (loadGlobal_builtin ng' h1 nb' h2 (q _ s.toks (by dsimp only [VR];exact e.symm))) hd
  ·cases hv'
end
theorem Uaa{α:Type}{r:α}(e:(Option.none:Option α)=some r):False:=by cases e
theorem Uab{α:Type}{a b:α}(e:some a=some b):a=b:=Option.some.inj e
theorem obE{α β:Type}{x:Option α}{f:α->Option β}{z:Option β}{r:β}{P:Prop}(e:ob x f z=some r)(h:∀ a,x=some a->f a=some r->P)(h2:x=none->z=some r->P):P:=by
 cases x with
 | none=>exact h2 rfl e
 | some a=>exact h a rfl e
theorem obS{α β:Type}{x:Option α}{f:α->Option β}{r:β}{P:Prop}(e:ob x f none=some r)(h:∀ a,x=some a->f a=some r->P):P:=obE e h fun w0 e=>(Uaa e).elim
theorem Ubd{v:V}{x:Str}(e:strO v=some x):v=.str x:=by cases v <;> first | exact (Uaa e).elim | exact congrArg V.str (Uab e)
theorem Ubw{v:V}{x:Int}(e:intO v=some x):v=.int x:=by cases v <;> first | exact (Uaa e).elim | exact congrArg V.int (Uab e)
theorem Ugr{v:V}{x:List V}(e:tupO v=some x):v=.tup x:=by cases v <;> first | exact (Uaa e).elim | exact congrArg V.tup (Uab e)
theorem Ueh{v:V}{x:List V}(e:lstO v=some x):v=.lst x:=by cases v <;> first | exact (Uaa e).elim | exact congrArg V.lst (Uab e)
theorem Uge{α β:Type}{f:α->Option β}{g:β->α}(H:∀ a b,f a=some b->a=g b):∀ (l:List α) {r:List β},allO f l=some r->l=r.map g
 | [],r,e=>by cases e;rfl
 | a::l,r,e=>obS e fun b q e=>obS e fun r' q' e=>by
  cases e;rw [H a b q,Uge H l q',List.map_cons]
theorem Ult{α β γ:Type}{f:α->Option β}{g:γ->α}{k:γ->β}(H:∀ b,f (g b)=some (k b)):∀ l:List γ,allO f (l.map g)=some (l.map k)
 | []=>rfl
 | b::l=>by
  show ob (f (g b)) (fun d=>ob (allO f (l.map g)) (fun ds=>some (d::ds)) none) none=_;rw [H b,Ult H l];rfl
section
variable {C:Cx}{A:Around}{g:Gh}{O O':Store}{s:Shared}{h:Heap}
noncomputable abbrev LV(g:Gh)(h:Heap)(u:Value)(vs:List V):Prop:=∃ x its n,u=.ref x/\h.get? x=some (lo its n)/\VRs g h vs its.toList/\vs.length<=lim
theorem Utk{r i:Nat}{u:Value}{vs:List V}(R:Rel C g O h)(q:O.get r i=some (.list vs))(v:VR g h (.ref r i) u):LV g h u vs:=by
 refine xEEAA v fun a d q1 p=>?_;refine xEEAA (R.obj r i _ q) fun a' d' p' o=>?_;have pd:(a,d)=(a',d'):=Uab (p.symm.trans p');refine xAEEAAA o fun q2 its n w1 w2 w3=>?_;cases pd;cases q2;exact ⟨_,its,n,q1,w1,w2,w3⟩
theorem Uce{v:V}{z:Nat×Nat×Ob}(e:objO O v=some z):v=.ref z.1 z.2.1/\O.get z.1 z.2.1=some z.2.2:=by
 cases v with
 | ref r i=>exact obS e fun o q e=>by cases e;exact ⟨rfl,q⟩
 | _=>exact (Uaa e).elim
theorem Ua2{v:V}{z:Nat×Nat×List V}(e:lref O v=some z):v=.ref z.1 z.2.1/\O.get z.1 z.2.1=some (.list z.2.2):=obS e fun o q e=>obS e fun vs q2 e=>by
 cases e;exact ⟨(Uce q).1,(Uce q).2.trans (congrArg some (by cases h:o.2.2 <;> rw [h] at q2 <;> first | exact (Uaa q2).elim | exact congrArg Ob.list (Uab q2)))⟩
theorem Ubu{v:V}{z:Nat×Nat×List (Str×V)}(e:dref O v=some z):v=.ref z.1 z.2.1/\O.get z.1 z.2.1=some (.dict z.2.2):=obS e fun o q e=>obS e fun vs q2 e=>by
 cases e;exact ⟨(Uce q).1,(Uce q).2.trans (congrArg some (by cases h:o.2.2 <;> rw [h] at q2 <;> first | exact (Uaa q2).elim | exact congrArg Ob.dict (Uab q2)))⟩
theorem Uak{a:V}{u:Value}{vs:List V}(e:asList O a=some vs)(R:Rel C g O h)(v:VR g h a u):LV g h u vs:=obE e
 (fun ws q e=>by cases e;cases Ueh q;exact xEEEAAAAA v fun a its n q b w0 c d=>⟨a,its,n,q,b,c,d⟩)
 fun w0 e=>obS e fun z q e=>by cases e;exact Utk R (Ua2 q).2 ((Ua2 q).1▸v)
noncomputable abbrev DOk(h:Heap)(n:Nat)(u:Value)(d:PyData):Prop:=∃ as,Reads h u d as/\d.canLay0=true/\d.depth<=n
theorem Uo0{v:V}{u:Value}{d:PyData}{n:Nat}(e:scal v=some d)(r:VR g h v u):DOk h n u d:=by
 cases v with
 | none=>cases e;cases (show u=.none from r);exact ⟨[],.none,rfl,Nat.zero_le _⟩
 | bool b=>cases e;cases (show u=.bool b from r);exact ⟨[],.bool b,rfl,Nat.zero_le _⟩
 | int i=>cases e;exact xEA r fun t q=>q▸⟨[],.int i t,rfl,Nat.zero_le _⟩
 | str x=>cases e;exact xEAAA r fun t q o w0=>q▸⟨[],.str x t,o,Nat.zero_le _⟩
 | _=>exact (Uaa e).elim
theorem Uj0{f:V->Option PyData}{n:Nat}(H:∀ v {u d},f v=some d->VR g h v u->DOk h n u d):∀ (vs:List V) {us:List Value} {ds:List PyData},allO f vs=some ds->VRs g h vs us->∃ as,ReadsAll h us ds as/\PyData.canLayAll0 ds=true/\PyData.depthAll ds<=n
 | [],us,ds,e,r=>by cases e;cases (show us=[] from r);exact ⟨[],.nil,rfl,Nat.zero_le _⟩
 | v::vs,us,ds,e,r=>obS e fun d q e=>obS e fun ds' q' e=>by
  cases e;refine xEEAAA r fun u t qz a b=>?_;cases qz;refine xEAAA (H v q a) fun as r1 r2 r3=>?_;refine xEAAA (Uj0 H vs q' b) fun bs s1 s2 s3=>?_;exact ⟨as++bs,.cons r1 s1,Bool.and_eq_true_iff.mpr ⟨r2,s2⟩,Nat.max_le.mpr ⟨r3,s3⟩⟩
theorem toD_ok(R:Rel C g O h):∀ (n:Nat) (v:V) {u:Value} {d:PyData},toD O n v=some d->VR g h v u->DOk h n u d
 | 0,v,u,d,e,r=>Uo0 e r
 | n+1,v,u,d,e,r=>obE e
  (fun vs q (e:ob (allO (toD O n) vs) (fun ds=>some (PyData.tuple ds)) none=some d)=>obS e fun ds q' e=>by
   cases e;cases Ugr q;refine xEEEAAAAA r fun a its k qz ho w0 hv w0=>?_;refine xEAAA (Uj0 (fun v u d=>toD_ok R n v) vs q' hv) fun as r1 r2 r3=>?_;exact ⟨as,qz▸.tuple ho rfl rfl r1,r2,Nat.succ_le_succ r3⟩)
  fun w0 e=>obE e
   (fun vs q (e:ob (allO (toD O n) vs) (fun ds=>some (PyData.list ds)) none=some d)=>obS e fun ds q' e=>by
    cases e;refine xEEEAAAA (Uak q R r) fun a its k qz ho hv w0=>?_;refine xEAAA (Uj0 (fun v u d=>toD_ok R n v) vs q' hv) fun as r1 r2 r3=>?_;exact ⟨a::as,qz▸.list ho rfl rfl r1,r2,Nat.succ_le_succ r3⟩)
   fun w0 e=>Uo0 e r
theorem Usr(R:Rel C g O h)(n:Nat)(vs:List V){us:List Value}{ds:List PyData}(e:toDs O n vs=some ds)(r:VRs g h vs us):∃ as,ReadsAll h us ds as/\PyData.canLayAll0 ds=true/\PyData.depthAll ds<=n :=
 Uj0 (fun v w0 w0=>toD_ok R n v) vs e r
end
section
variable {C:Cx}{A:Around}{g:Gh}{O O':Store}{s:Shared}{h:Heap}
theorem Ube(h:Heap):h.get? h.objs.size=none:=by
 cases e:h.get? h.objs.size with
 | none=>rfl
 | some o=>exact absurd (Heap.lt_size e) (Nat.lt_irrefl _)
theorem Rel.fresh(R:Rel C g O h):¬ g.Z h.objs.size:=fun z=>R.zh _ z (Ube h)
theorem Ev.up{α:Type}{t:Sem α}{T:Gh->Heap->α->Prop}(R:Rel C g O s.heap)
  (h:∀ (Q:α->Shared->Prop) (E:Value->Shared->Prop),(∀ a s',(∀ b o,s.heap.get? b=some o->s'.heap.get? b=some o)->s'.gens=s.gens->s'.os=s.os ->
   T g s'.heap a->Q a s')->wpAny (model C.prog C.w) A t Q E s):Ev C A t g O s T :=
 fun w0 Q E q=>h Q E fun a s' k hg ho t'=>q a s' g (Tr.grown k hg ho) (R.grown k hg ho) t'
theorem VRs.up{s':Shared}{vs:List V}{us:List Value}(R:Rel C g O s.heap)(k:∀ b o,s.heap.get? b=some o->s'.heap.get? b=some o)(hg:s'.gens=s.gens)(ho:s'.os=s.os)
  (v:VRs g s.heap vs us):VRs g s'.heap vs us:=VRs.tr' v R (Tr.grown k hg ho)
theorem VR.newList{vs:List V}{us:Array Value}(R:Rel C g O s.heap)(v:VRs g s.heap vs us.toList)(l:vs.length<=lim)(k:Nat) :
  VR g ({ s with heap:=s.heap.push (lo us k) }:Shared).heap (.lst vs) (.ref s.heap.objs.size):=by
 exact ⟨_,us,k,rfl,Heap.get?_push_size _ rfl,R.fresh,VRs.up (s:=s) (s':={ s with heap:=s.heap.push (lo us k) }) R (fun b o e=>Heap.get?_push_of_some _ e) rfl rfl v,l⟩
theorem VR.newTup{vs:List V}{us:Array Value}(R:Rel C g O s.heap)(v:VRs g s.heap vs us.toList)(l:vs.length<=lim)(k:Nat) :
  VR g ({ s with heap:=s.heap.push (tpo us k) }:Shared).heap (.tup vs) (.ref s.heap.objs.size):=by
 exact ⟨_,us,k,rfl,Heap.get?_push_size _ rfl,R.fresh,VRs.up (s:=s) (s':={ s with heap:=s.heap.push (tpo us k) }) R (fun b o e=>Heap.get?_push_of_some _ e) rfl rfl v,l⟩
theorem Ul7{x y:Str}(hx:sOk x=true)(hy:sOk y=true):sOk (x++y)=true:=by
 delta sOk at *;rw [Str.cps_append,Array.all_append,hx,hy];rfl
theorem VR.mkStr{x:Str}{t:Tok}(ho:sOk x=true)(hl:x.length<=lim):VR g h (.str x) (.str x t):=⟨t,rfl,ho,hl⟩
theorem VR.mkInt{i:Int}{t:Tok}:VR g h (.int i) (.int i t):=⟨t,rfl⟩
theorem VR.mkBool{b:Bool}:VR g h (.bool b) (.bool b):=rfl
theorem VR.oInt{v:V}{i:Int}{t:Tok}(e:some (V.int i)=some v):VR g h v (.int i t):=Uab e▸VR.mkInt
theorem ob2E{α β γ:Type}{f:α->Option β}{a b:α}{k:β->β->Option γ}{z:Option γ}{r:γ}{P:Prop}(e:ob2 f a b k z=some r)(h:∀ x y,f a=some x->f b=some y->k x y=some r->P)(h2:z=some r->P):P:=by
 cases q:f a with
 | none=>simp only [ob2,q] at e;exact h2 e
 | some x =>
  cases q2:f b with
  | none=>simp only [ob2,q,q2] at e;exact h2 e
  | some y=>simp only [ob2,q,q2] at e;exact h x y q q2 e
theorem ob2S{α β γ:Type}{f:α->Option β}{a b:α}{k:β->β->Option γ}{r:γ}{P:Prop}(e:ob2 f a b k none=some r)(h:∀ x y,f a=some x->f b=some y->k x y=some r->P):P:=ob2E e h fun e=>(Uaa e).elim
theorem iteS{γ:Type}{c:Prop}[Decidable c]{x:Option γ}{r:γ}{P:Prop}(e:(if c then x else none)=some r)(h:c->x=some r->P):P:=by
 by_cases q:c
 ·rw [if_pos q] at e;exact h q e
 ·rw [if_neg q] at e;exact (Uaa e).elim
theorem int1{a:V}{x:Int}{u:Value}{T:Value->Prop}(q:intO a=some x)(v:VR g h a u)(k:∀ t,T (.int x t)):T u:=by
 cases Ubw q;exact xEA v fun t e=>e▸k t
theorem str1{a:V}{x:Str}{u:Value}{T:Value->Prop}(q:strO a=some x)(v:VR g h a u)(k:∀ t,sOk x=true->x.length<=lim->T (.str x t)):T u:=by
 cases Ubd q;exact xEAAA v fun t e o l=>e▸k t o l
theorem int2{a b:V}{x y:Int}{u w:Value}{T:Value->Value->Prop}(q1:intO a=some x)(q2:intO b=some y)(v1:VR g h a u)(v2:VR g h b w)(k:∀ t t',T (.int x t) (.int y t')):T u w :=
 int1 (T:=fun u=>T u w) q1 v1 fun t=>int1 (T:=fun w=>T (.int x t) w) q2 v2 fun t'=>k t t'
theorem str2{a b:V}{x y:Str}{u w:Value}{T:Value->Value->Prop}(q1:strO a=some x)(q2:strO b=some y)(v1:VR g h a u)(v2:VR g h b w)(k:∀ t t',sOk x=true->x.length<=lim->sOk y=true->y.length<=lim->T (.str x t) (.str y t')):T u w :=
 str1 (T:=fun u=>T u w) q1 v1 fun t o l=>str1 (T:=fun w=>T (.str x t) w) q2 v2 fun t' o' l'=>k t t' o l o' l'
noncomputable abbrev EvV(C:Cx)(A:Around)(t:Sem Value)(g:Gh)(O:Store)(s:Shared)(v:V):Prop:=Ev C A t g O s fun g' h' u=>VR g' h' v u
section
variable {a b v:V}{ua ub:Value}
theorem add_ok(R:Rel C g O s.heap)(ha:VR g s.heap a ua)(hb:VR g s.heap b ub)(e:binV .Add a b O=some v):EvV C A (binaryOp .Add ua ub) g O s v :=
 ob2E e (fun x y q1 q2 e=>int2 (T:=fun u w=>EvV C A (binaryOp .Add u w) g O s v) q1 q2 ha hb fun t t'=>Ev.same R fun Q E q=>PyProof.Rows.add_int (q _ _ (VR.oInt e)))
  fun e=>ob2E e (fun x y q1 q2 e=>iteS e fun hl e=>str2 (T:=fun u w=>EvV C A (binaryOp .Add u w) g O s v) q1 q2 ha hb fun t t' o1 l1 o2 l2 =>
    Ev.same R fun Q E q=>PyProof.Rows.add_str (fun t' k=>q _ _ (Uab e▸VR.mkStr (Ul7 o1 o2) (by rw [Str.length_append];exact hl))) (Uai hl))
   fun e=>ob2S e fun x y q1 q2 e=>iteS e fun hl e =>
    xEEEAAAA (Uak q1 R ha) fun a1 its n w1 g1 v1 l1=>xEEEAAAA (Uak q2 R hb) fun a2 its2 n2 w2 g2 v2 l2=>by
     subst w1 w2;have h1:its.size=x.length:=VRs.len v1;have h2:its2.size=y.length:=VRs.len v2;refine Ev.up R fun Q E q=>P.add_list g1 g2 (q _ _ (fun b o e=>Heap.get?_push_of_some _ e) rfl rfl (Uab e▸VR.newList (k:=0) R (by rw [Array.toList_append];exact VRs.app v1 v2) (by rw [List.length_append];exact hl))) (Uai (by rw [h1,h2];exact hl))
theorem Usl{op:Operator}(R:Rel C g O s.heap)(ha:VR g s.heap a ua)(hb:VR g s.heap b ub)(e:binV op a b O=some v):EvV C A (binaryOp op ua ub) g O s v:=by
 have ii:∀ (x y:Int) (q1:intO a=some x) (q2:intO b=some y),(∀ t t',EvV C A (binaryOp op (.int x t) (.int y t')) g O s v)->EvV C A (binaryOp op ua ub) g O s v :=
  fun x y q1 q2 k=>int2 (T:=fun u w=>EvV C A (binaryOp op u w) g O s v) q1 q2 ha hb k
 cases op with
 | Add=>exact add_ok R ha hb e
 | Sub=>exact ob2S e fun x y q1 q2 e=>ii x y q1 q2 fun t t'=>Ev.same R fun Q E q=>PyProof.Rows.sub_int (q _ _ (VR.oInt e))
 | Mult=>exact ob2S e fun x y q1 q2 e=>iteS e fun hl e=>ii x y q1 q2 fun t t'=>Ev.same R fun Q E q=>PyProof.Rows.mul_int (q _ _ (VR.oInt e)) (IntMulOk.of_left (intBits_le_64 (by omega) (by omega)))
 | Mod=>exact ob2S e fun x y q1 q2 e=>iteS e fun hl e=>ii x y q1 q2 fun t t'=>Ev.same R fun Q E q=>mod_int' (Int.ne_of_gt hl) (q _ _ (VR.oInt e))
 | FloorDiv=>exact ob2S e fun x y q1 q2 e=>iteS e fun hl e=>ii x y q1 q2 fun t t'=>Ev.same R fun Q E q=>floordiv_int (Int.ne_of_gt hl.1) (q _ _ (VR.oInt e)) (.inl (PyProof.noPylong_small (by omega)))
 | _=>exact (Uaa e).elim
theorem Ucq{v:V}{u:Value}{d:PyData}(R:Rel C g O h)(e:toD O 8 v=some d)(r:VR g h v u):∃ as,Reads h u d as/\SeqAt.shaped d=true :=
 xEAAA (toD_ok R 8 v e r) fun as a b c=>⟨as,a,Bool.and_eq_true_iff.mpr ⟨b,decide_eq_true (Nat.le_trans c (by decide))⟩⟩
theorem Room.u65{d:Nat}(r:Room A d):A.units+65 < cLine:=by have:=r.units;delta cLine;exact om324 this
noncomputable abbrev EvB(C:Cx)(A:Around)(t:Sem Value)(g:Gh)(O:Store)(s:Shared)(c:Bool):Prop:=Ev C A t g O s fun w0 w0 u=>u=.bool c
noncomputable abbrev Two(C:Cx)(A:Around)(x y:CmpOp)(ua ub:Value)(g:Gh)(O:Store)(s:Shared)(c:Bool):Prop:=EvB C A (compareOp x ua ub) g O s c/\EvB C A (compareOp y ua ub) g O s (!c)
theorem eqV_ok{d:Nat}{c:Bool}(Ro:Room A d)(R:Rel C g O s.heap)(ha:VR g s.heap a ua)(hb:VR g s.heap b ub)(e:eqV O a b=some c):Two C A .Eq .NotEq ua ub g O s c:=by
 have gen:∀ {da db:PyData},toD O 8 a=some da->toD O 8 b=some db->PyData.eqv da db=c->Two C A .Eq .NotEq ua ub g O s c:=fun ea eb ec =>
  xEAA (Ucq R ea ha) fun as ra sa=>xEAA (Ucq R eb hb) fun bs rb sb =>
   have hu:=Nat.lt_of_le_of_lt (Nat.le_succ _) Ro.u65
   ⟨Ev.same R fun Q E q=>PyProof.Rows.eq_dataH ra rb sa sb hu (q _ s.toks (congrArg Value.bool ec)),Ev.same R fun Q E q=>PyProof.Rows.ne_dataH ra rb sa sb hu (q _ s.toks (congrArg (fun b=>Value.bool (!b)) ec))⟩
 have G:eqG O a b=some c->Two C A .Eq .NotEq ua ub g O s c:=fun e=>obS e fun da ea e=>obS e fun db eb e=>gen ea eb (Uab e);refine obE e (fun x q1 e=>obE e (fun y q2 e=>?_) fun w0 e=>G e) fun w0 e=>obE e (fun x q1 e=>obE e (fun y q2 e=>?_) fun w0 e=>G e) fun w0 e=>G e
 ·cases e;cases Ubd q1;cases Ubd q2;exact gen (da:=.str x) (db:=.str y) rfl rfl rfl
 ·cases e;cases Ubw q1;cases Ubw q2;exact gen (da:=.int x) (db:=.int y) rfl rfl rfl
end
theorem Uik{vs:List V}{l:List Str}(e:strsOf vs=some l):vs=l.map .str:=Uge (fun w0 w0=>Ubd) vs e
theorem Uqy{vs:List V}{l:List Int}(e:intsOf vs=some l):vs=l.map .int:=Uge (fun w0 w0=>Ubw) vs e
theorem Uqm(n:Nat)(l:List Str):toDs O (n+1) (l.map .str)=some (l.map .str):=Ult (f:=toD O (n+1)) (g:=V.str) (k:=PyData.str) (fun w0=>rfl) l
end
theorem Uix(x k:Str)(u:Value)(r:List (Str×Value)):valueAt ((k,u)::r) x=if k=x then some u else valueAt r x:=by
 delta valueAt
 by_cases e:k=x
 ·simp [e]
 ·simp [e]
theorem PR.look{g:Gh}{h:Heap}(x:Str):∀ {es:List (Str×V)} {l:List (Str×Value)},PR g h es l ->
  (∀ v,lk x es=some v->∃ u,valueAt l x=some u/\VR g h v u)/\(lk x es=none->valueAt l x=none)
 | [],_,e=>by cases e;exact ⟨fun w0 q=>(Uaa q).elim,fun w0=>rfl⟩
 | (k,v)::es,_,e=>by
  refine xEEAAA e fun u r q a b=>?_;have ih:=PR.look x b;rw [q,Uix];show (∀ w,(if (k==x)=true then some v else lk x es)=some w->_)/\((if (k==x)=true then some v else lk x es)=none->_)
  by_cases q:k=x
  ·rw [if_pos q,if_pos (beq_iff_eq.mpr q)];exact ⟨fun w e=>⟨u,rfl,Uab e▸a⟩,fun e=>(Uaa e.symm).elim⟩
  ·rw [if_neg q,if_neg fun z=>q (beq_iff_eq.mp z)];exact ih
theorem PR.len{g:Gh}{h:Heap}:∀ {es:List (Str×V)} {l:List (Str×Value)},PR g h es l->l.length=es.length
 | [],_,e=>by cases e;rfl
 | (k,v)::es,_,e=>xEEAAA e fun u r q a b=>q▸congrArg (·+1) (PR.len b)
section
variable {C:Cx}{A:Around}{g:Gh}{O O':Store}{s:Shared}{h:Heap}
theorem Rel.at_(R:Rel C g O h){r i:Nat}{o:Ob}{u:Value}(e:O.get r i=some o)(v:VR g h (.ref r i) u):∃ a d,u=.ref a/\g.ρ r i=some (a,d)/\OR C g h o a d :=
 xEEAA v fun a d q p=>xEEAA (R.obj r i _ e) fun a' d' p' w=>by
  cases Uab (p.symm.trans p');exact ⟨a,d,q,p,w⟩
theorem Rel.dict(R:Rel C g O h){r i:Nat}{es:List (Str×V)}{u:Value}(e:O.get r i=some (.dict es))(v:VR g h (.ref r i) u) :
  ∃ d l,u=.ref d/\g.ρ r i=some (d,d)/\h.DictOf (strKind C.prog C.w) d l/\PR g h es l/\es.length<=lim :=
 xEEAAA (R.at_ e v) fun a d q p w=>xAEAAA w fun z l q1 q2 q3=>by cases z;exact ⟨a,l,q,p,q1,q2,q3⟩
theorem Rel.list(R:Rel C g O h){r i:Nat}{vs:List V}{u:Value}(e:O.get r i=some (.list vs))(v:VR g h (.ref r i) u) :
  ∃ d its n,u=.ref d/\g.ρ r i=some (d,d)/\h.get? d=some (lo its n)/\VRs g h vs its.toList/\vs.length<=lim :=
 xEEAAA (R.at_ e v) fun a d q p w=>xAEEAAA w fun z its n q1 q2 q3=>by cases z;exact ⟨a,its,n,q,p,q1,q2,q3⟩
theorem Umy(R:Rel C g O h){v:V}{es:List (Str×V)}{u:Value}(e:dictO O v=some es)(hv:VR g h v u) :
  ∃ r i d l,v=.ref r i/\O.get r i=some (.dict es)/\u=.ref d/\g.ρ r i=some (d,d)/\h.DictOf (strKind C.prog C.w) d l/\PR g h es l/\es.length<=lim:=obS e fun z q e=>by
 have w:=Ubu q;cases e;exact xEEAAAAA (R.dict w.2 (w.1▸hv)) fun d l q1 q2 q3 q4 q5=>⟨_,_,d,l,w.1,w.2,q1,q2,q3,q4,q5⟩
theorem Uid{a:V}{u:Value}{vs:List V}(e:asSeq O a=some vs)(R:Rel C g O h)(v:VR g h a u):∃ x its n T,u=.ref x/\(T="list"\/T="tuple")/\h.get? x=some { cls:=.type T,data:=.seq its n }/\VRs g h vs its.toList/\vs.length<=lim :=
 obE e (fun ws q e=>by cases e;cases Ugr q;exact xEEEAAAAA v fun a its n q ho w0 hv l=>⟨a,its,n,"tuple",q,.inr rfl,ho,hv,l⟩)
  fun w0 e=>xEEEAAAA (Uak e R v) fun a its n q ho hv l=>⟨a,its,n,"list",q,.inl rfl,ho,hv,l⟩
theorem Rel.notSys(F:Facts C)(R:Rel C g O h){r i:Nat}{a d:Addr}(p:g.ρ r i=some (a,d)):(d==sysModules)=false:=by
 exact beq_eq_false_iff_ne.mpr (Nat.ne_of_gt (R.zb d (R.st d ⟨r,i,a,p⟩)).2)
theorem in_seq{d:Nat}{x:V}{ux uc:Value}{dx:PyData}{ds:List PyData}{c:Bool}(Ro:Room A d)(R:Rel C g O s.heap)(hx:VR g s.heap x ux)(ex:toD O 8 x=some dx)
  {vs:List V} {cc:V} (hc':VR g s.heap cc uc) (ev:asSeq O cc=some vs)
  (eds:toDs O 8 vs=some ds) (hmix:∀ y ∈ ds,SeqAt.noMix y dx=true) (hc:ds.any (fun y=>PyData.eqv y dx)=c):Two C A .In .NotIn ux uc g O s c:=by
 refine xEAA (Ucq R ex hx) fun as rx sx=>?_;refine xEEEEAAAAA (Uid ev R hc') fun a its n T e hT ho hv w0=>?_;refine xEAAA (Usr R 8 vs eds hv) fun bs rc c1 c2=>?_;have hcc:decide (Spec.countIn dx ds≠0)=c:=hc▸(any_eqv_countIn dx ds hmix).symm;have h1:=congrArg Value.bool hcc;have h2:=congrArg (fun b=>Value.bool (!b)) hcc;have sc:(PyData.canLayAll0 ds&&decide (PyData.depthAll ds+1<=64))=true:=Bool.and_eq_true_iff.mpr ⟨c1,decide_eq_true (Nat.le_trans (Nat.succ_le_succ c2) (by decide))⟩;cases e;rcases hT with q | q
 ·cases q;exact ⟨Ev.same R fun Q E q=>in_list_dataH (.list ho rfl rfl rc) rx sc sx Ro.u65 hmix (q _ s.toks h1),Ev.same R fun Q E q=>notIn_list_dataH (.list ho rfl rfl rc) rx sc sx Ro.u65 hmix (q _ s.toks h2)⟩
 ·cases q;exact ⟨Ev.same R fun Q E q=>in_tuple_dataH (.tuple ho rfl rfl rc) rx sc sx Ro.u65 hmix (q _ s.toks h1),Ev.same R fun Q E q=>notIn_tuple_dataH (.tuple ho rfl rfl rc) rx sc sx Ro.u65 hmix (q _ s.toks h2)⟩
theorem Uga:∀ (x y:List Str),PyData.eqvAll (y.map PyData.str) (x.map PyData.str)=(y==x)
 | [],[]=>rfl
 | [],_::_=>rfl
 | _::_,[]=>rfl
 | a::x,b::y=>congrArg (fun z=>(b==a)&&z) (Uga x y)
theorem Ud1:∀ (x y:List Str),SeqAt.noMixAll (y.map PyData.str) (x.map PyData.str)=true
 | [],[]=>rfl
 | [],_::_=>rfl
 | _::_,[]=>rfl
 | _::x,_::y=>Ud1 x y
theorem Uky{β:Type}{f:V->Option β}(g:β->V)(k:β->PyData)(eqb:β->Bool){da:PyData}{vs:List V}{l:List β}(e:allO f vs=some l)(H0:∀ v b,f v=some b->v=g b)(H1:∀ b,toD O 8 (g b)=some (k b))
  (H2:∀ b,SeqAt.noMix (k b) da=true) (H3:∀ b,PyData.eqv (k b) da=eqb b):∃ ds,toDs O 8 vs=some ds/\(∀ y ∈ ds,SeqAt.noMix y da=true)/\ds.any (fun y=>PyData.eqv y da)=l.any eqb:=by
 rw [Uge H0 vs e];refine ⟨l.map k,Ult H1 l,fun y hy=>?_,?_⟩
 ·exact xEAA (List.mem_map.mp hy) fun b w0 q=>q▸H2 b
 ·rw [List.any_map];exact congrArg l.any (funext H3)
theorem Uof{a:V}{vs:List V}{r:Bool}(e:memV a vs=some r):∃ da,toD O 8 a=some da/\∃ ds,toDs O 8 vs=some ds/\(∀ y ∈ ds,SeqAt.noMix y da=true)/\ds.any (fun y=>PyData.eqv y da)=r :=
 obE e (fun x q e=>obS e fun l q2 e=>by cases e;cases Ubd q;exact ⟨.str x,rfl,Uky V.str PyData.str (·==x) q2 (fun w0 w0=>Ubd) (fun w0=>rfl) (fun w0=>rfl) fun w0=>rfl⟩)
  fun w0 e=>obE e (fun x q e=>obS e fun l q2 e=>by cases e;cases Ubw q;exact ⟨.int x,rfl,Uky V.int PyData.int (·==x) q2 (fun w0 w0=>Ubw) (fun w0=>rfl) (fun w0=>rfl) fun w0=>rfl⟩)
  fun w0 e=>obS e fun us q e=>obS e fun x q1 e=>obS e fun l q2 e=>by
   cases e;cases Ueh q;cases Uik q1;have td:∀ b:List Str,toD O 8 (.lst (b.map .str))=some (.list (b.map .str)):=fun b=>congrArg (fun o=>ob o (fun ds=>some (PyData.list ds)) none) (Uqm 6 b);exact ⟨.list (x.map .str),td x,Uky (fun b=>.lst (b.map .str)) (fun b=>.list (b.map .str)) (·==x) q2 (fun v b z=>obS z fun us w1 w2=>by cases Ueh w1;rw [Uik w2]) td (fun y=>show SeqAt.noMix (.list (y.map .str)) (.list (x.map .str))=true from Ud1 x y) fun y=>show PyData.eqv (.list (y.map .str)) (.list (x.map .str))=_ from Uga x y⟩
theorem inV_ok{d:Nat}{a c:V}{ua uc:Value}{r:Bool}(Fa:Facts C)(Ro:Room A d)(R:Rel C g O s.heap)(ha:VR g s.heap a ua)(hc:VR g s.heap c uc)(e:inV O a c=some r):Two C A .In .NotIn ua uc g O s r:=by
 have sq:∀ {vs},asSeq O c=some vs->memV a vs=some r->Two C A .In .NotIn ua uc g O s r:=fun q e=>xEAEAAA (Uof (O:=O) e) fun da q1 ds q2 q3 q4=>in_seq Ro R ha q1 hc q q2 q3 q4;refine obE e (fun x q1 e=>obE e (fun y q2 e=>?_) fun w0 e=>obE e (fun es q2 e=>?_) fun w0 e=>obS e fun vs q e=>sq q e) fun w0 e=>obS e fun vs q e=>sq q e
 ·exact str2 (T:=fun u w=>Two C A .In .NotIn u w g O s r) q1 q2 ha hc fun t t' w0 w0 w0 w0=>⟨Ev.same R fun Q E q=>PyProof.Rows.in_str (q _ s.toks (congrArg Value.bool (Uab e))),Ev.same R fun Q E q=>PyProof.Rows.notIn_str (q _ s.toks (congrArg (fun b=>Value.bool (!b)) (Uab e)))⟩
 ·refine str1 (T:=fun u=>Two C A .In .NotIn u uc g O s r) q1 ha fun t w0 w0=>?_;refine xEEEEAAAAAAA (Umy R q2 hc) fun r' i dd l w0 w0 e2 p dO pr w0=>?_;have hb:(valueAt l x).isSome=r:=by
   rw [<- Uab e];cases q':lk x es with
   | none=>rw [(PR.look x pr).2 q'];rfl
   | some v=>exact xEAA ((PR.look x pr).1 v q') fun u hu w0=>by rw [hu];rfl
  have hs:=R.notSys Fa p;cases e2;exact ⟨Ev.same R fun Q E q=>wpAny_in_of (strKind_is _ _ x t) hs dO.mapOf (q _ _ (congrArg Value.bool hb)),Ev.same R fun Q E q=>wpAny_notIn_of (strKind_is _ _ x t) hs dO.mapOf (q _ _ (congrArg (fun b=>Value.bool (!b)) hb))⟩
theorem isV_ok{a b:V}{ua ub:Value}{r:Bool}(R:Rel C g O s.heap)(ha:VR g s.heap a ua)(hb:VR g s.heap b ub)(e:isV a b=some r):Two C A .Is .IsNot ua ub g O s r:=obS e fun x q e=>by
 have hn:ub=.none:=by cases b <;> first | exact (Uaa q).elim | exact hb
 have key:(ua==.none)=r:=by
  cases a with
  | none=>cases e;cases (show ua=.none from ha);rfl
  | ref r' i=>cases e;exact xEEAA ha fun w0 w0 q w0=>q▸rfl
  | _=>exact (Uaa e).elim
 cases hn;exact ⟨Ev.same R fun Q E q=>PySem.is_none (q _ s.toks (congrArg Value.bool key)),Ev.same R fun Q E q=>PySem.isNot_none (q _ s.toks (congrArg (fun b=>Value.bool (!b)) key))⟩
theorem Uf7{d:Nat}{op:CmpOp}{a b:V}{ua ub:Value}{r:Bool}(Fa:Facts C)(Ro:Room A d)(R:Rel C g O s.heap)(ha:VR g s.heap a ua)(hb:VR g s.heap b ub)(e:cmpV op a b O=some r) :
  EvB C A (compareOp op ua ub) g O s r:=by
 have ii:∀ (x y:Int) (q1:intO a=some x) (q2:intO b=some y),(∀ t t',EvB C A (compareOp op (.int x t) (.int y t')) g O s r)->EvB C A (compareOp op ua ub) g O s r :=
  fun x y q1 q2 k=>int2 (T:=fun u w=>EvB C A (compareOp op u w) g O s r) q1 q2 ha hb k
 have no:∀ {x y:CmpOp} {o:Option Bool},(∀ c,o=some c->Two C A x y ua ub g O s c)->o.map (!·)=some r->EvB C A (compareOp y ua ub) g O s r:=fun k e =>
  xEAA (Option.map_eq_some_iff.mp e) fun c q w=>w▸(k c q).2
 have bv:∀ {c:Bool},some c=some r->Value.bool c=Value.bool r:=fun e=>congrArg Value.bool (Uab e);cases op with
 | Eq=>exact (eqV_ok Ro R ha hb e).1
 | NotEq=>exact no (fun c q=>eqV_ok Ro R ha hb q) e
 | Lt=>exact ob2S e fun x y q1 q2 e=>ii x y q1 q2 fun t t'=>Ev.same R fun Q E q=>PyProof.Rows.lt_int (q _ s.toks (bv e))
 | LtE=>exact ob2E e (fun x y q1 q2 e=>ii x y q1 q2 fun t t'=>Ev.same R fun Q E q=>PyProof.Rows.le_int (q _ s.toks (bv e))) fun e=>ob2S e fun x y q1 q2 e=>str2 (T:=fun u w=>EvB C A (compareOp .LtE u w) g O s r) q1 q2 ha hb fun t t' w0 w0 w0 w0=>Ev.same R fun Q E q=>P.le_str (q _ s.toks (bv e))
 | Gt=>exact ob2S e fun x y q1 q2 e=>ii x y q1 q2 fun t t'=>Ev.same R fun Q E q=>PyProof.Rows.gt_int (q _ s.toks (bv e))
 | GtE=>exact ob2S e fun x y q1 q2 e=>ii x y q1 q2 fun t t'=>Ev.same R fun Q E q=>PyProof.Rows.ge_int (q _ s.toks (bv e))
 | Is=>exact (isV_ok R ha hb e).1
 | IsNot=>exact no (fun c q=>isV_ok R ha hb q) e
 | In=>exact (inV_ok Fa Ro R ha hb e).1
 | NotIn=>exact no (fun c q=>inV_ok Fa Ro R ha hb q) e
theorem isT_ok{v:V}{u:Value}{b:Bool}(R:Rel C g O s.heap)(hv:VR g s.heap v u)(e:isT v=some b):Ev C A (truthy u) g O s fun w0 w0 c=>c=b:=by
 cases v with
 | bool c=>cases (show u=.bool c from hv);exact Ev.same R fun Q E q=>wpAny_truthy_bool (q _ s.toks (Uab e))
 | none=>cases (show u=.none from hv);exact Ev.same R fun Q E q=>PyProof.Rows.truthy_none (q _ s.toks (Uab e))
 | _=>exact (Uaa e).elim
end
theorem Ubr{i:Int}{n j:Nat}(e:idx i n=some j):j < n/\(0<=i/\j=i.toNat\/i < 0/\0<=i+n/\j=(i+n).toNat):=by
 delta idx at e
 by_cases h:0<=i
 ·rw [if_pos h] at e;exact iteS e fun q e=>⟨Uab e▸q,.inl ⟨h,(Uab e).symm⟩⟩
 ·rw [if_neg h] at e;exact iteS e fun q e=>⟨by cases e;exact om329 h q,.inr ⟨Int.not_le.mp h,q,(Uab e).symm⟩⟩
theorem seq_at{i k:Int}{n:Nat}(e:(if i < 0 then i+n else i)=k)(h0:0<=k)(h1:k.toNat < n):seqIndex? i n=some k.toNat:=by
 delta seqIndex?;rw [e];exact if_pos (Bool.and_eq_true_iff.mpr ⟨decide_eq_true h0,decide_eq_true ((Int.toNat_lt h0).mp h1)⟩)
theorem Uph{i:Int}{n j:Nat}(e:idx i n=some j):seqIndex? i n=some j:=by
 rcases (Ubr e).2 with q | q
 ·rw [q.2];exact seq_at (if_neg (Int.not_lt.mpr q.1)) q.1 (q.2▸(Ubr e).1)
 ·rw [q.2.2];exact seq_at (if_pos q.1) q.2.1 (q.2.2▸(Ubr e).1)
theorem Uif{i:Int}{n j:Nat}(e:idx i n=some j)(h:n<=lim):-(2 ^ 63)<=i/\i < 2 ^ 63:=by
 have hn:(n:Int)<=1000000:=Int.ofNat_le.mpr h;rcases Ubr e with ⟨hj,q | q⟩
 ·exact ⟨Int.le_trans (by decide) q.1,Int.lt_of_lt_of_le ((Int.toNat_lt q.1).mp (q.2▸hj)) (Int.le_trans hn (by decide))⟩
 ·exact ⟨Int.le_trans (Int.le_trans (by decide) (Int.neg_le_neg hn)) (om54 q),Int.lt_trans q.1 (by decide)⟩
theorem Udl(slice:Expr)(o i:Value):∃ ops,subscripted slice false o i=operate ops (getItem o i):=by
 cases slice with
 | Slice lo hi st p=>cases st <;> exact ⟨_,rfl⟩
 | _=>exact ⟨_,rfl⟩
theorem Ulm{x:Str}(h:sOk x=true){i c:Nat}(e:x.cps[i]?=some c):sOk ⟨#[c]⟩=true:=by
 delta sOk at *;rw [Array.all_eq_true_iff_forall_mem] at h;have:=h c (Array.mem_of_getElem? e)
 simpa using this
theorem Ujv:1<=lim:=by delta lim;decide
section
variable {C:Cx}{A:Around}{g:Gh}{O O':Store}{s:Shared}{h:Heap}
theorem VR.isList{h:Heap}{x:Addr}{its:Array Value}{n:Nat}(e:h.get? x=some (lo its n)):h.IsList x its:=⟨_,e,rfl,n,rfl⟩
theorem VR.isTup{h:Heap}{x:Addr}{its:Array Value}{n:Nat}(e:h.get? x=some (tpo its n)):IsTup h x its:=⟨_,e,rfl,n,rfl⟩
theorem Uqu{k:Int}{t:Tok}{x:Addr}{its:Array Value}{n:Nat}{T:String}{vs:List V}{value slice:Expr}{j:Nat}{v:V}(R:Rel C g O s.heap)(hT:T="list"\/T="tuple")(ho:s.heap.get? x=some { cls:=.type T,data:=.seq its n })
  (hv':VRs g s.heap vs its.toList) (hl:vs.length<=lim) (hj:idx k vs.length=some j) (hv:vs[j]?=some v):EvV C A (subscriptTail value slice (.ref x) (.int k t)) g O s v:=by
 refine xEA (Udl slice (.ref x) (.int k t)) fun ops hs=>?_;refine xEAA (hv'.get hv) fun u hu hr=>?_;have hlen:its.size=vs.length:=hv'.len;have hf:=Uif hj hl;rw [Array.getElem?_toList] at hu;rcases hT with q | q
 ·cases q;refine Ev.same R fun Q E q=>tail_any (VR.isList ho).typeIs slot_list_getitem.lookup ?_ hs;rcases (Ubr hj).2 with w | w
  ·exact wpAny_getItem_list (VR.isList ho) w.1 hf.2 (w.2▸hu) (q _ s.toks hr)
  ·rw [<- hlen] at w;exact wpAny_getItem_list_neg (VR.isList ho) w.1 (om54 w) hf.1 (w.2.2▸hu) (q _ s.toks hr)
 ·cases q;exact Ev.same R fun Q E q=>tail_any (VR.isTup ho).typeIs slot_tuple_getitem.lookup (getItem_tuple (VR.isTup ho) hf.1 hf.2 (hlen▸Uph hj) hu (q _ s.toks hr)) hs
theorem Urp{value slice:Expr}{o i v:V}{uo ui:Value}(R:Rel C g O s.heap)(ho:VR g s.heap o uo)(hi:VR g s.heap i ui)(e:itemV o i O=some v):EvV C A (subscriptTail value slice uo ui) g O s v:=by
 refine obE e (fun x q1 e=>obS e fun k q2 e=>obS e fun j hj e=>?_) fun w0 e=>obE e (fun es q1 e=>obS e fun x q2 e=>?_) fun w0 e=>obS e fun k q2 e=>obS e fun vs ha e=>obS e fun j hj e=>?_
 ·refine str1 (T:=fun u=>EvV C A (subscriptTail value slice u ui) g O s v) q1 ho fun t o1 l1=>int1 (T:=fun u=>EvV C A (subscriptTail value slice (.str x t) u) g O s v) q2 hi fun t'=>?_;refine xEA (Udl slice (.str x t) (.int k t')) fun ops hs=>?_;have hc:x.cps[j]?=some (x.cps.getD j 0):=by
   have:j < x.cps.size:=(Ubr hj).1;simp [Array.getD,this]
  have hf:=Uif hj l1;exact Ev.same R fun Q E q=>tail_any (typeIs_str s x t) F.slot_str_getitem.lookup (getItem_str (c:=x.cps.getD j 0) (Bool.or_eq_false_iff.mpr ⟨decide_eq_false (Int.not_lt.mpr hf.1),decide_eq_false (Int.not_le.mpr hf.2)⟩)
   ((congrArg (Option.bind · (x.cps[·]?)) (Uph hj)).trans hc) (q _ _ (Uab e▸VR.mkStr (Ulm o1 hc) Ujv))) hs
 ·refine xEEEEAAAAAAA (Umy R q1 ho) fun r j dd l w0 w0 e2 p dO pr w0=>?_;refine str1 (T:=fun u=>EvV C A (subscriptTail value slice uo u) g O s v) q2 hi fun t w0 w0=>?_;cases e2;refine xEA (Udl slice (.ref dd) (.str x t)) fun ops hs=>?_;exact xEAA ((PR.look x pr).1 v e) fun u hu hr=>Ev.same R fun Q E q=>tail_any dO.typeIs slot_dict_getitem.lookup (wpAny_getItem_of (strKind_is _ _ x t) dO.mapOf hu (q _ _ hr)) hs
 ·refine xEEEEAAAAA (Uid ha R ho) fun x its n T e2 hT hg hv hl=>?_;cases e2;exact int1 (T:=fun u=>EvV C A (subscriptTail value slice (.ref x) u) g O s v) q2 hi fun t=>Uqu R hT hg hv hl hj e
theorem VRs.pick{vs:List V}{us:List Value}(h':VRs g h vs us):∀ (js:List Nat),VRs g h (js.filterMap (vs[·]?)) (js.filterMap (us[·]?))
 | []=>by rfl
 | j::js=>by
  have ih:=VRs.pick h' js;cases hn:vs[j]? with
  | some n =>
   refine xEAA (h'.get hn) fun u hv hr=>?_;simp only [List.filterMap_cons,hn,hv,VRs];exact ⟨u,_,rfl,hr,ih⟩
  | none =>
   have hv:us[j]?=none:=by
    rw [List.getElem?_eq_none_iff] at hn ⊢;rw [h'.len];exact hn
   simp only [List.filterMap_cons,hn,hv];exact ih
noncomputable def OVR(g:Gh)(h:Heap):Option V->Value->Prop
 | none,u=>u=.none
 | some v,u=>VR g h v u
theorem Ua5{o:Option V}{x:Option Int}(e:optInt o=some x){u:Value}(hu:OVR g h o u):IsPart u x/\∃ q:Option (Int×Tok),u=partValue q/\q.map (·.1)=x:=by
 cases o with
 | none=>cases e;cases (show u=.none from hu);exact ⟨.none,none,rfl,rfl⟩
 | some v =>
  refine obS e fun i q e=>?_;cases e;exact int1 (T:=fun u=>IsPart u (some i)/\∃ q:Option (Int×Tok),u=partValue q/\q.map (·.1)=some i) q hu fun t=>⟨.int i t,some (i,t),rfl,rfl⟩
theorem Ul1{items:Array Value}{vs:List V}(lo hi:Option Int)(h':VRs g h vs items.toList):VRs g h (sliceL lo hi vs) (slicePick items lo hi none).toList:=by
 rw [slicePick_plain];have:=h'.len;rw [Array.length_toList] at this;delta sliceL;rw [this];skip;exact (h'.drop _).take _
theorem Uhi{α:Type}(lo hi:Option Int)(l:List α):(sliceL lo hi l).length<=l.length :=
 Nat.le_trans (List.length_take_le' _ _) (Nat.le_trans (Nat.le_of_eq List.length_drop) (Nat.sub_le _ _))
noncomputable def sliceC(s:Str)(a b:Option Int):Option V :=
 if ((Builtin.Str.strSliceIndices a b 1 s.length).filterMap (s.cps[·]?)).length<=lim/\sOk ⟨((Builtin.Str.strSliceIndices a b 1 s.length).filterMap (s.cps[·]?)).toArray⟩=true /\
  ((Builtin.Str.strSliceIndices a b 1 s.length).length=s.length->(Builtin.Str.strSliceIndices a b 1 s.length).filterMap (s.cps[·]?)=s.cps.toList) then
  some (.str ⟨((Builtin.Str.strSliceIndices a b 1 s.length).filterMap (s.cps[·]?)).toArray⟩) else none
theorem ix_of(n:Nat)(l u:Option Int):Builtin.Str.strSliceIndices l u 1 n=(List.range (u.elim n (clipAt n) - l.elim 0 (clipAt n))).map (l.elim 0 (clipAt n)+·):=by
 have e:Builtin.Str.strSliceIndices l u 1 n=sliceRange (sliceBounds l u none n).1 (sliceBounds l u none n).2.1 (sliceBounds l u none n).2.2:=by
  cases l <;> cases u <;> rfl
 rw [e,sliceBounds_plain];exact sliceRange_one _ _
theorem Uss(n:Nat)(i:Int):clipAt n i<=n:=by have:=clipAt_cast n i;exact om307 this
theorem Unf{z:Str}(x y:Option Int)(o1:sOk z=true)(l1:z.length<=lim):sliceC z x y=some (.str ⟨(sliceL x y z.cps.toList).toArray⟩):=by
 have el:z.cps.toList.length=z.length:=Array.length_toList;have pk:(Builtin.Str.strSliceIndices x y 1 z.length).filterMap (z.cps[·]?)=sliceL x y z.cps.toList:=by
  rw [ix_of,pick_run,<- el];rfl
 have h3:(Builtin.Str.strSliceIndices x y 1 z.length).length=z.length->sliceL x y z.cps.toList=z.cps.toList:=fun w=>by
  rw [ix_of,List.length_map,List.length_range] at w;have hu:y.elim z.length (clipAt z.length)<=z.length:=by cases y;exact Nat.le_refl _;exact Uss _ _
  delta sliceL;rw [el,w];rcases Nat.eq_zero_or_pos (x.elim 0 (clipAt z.length)) with q | q
  ·rw [q];exact List.take_of_length_le (Nat.le_of_eq el)
  ·have:z.cps.toList=[]:=List.eq_nil_of_length_eq_zero (by omega);rw [this,List.drop_nil,List.take_nil]
 have h2:sOk ⟨(sliceL x y z.cps.toList).toArray⟩=true:=by
  delta sOk at o1 ⊢;rw [Array.all_eq_true_iff_forall_mem] at o1 ⊢;exact fun c hc=>o1 c (Array.mem_toList_iff.mp (List.mem_of_mem_drop (List.mem_of_mem_take (List.mem_toArray.mp hc))))
 delta sliceC;rw [pk];exact if_pos ⟨Nat.le_trans (Uhi _ _ _) (el▸l1),h2,h3⟩
theorem Un3{value slice:Expr}{z:Str}{x y:Option Int}{v:V}{ul uh:Value}{t:Tok}{a:Addr}(R:Rel C g O s.heap)(o1:sOk z=true)(l1:z.length<=lim)
  (p1:∃ q:Option (Int×Tok),ul=partValue q/\q.map (·.1)=x) (p2:∃ q:Option (Int×Tok),uh=partValue q/\q.map (·.1)=y)
  (ha:s.heap.get? a=some { cls:=.type "slice",data:=.fields #[ul,uh,.none] }) (e:sliceC z x y=some v):EvV C A (subscriptTail value slice (.str z t) (.ref a)) g O s v:=iteS e fun hc e=>by
 refine xEA (Udl slice (.str z t) (.ref a)) fun ops hs=>xEAA p1 fun q1 e1 f1=>xEAA p2 fun q2 e2 f2=>?_;cases e;cases f1;cases f2;cases e1;cases e2;have ok:VR g s.heap (.str ⟨((slicePicked z q1 q2 none).filterMap (z.cps[·]?)).toArray⟩) (.str ⟨((slicePicked z q1 q2 none).filterMap (z.cps[·]?)).toArray⟩ s.toks):=VR.mkStr hc.2.1 hc.1;refine Ev.same R fun Q E q=>tail_any (typeIs_str s z t) F.slot_str_getitem.lookup (wpAny_getItem_str_slice (l:=q1) (u:=q2) (st:=none) ⟨_,ha,rfl,rfl⟩ rfl ?_) hs
 by_cases w:(slicePicked z q1 q2 none).length=z.length
 ·have e3:sliceMade z t q1 q2 none=.val (.str z t):=if_pos (beq_iff_eq.mpr w);have e4:(⟨((slicePicked z q1 q2 none).filterMap (z.cps[·]?)).toArray⟩:Str)=z:=congrArg (fun l:List Nat=>(⟨l.toArray⟩:Str)) (hc.2.2 w);rw [e3];exact q _ s.toks ⟨t,congrArg (Value.str · t) e4.symm,hc.2.1,hc.1⟩
 ·have e3:sliceMade z t q1 q2 none=.str ⟨((slicePicked z q1 q2 none).filterMap (z.cps[·]?)).toArray⟩:=if_neg fun h=>w (beq_iff_eq.mp h);rw [e3];exact ⟨Uai hc.1,q _ _ ok⟩
theorem Unx{value slice:Expr}{o v:V}{lo hi:Option V}{uo ul uh:Value}{a:Addr}(R:Rel C g O s.heap)(ho:VR g s.heap o uo)
  (hl:OVR g s.heap lo ul) (hh:OVR g s.heap hi uh)
  (ha:s.heap.get? a=some { cls:=.type "slice",data:=.fields #[ul,uh,.none] }) (e:sliceV o lo hi O=some v):EvV C A (subscriptTail value slice uo (.ref a)) g O s v :=
 obS e fun x hx e=>obS e fun y hy e=>obE e
  (fun z q1 e=>str1 (T:=fun u=>EvV C A (subscriptTail value slice u (.ref a)) g O s v) q1 ho fun t o1 l1=>Un3 R o1 l1 (Ua5 hx hl).2 (Ua5 hy hh).2 ha ((Unf x y o1 l1).trans e))
  fun w0 e=>obS e fun vs hv e=>xEEEAAAA (Uak hv R ho) fun b its n e2 hg hr hl'=>xEA (Udl slice (.ref b) (.ref a)) fun ops hs=>by
   cases e;cases e2;have hlen:its.size=vs.length:=hr.len;exact Ev.up R fun Q E q=>tail_any (VR.isList hg).typeIs slot_list_getitem.lookup (wpAny_getItem_list_slice (VR.isList hg) ⟨_,ha,rfl,rfl⟩ (Ua5 hx hl).1 (Ua5 hy hh).1 .none (by simp)
    (q _ _ (fun b o e=>Heap.get?_push_of_some _ e) rfl rfl (VR.newList (k:=0) R (Ul1 x y hr) (Nat.le_trans (Uhi _ _ _) hl'))) (Uai (hlen▸hl'))) hs
theorem Uob{vs:List V}{us:Array Value}(h':VRs g h vs us.toList)(lo hi:Option Int)(k:Int):(stepL lo hi k vs).length<=vs.length:=by
 have hlen:=h'.len;rw [Array.length_toList] at hlen;have e:=(h'.pick (sliceRange (sliceBounds lo hi (some k) vs.length).1 (sliceBounds lo hi (some k) vs.length).2.1 (sliceBounds lo hi (some k) vs.length).2.2)).len;have:=slicePick_size_le us lo hi (some k);unfold slicePick at this;rw [List.size_toArray,hlen] at this;simp only [Array.getElem?_toList] at e;rw [e] at this;exact this
theorem Uq2{value slice:Expr}{o v w:V}{lo hi:Option V}{uo ul uh uw:Value}{a:Addr}(R:Rel C g O s.heap)(ho:VR g s.heap o uo)
  (hl:OVR g s.heap lo ul) (hh:OVR g s.heap hi uh) (hw:VR g s.heap w uw)
  (ha:s.heap.get? a=some { cls:=.type "slice",data:=.fields #[ul,uh,uw] }) (e:stepV o lo hi w O=some v):EvV C A (subscriptTail value slice uo (.ref a)) g O s v :=
 obS e fun x hx e=>obS e fun y hy e=>obS e fun k hk e=>obS e fun vs hv e=>iteS e fun k0 e=>by
  refine xEEEAAAA (Uak hv R ho) fun b its n e2 hg hr hl'=>xEA (Udl slice (.ref b) (.ref a)) fun ops hs=>xEA (Ubw hk▸hw:VR g s.heap (.int k) uw) fun t e3=>?_;cases e;cases e2;cases e3;have hlen:its.size=vs.length:=hr.len;refine Ev.up R fun Q E q=>tail_any (VR.isList hg).typeIs slot_list_getitem.lookup (wpAny_getItem_list_slice (VR.isList hg) ⟨_,ha,rfl,rfl⟩ (Ua5 hx hl).1 (Ua5 hy hh).1 (.int k t) (by simpa using k0)
   (q _ _ (fun b o e=>Heap.get?_push_of_some _ e) rfl rfl (VR.newList (k:=0) R ?_ (Nat.le_trans (Uob hr _ _ _) hl'))) (Uai (hlen▸hl'))) hs
  have:=hr.pick (sliceRange (sliceBounds x y (some k) vs.length).1 (sliceBounds x y (some k) vs.length).2.1 (sliceBounds x y (some k) vs.length).2.2);delta slicePick stepL;rw [hlen]
  simpa only [Array.getElem?_toList] using this
end
noncomputable def clsOk(K:Frag)(c:Addr)(k:Cls):Bool :=
 plainGet K c ""&&hasDictIn K c&&plainOver K c&&makesIn K c&&findIn K (.ref c) "__setattr__"==some (some (.builtin "object.__setattr__")) &&
 findIn K (.ref c) "__init__"==some (some (.ref k.init))&&typeIn K (.ref k.init)==some (.type "function")&&keepIn K (.ref c) &&
 k.attrs.all (fun x=>findIn K (.ref c) x==some none) &&
 k.meths.all (fun p=>findIn K (.ref c) p.1==some (some (.ref p.2))&&isFn K (.ref p.2))
structure ClsFacts(K:Frag)(c:Addr)(k:Cls):Prop where
 get:plainGet K c ""=true
 dict:hasDictIn K c=true
 over:plainOver K c=true
 makes:makesIn K c=true
 set:findIn K (.ref c) "__setattr__"=some (some (.builtin "object.__setattr__"))
 init:findIn K (.ref c) "__init__"=some (some (.ref k.init))
 ifn:typeIn K (.ref k.init)=some (.type "function")
 keep:keepIn K (.ref c)=true
 attrs:∀ x,k.attrs.contains x=true->findIn K (.ref c) x=some none
 meths:∀ x f,lk x k.meths=some f->findIn K (.ref c) x=some (some (.ref f))/\isFn K (.ref f)=true
theorem Ub3{α:Type}{x:Str}{v w:α}{r:List (Str×α)}:setK x v ((x,w)::r)=(x,v)::r:=if_pos (beq_self_eq_true x)
theorem Ubf{α:Type}{x y:Str}{v w:α}{r:List (Str×α)}(h:y≠x):setK x v ((y,w)::r)=(y,w)::setK x v r:=if_neg fun z=>h (beq_iff_eq.mp z)
theorem Uka{K:Frag}{c:Addr}{k:Cls}(h:clsOk K c k=true):ClsFacts K c k:=by
 have l:∀ {a b:Bool},(a&&b)=true->a=true:=fun h=>(Bool.and_eq_true_iff.mp h).1;have r:∀ {a b:Bool},(a&&b)=true->b=true:=fun h=>(Bool.and_eq_true_iff.mp h).2;have h9:=l h;have h8:=l h9;have h7:=l h8;have h6:=l h7;have h5:=l h6;have h4:=l h5;have h3:=l h4;have h2:=l h3;exact ⟨l h2,r h2,r h3,r h4,beq_iff_eq.mp (r h5),beq_iff_eq.mp (r h6),beq_iff_eq.mp (r h7),r h8,fun x hx=>beq_iff_eq.mp (List.all_eq_true.mp (r h9) x (List.contains_iff_mem.mp hx)),
  fun x f e=>(fun q=>⟨beq_iff_eq.mp (l q),r q⟩) (List.all_eq_true.mp (r h) (x,f) (lk_mem e))⟩
section
variable {C:Cx}{A:Around}{g:Gh}{O O':Store}{s:Shared}{h:Heap}
theorem ER.noRef:∀ {es:List (Str×V)} {l:List DictEntry},ER g h es l->l.any (·.refKey)=false
 | [],_,e=>by cases e;rfl
 | (x,v)::es,_,e=>xEEAAAA e fun d r q k w0 q'=>xEA k fun t hk=>by
  rw [q,List.any_cons,ER.noRef q',Bool.or_false];delta DictEntry.refKey;rw [hk]
theorem ER.find(x:Str):∀ {es:List (Str×V)} {l:List DictEntry},ER g h es l ->
  (∀ v,lk x es=some v->∃ d,l.find? (·.key.isStr x)=some d/\VR g h v d.val)/\(lk x es=none->l.find? (·.key.isStr x)=none)
 | [],_,e=>by cases e;exact ⟨fun v q=>(Uaa q).elim,fun w0=>rfl⟩
 | (y,w)::es,_,e=>xEEAAAA e fun d r q k hv q'=>xEA k fun t hk=>by
  have hs:d.key.isStr x=(y==x):=by rw [hk];rfl
  rw [q,List.find?_cons,hs]
  by_cases z:y=x
  ·subst z;rw [lk_hit,beq_self_eq_true];exact ⟨fun v e=>⟨d,rfl,Uab e▸hv⟩,fun e=>(Uaa e.symm).elim⟩
  ·rw [Uc0 z,beq_eq_false_iff_ne.mpr z];exact ER.find x q'
theorem ER.get(x:Str){es:List (Str×V)}{l:List DictEntry}(e:ER g h es l) :
  (∀ v,lk x es=some v->∃ u,getL x l=some (some u)/\VR g h v u)/\(lk x es=none->getL x l=some none):=by
 delta getL;refine ⟨fun v hv=>xEAA ((ER.find x e).1 v hv) fun d hd r=>?_,fun hn=>?_⟩
 ·rw [hd];exact ⟨_,rfl,r⟩
 ·rw [(ER.find x e).2 hn];exact if_neg (by rw [ER.noRef e];exact Bool.false_ne_true)
theorem ER.put(x:Str){hsh:Int}{t:Tok}{v:V}{u:Value}(r:VR g h v u):∀ {es:List (Str×V)} {l:List DictEntry},ER g h es l->ER g h (setK x v es) (putL x hsh (.str x t) u l)
 | [],_,e=>by cases e;exact ⟨_,[],rfl,⟨t,rfl⟩,r,rfl⟩
 | (y,w)::es,_,e=>xEEAAAA e fun d rest q k hv q'=>xEA k fun t' hk=>by
  have hs:d.key.isStr x=(y==x):=by rw [hk];rfl
  cases q
  by_cases z:y=x
  ·cases z;rw [Ub3];show ER g h _ (if d.key.isStr x=true then _ else _);rw [if_pos (hs.trans (beq_self_eq_true _))];exact ⟨_,rest,rfl,⟨t',hk⟩,r,q'⟩
  ·rw [Ubf z];show ER g h _ (if d.key.isStr x=true then _ else _);rw [if_neg (by rw [hs];exact fun w=>z (beq_iff_eq.mp w))];exact ⟨d,_,rfl,⟨t',hk⟩,hv,ER.put x r q'⟩
theorem ER.len:∀ {es:List (Str×V)} {l:List DictEntry},ER g h es l->l.length=es.length
 | [],_,e=>by cases e;rfl
 | (x,v)::es,_,e=>xEEAAAA e fun d r q w0 w0 q'=>q▸congrArg (·+1) (ER.len q')
theorem Ugf{α:Type}(x:Str)(v:α):∀ es:List (Str×α),(setK x v es).length<=es.length+1
 | []=>Nat.le_refl _
 | (y,w)::es=>by
  by_cases z:y=x
  ·subst z;rw [Ub3];exact Nat.le_succ _
  ·rw [Ubf z];exact Nat.succ_le_succ (Ugf x v es)
theorem Unt{v:V}{u:Value}(r:VR g h v u):handedIn u=true:=by
 cases v with
 | int=>exact xEA r fun t q=>q▸rfl
 | str=>exact xEAA r fun t q w0=>q▸rfl
 | tup=>exact xEEEAA r fun a w0 w0 q w0=>q▸rfl
 | lst=>exact xEEEAA r fun a w0 w0 q w0=>q▸rfl
 | rng=>exact xEEEEAA r fun a w0 w0 w0 q w0=>q▸rfl
 | ref=>exact xEEAA r fun a w0 q w0=>q▸rfl
 | bi n=>cases (show u=biVal n from r);cases n <;> first | rfl | decide +kernel
 | _=>cases (show u=_ from r);rfl
theorem Rel.inst(R:Rel C g O h){r i:Nat}{c:Addr}{es:List (Str×V)}{u:Value}(e:O.get r i=some (.inst c es))(v:VR g h (.ref r i) u) :
  ∃ a d l n,u=.ref a/\g.ρ r i=some (a,d)/\h.get? a=some (instObj c d)/\¬ g.Z a/\h.get? d=some (dictOf l n)/\ER g h es l/\es.length<=100 :=
 xEEAAA (R.at_ e v) fun a d q p o=>xAAEEAAA o fun q1 q2 l n q3 q4 q5=>⟨a,d,l,n,q,p,q1,q2,q3,q4,q5⟩
theorem Uey{P:Prog}{v:V}{z:Nat×Nat×Addr×List (Str×V)×Cls}(e:instO P O v=some z):v=.ref z.1 z.2.1/\O.get z.1 z.2.1=some (.inst z.2.2.1 z.2.2.2.1)/\lkN z.2.2.1 P.clss=some z.2.2.2.2:=obS e fun o q e=>obS e fun c q2 e=>obS e fun k q3 e=>by
 cases e;exact ⟨(Uce q).1,(Uce q).2.trans (congrArg some (by cases h:o.2.2 <;> rw [h] at q2 <;> first | exact (Uaa q2).elim | (cases q2;rfl))),q3⟩
noncomputable abbrev CF(C:Cx):Prop:=∀ c k,lkN c C.P.clss=some k->ClsFacts C.K c k
theorem Facts.here(F:Facts C)(R:Rel C g O h):C.K.In h:=F.X.keeps R.base
theorem lookS{α:Type}{f:Store->Option α}{a:α}{P:Prop}(e:look f O=some (a,O'))(k:f O=some a->O=O'->P):P:=by
 delta look at e;cases q:f O with
 | none=>rw [q] at e;exact (Uaa e).elim
 | some b=>rw [q] at e;cases e;exact k q rfl
theorem Umx{o v:V}{x:Str}{uo:Value}{ex:Bool}(F:Facts C)(cf:CF C)(R:Rel C g O s.heap)(ho:VR g s.heap o uo)(e:attrV C.P o x O=some (v,O')):EvV C A (getAttr uo x ex) g O' s v :=
 lookS e fun e z=>z▸obS e fun z q e=>iteS e fun ha e=>by
  have w:=Uey q;refine xEEEEAAAAAAA (R.inst w.2.1 (w.1▸ho)) fun a d l n e2 p q1 w0 q3 q4 w0=>xEAA ((ER.get x q4).1 v e) fun u hu hr=>?_;cases e2;have f:=cf _ _ w.2.2;exact Ev.same R fun Q E qq=>get_value (F.here R) ⟨q1,rfl,rfl,q3⟩ (plainGet_of (show plainGet C.K _ x=true from f.get)).1 (findObj_own f.dict (f.attrs x ha) rfl (show lookIn x (dictOf l n)=some (some u) from hu)) (Unt hr) (qq _ _ hr)
set_option tactic.hygienic true in
theorem Ui3{c x d:Addr}{k:Cls}{l:List DictEntry}{n:Nat}{name:Str}{v:Value}{Q:Unit->Shared->Prop}{E:Value->Shared->Prop}(X:C.K.In s.heap)(f:ClsFacts C.K c k)(hn:k.attrs.contains name=true)
  (hx:s.heap.get? x=some (instObj c d)) (hd:s.heap.get? d=some (dictOf l n)) (hl:(getL name l).isSome=true) (hz:(putL name (PyData.keyHash C.w.params name) (.str name (s.toks+1)) v l).length<=1000)
  (h:∀ h' n',Heap.SameBut d s.heap h'->h'.get? d=some (dictOf (putL name (PyData.keyHash C.w.params name) (.str name (s.toks+1)) v l) n')->Q () { s with heap:=h',toks:=s.toks+2 }) :
  wpAny (model C.prog C.w) A (setAttr (.ref x) name v) Q E s:=by
 have I:InstAt s.heap x (instObj c d) c (some (dictOf l n)):=⟨hx,rfl,rfl,hd⟩
 refine set_plain X I f.set ?_;have I':InstAt ({ s with toks:=s.toks+1 }:Shared).heap x (instObj c d) c (some (dictOf l n)):=I;refine osa_open (s:={ s with toks:=s.toks+1 }) (r:=none) X I' f.over (by delta takerIn;rw [f.attrs name hn];rfl) fun b=>?_;refine xEAA (any_some f.dict) fun cd hc hd'=>?_;have D:({ s with toks:=s.toks+1 }:Shared).heap.get? d=some ⟨.type "dict",none,.dict l.toArray n,#[]⟩:=hd;have D':(s.heap.update d (Obj.putName name (PyData.keyHash C.w.params name) (.str name (s.toks+1)) v)).get? d=some (dictOf (putL name (PyData.keyHash C.w.params name) (.str name (s.toks+1)) v l) (putN name l n)):=by
  rw [<- putName_dict];exact Heap.get?_update_self _ hd (by rw [putName_dict];rfl)
 have hx':({ s with toks:=s.toks+1 }:Shared).heap.get? x=some ⟨.ref c,some d,.plain,#[]⟩:=hx;clear I I' hx;have X':C.K.In ({ s with toks:=s.toks+1 }:Shared).heap:=X;refine wpAny_bind (wpAny_pure (wpAny_bind (wpAny_bind (wpAny_loadPart hx' (wpAny_bind ((looks_clsIn X' hc).here ?_))))));rw [hd'];refine wpAny_pure (a:=some d) (wpAny_bind (wpAny_pure (wpAny_bind ?_)));delta nsSet;refine wpAny_bind (wpAny_bind (wpAny_askSetting (wpAny_pure (wpAny_bind (wpAny_mkText (wpAny_bind (wpAny_loadPart D ?_)))))))
 try dsimp only
 have c:(!l.toArray.any (·.key.isStr name)&&l.toArray.any (·.refKey))=false:=by
  rw [<- Array.any_toList,<- Array.any_toList];delta getL at hl;split at hl
  ·rename_i en he;rw [List.any_eq_true.mpr ⟨en,List.mem_of_find?_eq_some he,List.find?_some he⟩];rfl
  ·split at hl
   ·cases hl
   ·rename_i z;rw [Bool.not_eq_true] at z;rw [z,Bool.and_false]
 rw [aRefKeyMayBeTheName_at,c];refine wpAny_updatePart D ?_;refine wpAny_bind (wpAny_lookBehind D' (pastItsLine_dict (by rw [List.size_toArray,sizeLine_eq];omega)) ?_);exact wpAny_pure (h _ _ (Heap.SameBut.update _ _ _) D')
theorem Uf5{o v:V}{x:Str}{uo uv:Value}(F:Facts C)(cf:CF C)(R:Rel C g O s.heap)(ho:VR g s.heap o uo)(hv:VR g s.heap v uv)(e:setAttrV C.P o x v O=some ((),O')) :
  Ev C A (setAttr uo x uv) g O' s fun w0 w0 w0=>True:=obS e fun z q e=>iteS e fun ha e=>by
 have w:=Uey q;cases e;have ha:=Bool.and_eq_true_iff.mp ha;refine xEEEEAAAAAAA (R.inst w.2.1 (w.1▸ho)) fun a d l n e2 p q1 q2 q3 q4 w0=>?_;cases e2;have hl:(getL x l).isSome=true:=by
  cases z:lk x _ with
  | none=>rw [(ER.get x q4).2 z];rfl
  | some v=>exact xEAA ((ER.get x q4).1 v z) fun u hu w0=>by rw [hu];rfl
 have hlen:(setK x v z.2.2.2.1).length<=100:=Nat.le_trans (Ugf x v _) (of_decide_eq_true ha.2);intro _ Q E qq;refine Ui3 (F.here R) (cf _ _ w.2.2) ha.1 q1 q3 hl (Nat.le_trans (Nat.le_of_eq (ER.put (hsh:=PyData.keyHash C.w.params x) (t:=s.toks+1) x hv q4).len) (Nat.le_trans hlen (by decide))) fun h' n' sb hd=>?_;have had:a≠d:=fun z=>q2 (by subst z;exact R.st _ ⟨_,_,_,p⟩);refine xAA (R.put (s':={ s with heap:=h',toks:=s.toks+2 }) (o':=.inst _ (setK x v _)) w.2.1 p sb (Uae hd) rfl rfl fun t=>⟨(sb.2 a had).trans q1,q2,_,n',hd,
   ER.tr t R.st (fun w0 f=>f.elim) _ (ER.put x hv q4),hlen⟩) fun t R'=>qq () _ g t R' trivial
theorem Rel.putL(R:Rel C g O s.heap){r i:Nat}{vs ws:List V}{d:Addr}{its:Array Value}{n:Nat}{s':Shared}(q:O.get r i=some (.list vs))(p:g.ρ r i=some (d,d))(sb:Heap.SameBut d s.heap s'.heap)(hg:s'.heap.get? d=some (lo its n))
  (h1:s'.gens=s.gens) (h2:s'.os=s.os) (hr:VRs g s.heap ws its.toList) (hl:ws.length<=lim):Tr (fun w0=>False) g s g s'/\Rel C g (O.put r i (.list ws)) s'.heap :=
 R.put q p sb (Uae hg) h1 h2 fun t'=>⟨rfl,_,n,hg,VRs.tr' hr R t',hl⟩
theorem DictOf.live{P:Program}{w:World}{d:Addr}{l:List (Str×Value)}(e:h.DictOf (strKind P w) d l):h.get? d≠none :=
 xEEEA e fun o w0 w0 q=>Uae q.1
theorem Rel.putD(R:Rel C g O s.heap){r i:Nat}{es fs:List (Str×V)}{d:Addr}{l:List (Str×Value)}{s':Shared}(q:O.get r i=some (.dict es))(p:g.ρ r i=some (d,d))(sb:Heap.SameBut d s.heap s'.heap)(hg:s'.heap.DictOf (strKind C.prog C.w) d l)
  (h1:s'.gens=s.gens) (h2:s'.os=s.os) (hr:PR g s.heap fs l) (hl:fs.length<=lim):Tr (fun w0=>False) g s g s'/\Rel C g (O.put r i (.dict fs)) s'.heap :=
 R.put q p sb (DictOf.live hg) h1 h2 fun t'=>⟨rfl,_,hg,PR.tr t' R.st (fun w0 f=>f.elim) _ hr,hl⟩
end
theorem Udo{x:Str}{u:Value}:∀ {l:List (Str×Value)},(l.map (·.1)).Nodup->stored l x u=setK x u l
 | [],_=>rfl
 | (y,w)::r,h=>by
  have h:=List.nodup_cons.mp h;have ih:=Udo (x:=x) (u:=u) h.2;unfold stored at ih ⊢;rw [List.any_cons,List.map_cons]
  by_cases q:y=x
  ·subst q;have nr:∀ kv ∈ r,kv.1≠y:=fun kv hk e=>h.1 (List.mem_map.mpr ⟨kv,hk,e⟩);have e:r.map (fun kv=>if kv.1=y then (kv.1,u) else kv)=r:=(List.map_congr_left fun kv hk=>if_neg (nr kv hk)).trans (List.map_id r);rw [Ub3,decide_eq_true rfl,Bool.true_or,if_pos rfl,if_pos rfl,e]
  ·rw [Ubf q,<- ih,decide_eq_false q,Bool.false_or,if_neg q];cases List.any r fun kv=>decide (kv.1=x) <;> rfl
section
variable {C:Cx}{A:Around}{g:Gh}{O O':Store}{s:Shared}{h:Heap}
theorem PR.put(x:Str){v:V}{u:Value}(r:VR g h v u):∀ {es:List (Str×V)} {l:List (Str×Value)},PR g h es l->PR g h (setK x v es) (setK x u l)
 | [],_,e=>by cases e;exact ⟨u,[],rfl,r,rfl⟩
 | (y,w)::es,_,e=>xEEAAA e fun d rest q hv q'=>by
  cases q
  by_cases z:y=x
  ·cases z;rw [Ub3,Ub3];exact ⟨u,rest,rfl,r,q'⟩
  ·rw [Ubf z,Ubf z];exact ⟨d,_,rfl,hv,PR.put x r q'⟩
theorem DictOf.nodup{P:Program}{w:World}{d:Addr}{l:List (Str×Value)}(e:h.DictOf (strKind P w) d l):(l.map (·.1)).Nodup:=by
 refine xEEEAAAAAA e fun w0 w0 w0 w0 w0 w0 w0 w0 n=>?_;exact n
theorem Ukd{o k v:V}{uo uk uv:Value}(R:Rel C g O s.heap)(ho:VR g s.heap o uo)(hk:VR g s.heap k uk)(hv:VR g s.heap v uv)(e:setItemV o k v O=some ((),O')) :
  Ev C A (setItem uo uk uv) g O' s fun w0 w0 w0=>True:=by
 refine obE e (fun x q1 e=>obS e fun z q2 e=>iteS e fun hl e=>?_) fun w0 e=>obS e fun j q1 e=>obS e fun z q2 e=>obS e fun m hm e=>?_
 ·have w:=Ubu q2;cases e;refine str1 (T:=fun u=>Ev C A (setItem uo u uv) g _ s fun w0 w0 w0=>True) q1 hk fun t w0 w0=>?_;refine xEEAAAAA (R.dict w.2 (w.1▸ho)) fun d l e2 p dO pr w0=>?_;cases e2;intro _ Q E qq;refine wpAny_setItem_pairs (strKind_is _ _ x t) dO (fun h' dO' sb=>?_) (Uai (Nat.le_trans (Nat.le_of_eq pr.len) (Nat.le_of_lt hl)));rw [Udo (DictOf.nodup dO)] at dO';exact xAA (R.putD (s':={ s with heap:=h',toks:=s.toks+1 }) w.2 p sb dO' rfl rfl (PR.put x hv pr) (Nat.le_trans (Ugf x v _) hl)) fun t' R'=>qq () _ g t' R' trivial
 ·have w:=Ua2 q2;cases e;refine int1 (T:=fun u=>Ev C A (setItem uo u uv) g _ s fun w0 w0 w0=>True) q1 hk fun t=>?_;refine xEEEAAAAA (R.list w.2 (w.1▸ho)) fun d its n e2 p hg hr hl=>?_;cases e2;have hlen:its.size=z.2.2.length:=hr.len;have hf:=Uif hm hl;intro _ Q E qq;have fin:Q () { s with heap:=s.heap.update d (Obj.mapSeq (·.setIfInBounds m uv)) } :=
   xAA (R.putL (its:=its.setIfInBounds m uv) (s':={ s with heap:=s.heap.update d (Obj.mapSeq (·.setIfInBounds m uv)) }) w.2 p (Heap.SameBut.update _ _ _) (Heap.get?_update_self _ hg rfl) rfl rfl
    (by rw [Array.toList_setIfInBounds];exact VRs.set hv m hr) (by rw [List.length_set];exact hl)) fun t' R'=>qq () _ g t' R' trivial
  rcases Ubr hm with ⟨hj,c | c⟩
  ·exact ki_setAt (n:=n) hg c.1 hf.2 (hlen▸(Int.toNat_lt c.1).mp (c.2▸hj)) (c.2▸fin)
  ·exact ki_setBack (n:=n) hg c.1 (om336 hlen c) hf.1 (by rw [hlen];exact c.2.2▸fin)
theorem VRs.cons1{v:V}{us:List Value}(e:VRs g h [v] us):∃ u,us=[u]/\VR g h v u :=
 xEEAAA e fun u r q a q2=>by cases q;cases (show r=[] from q2);exact ⟨u,rfl,a⟩
theorem VRs.cons2{v w:V}{us:List Value}(e:VRs g h [v,w] us):∃ u x,us=[u,x]/\VR g h v u/\VR g h w x :=
 xEEAAA e fun u r q a q2=>xEAA (VRs.cons1 q2) fun x q3 b=>⟨u,x,by rw [q,q3],a,b⟩
theorem VRs.of_pt:∀ {vs:List V} {us:List Value},vs.length=us.length->(∀ (j:Nat) (v:V) (u:Value),vs[j]?=some v->us[j]?=some u->VR g h v u)->VRs g h vs us
 | [],[],_,_=>rfl
 | v::vs,u::us,hl,q=>⟨u,us,rfl,q 0 v u rfl rfl,VRs.of_pt (Nat.succ.inj hl) fun j a b e f=>q (j+1) a b e f⟩
 | [],_::_,hl,_=>by cases hl
 | _::_,[],hl,_=>by cases hl
theorem newRange{a b c:Int}{t u v:Tok}(R:Rel C g O s.heap)(k:Nat)(bd:a.natAbs<=lim/\b.natAbs<=lim/\0 < c/\c<=lim) :
  VR g ({ s with heap:=s.heap.push { cls:=.type "range",data:=.fields #[.int a t,.int b u,.int c v] },toks:=k }:Shared).heap (.rng a b c) (.ref s.heap.objs.size):=by
 exact ⟨_,t,u,v,rfl,IsRange.new ..,R.fresh,bd⟩
theorem Rel.room(F:Facts C)(R:Rel C g O h):h.NoLimit:=F.lim.keeps R.base
theorem oneE{args:List V}{a:V}(e:one args=some a):args=[a]:=by
 rcases args with _ | ⟨b,_ | ⟨c,r⟩⟩ <;> first | exact (Uaa e).elim | exact congrArg (fun x=>[x]) (Uab e)
theorem VRs.size{vs:List V}{a:Array Value}(r:VRs g h vs a.toList):a.size=vs.length:=r.len
theorem one1{args:List V}{a:V}{us:List Value}{T:List Value->Prop}(e:one args=some a)(r:VRs g h args us)(k:∀ u,VR g h a u->T [u]):T us :=
 xEAA (VRs.cons1 (oneE e▸r)) fun u q v=>by cases q;exact k u v
theorem ints1{x:Int}{vs:List V}{us:List Value}{T:List Value->Prop}(r:VRs g h (.int x::vs) us)(k:∀ t us,VRs g h vs us->T (.int x t::us)):T us :=
 xEEAAA r fun u us q a r'=>xEA a fun t e=>by cases q;cases e;exact k t us r'
theorem Uoq{n:Nat}(h:n<=lim):(n:Int) < 2 ^ 63:=Int.lt_of_le_of_lt (Int.ofNat_le.mpr h) (by decide)
theorem len_ok(R:Rel C g O s.heap){a:V}{u:Value}{v:V}(r:VR g s.heap a u)(e:ob (strO a) (fun s=>some (V.int s.length)) (ob (asSeq O a) (fun vs=>some (V.int vs.length)) none)=some v):EvV C A (call (.builtin "len") [u]) g O s v:=obE e
 (fun x q e=>str1 (T:=fun u=>EvV C A (call (.builtin "len") [u]) g O s v) q r fun t w0 hl=>Ev.same R fun Q E q=>P.len_str (fun h=>Int.not_le.mpr (Uoq hl) h) (q _ _ (VR.oInt e)))
 fun w0 e=>obS e fun vs hv e=>xEEEEAAAAA (Uid hv R r) fun a its n T q hT hg hr hl=>by
  cases q;have lt:(its.size:Int) < 2 ^ 63:=Uoq (hr.size▸hl);rcases hT with q | q
  ·cases q;exact Ev.same R fun Q E q=>PyProof.Rows.len_list (VR.isList hg) lt (q _ _ (hr.size▸VR.oInt e))
  ·cases q;exact Ev.same R fun Q E q=>PyProof.Rows.len_tuple (VR.isTup hg) lt (q _ _ (hr.size▸VR.oInt e))
theorem Urj(R:Rel C g O s.heap){l:List Int}{us:List Value}{v:V}(r:VRs g s.heap (l.map .int) us)(e:rangeV l=some v):EvV C A (call (.type "range") us) g O s v:=by
 have up:∀ (b:Addr) (o:Obj) {x:Obj},s.heap.get? b=some o->(s.heap.push x).get? b=some o:=fun b o x e=>Heap.get?_push_of_some _ e;rcases l with _ | ⟨a,_ | ⟨b,_ | ⟨c,_ | ⟨d,l⟩⟩⟩⟩
 ·exact (Uaa e).elim
 ·refine iteS e fun hc e=>ints1 (T:=fun us=>EvV C A (call (.type "range") us) g O s v) r fun t us r=>?_;cases e;cases (show us=[] from r);exact Ev.up R fun Q E q=>call_range_1 (q _ _ (fun b o e=>up b o e) rfl rfl (newRange R _ ⟨Nat.zero_le _,hc,by decide,by decide⟩))
 ·refine iteS e fun hc e=>ints1 (T:=fun us=>EvV C A (call (.type "range") us) g O s v) r fun t us r=>ints1 (T:=fun us=>EvV C A (call (.type "range") (.int a t::us)) g O s v) r fun t' us r=>?_;cases e;cases (show us=[] from r);exact Ev.up R fun Q E q=>call_range_2 (q _ _ (fun b o e=>up b o e) rfl rfl (newRange R _ ⟨hc.1,hc.2,by decide,by decide⟩))
 ·refine iteS e fun hc e=>ints1 (T:=fun us=>EvV C A (call (.type "range") us) g O s v) r fun t us r=>ints1 (T:=fun us=>EvV C A (call (.type "range") (.int a t::us)) g O s v) r fun t' us r =>
   ints1 (T:=fun us=>EvV C A (call (.type "range") (.int a t::.int b t'::us)) g O s v) r fun t2 us r=>?_
  cases e;cases (show us=[] from r);have hl:lim=1000000:=rfl;exact Ev.up R fun Q E q=>call_range_3 (Int.ne_of_gt hc.2.2.1) (q _ _ (fun b o e=>up b o e) rfl rfl (newRange R _ hc)) (.inl (PyProof.noPylong_small (om317 hc hl)))
 ·exact (Uaa e).elim
theorem chr_ok(R:Rel C g O s.heap){i:Int}{t:Tok}{v:V}(e:(if 0<=i/\i < 0x110000 then some (V.str ⟨#[i.toNat]⟩) else none)=some v):EvV C A (call (.builtin "chr") [.int i t]) g O s v:=iteS e fun h1 e=>by
 cases e;refine Ev.same R fun Q E q=>P.chr_of_int (Bool.or_eq_false_iff.mpr ⟨decide_eq_false (Int.not_lt.mpr h1.1),decide_eq_false (Int.not_lt.mpr (Int.le_of_lt_add_one h1.2))⟩) (q _ _ (VR.mkStr ?_ Ujv));show (#[i.toNat]:Array Nat).all _=true;simp only [List.all_toArray,List.all_cons,List.all_nil,Bool.and_true,decide_eq_true_eq];exact (Int.toNat_lt h1.1).mpr h1.2
theorem Ump(hh:A.handled=none)(R:Rel C g O s.heap){x:Str}{t:Tok}(ho:sOk x=true)(hl:x.length<=lim):EvV C A (call (.type "list") [.str x t]) g O s (.lst (x.cps.toList.map fun c=>.str ⟨#[c]⟩)):=by
 refine Ev.up R fun Q E q=>call_list_str hh x t (fun h' tk acc' c' k hg it=>q _ _ k rfl rfl ?_) (Uai hl);refine ⟨_,acc',c',rfl,hg,R.fresh,?_,by rw [List.length_map,Array.length_toList];exact hl⟩;refine VRs.of_pt (by rw [List.length_map,Array.length_toList,Array.length_toList,it.1]) fun j w u h1 h2=>?_;rw [Array.getElem?_toList] at h2;refine xEEAA (it.2 j u h2) fun c t' hc e=>?_;rw [List.getElem?_map,Array.getElem?_toList,hc] at h1;cases h1;cases e;exact VR.mkStr (Ulm ho hc) Ujv
theorem Uo1(R:Rel C g O s.heap){vs:List V}{v:V}{u:Value}(r:LV g s.heap u vs):(some (.lst vs)=some v->EvV C A (call (.type "list") [u]) g O s v)/\(some (.tup vs)=some v->EvV C A (call (.type "tuple") [u]) g O s v) :=
 xEEEAAAA r fun a its k q hg hr hl=>by
  cases q;refine ⟨fun e=>?_,fun e=>?_⟩
  ·cases e;exact Ev.up R fun Q E q=>call_list_seq a (.inl rfl) hg rfl rfl (fun h' c' k hg'=>q _ _ k rfl rfl ⟨_,its,c',rfl,hg',R.fresh,VRs.up (s:=s) (s':={ s with heap:=h' }) R k rfl rfl hr,hl⟩) (Uai (hr.size▸hl))
  ·cases e;refine Ev.up R fun Q E q=>call_tuple_list (VR.isList hg) (fun h' k=>q _ _ (fun b o e=>Heap.get?_push_of_some _ (k b o e)) rfl rfl ?_) (Uai (hr.size▸hl));exact VR.newTup (s:={ s with heap:=h' }) (R.grown (s:=s) (s':={ s with heap:=h' }) k rfl rfl) (VRs.up (s:=s) (s':={ s with heap:=h' }) R k rfl rfl hr) hl 0
theorem Uj4{d:Nat}{n:Bi}{args:List V}{us:List Value}{v:V}(Fa:Facts C)(Ro:Room A d)(R:Rel C g O s.heap)(ha:VRs g s.heap args us)(e:builtinV n args O=some (v,O')):EvV C A (call (biVal n) us) g O' s v:=lookS e fun e' z=>by
 subst z;have e:bV n O args=some v:=e';have o1:∀ a,one args=some a->(∀ u,VR g s.heap a u->EvV C A (call (biVal n) [u]) g O s v)->EvV C A (call (biVal n) us) g O s v:=fun a q k=>one1 (T:=fun us=>EvV C A (call (biVal n) us) g O s v) q ha k;cases n with
 | len=>exact obS e fun a q e=>o1 a q fun u hu=>len_ok R hu e
 | range=>exact obS e fun l q e=>Urj R (Uqy q▸ha) e
 | ord=>exact obS e fun a q e=>o1 a q fun u hu=>obS e fun x q e=>iteS e fun h1 e=>str1 (T:=fun u=>EvV C A (call (.builtin "ord") [u]) g O s v) q hu fun t w0 w0=>Ev.same R fun Q E q=>ord_of_one h1 (q _ _ (VR.oInt e))
 | chr=>exact obS e fun a q e=>o1 a q fun u hu=>obS e fun x q e=>int1 (T:=fun u=>EvV C A (call (.builtin "chr") [u]) g O s v) q hu fun t=>chr_ok R e
 | list=>exact obS e fun a q e=>o1 a q fun u hu=>obE e (fun x q e=>str1 (T:=fun u=>EvV C A (call (.type "list") [u]) g O s v) q hu fun t o l=>Uab e▸Ump Ro.handled R o l) fun w0 e=>obS e fun vs q e=>(Uo1 R (Uak q R hu)).1 e
 | tuple=>exact obS e fun a q e=>o1 a q fun u hu=>obS e fun vs q e=>(Uo1 R (Uak q R hu)).2 e
end
theorem Uro(l:List Str):Txt.join Str.empty l=joinS l:=by
 delta Txt.join;rw [StrLaws.glued_eq_join];have key:∀ l:List Str,(Str.join Str.empty l).cps.toList=(l.map (·.cps.toList)).flatten:=by
  intro l;induction l with
  | nil=>rfl
  | cons p r ih =>
   cases r with
   | nil=>exact (List.append_nil _).symm
   | cons q r =>
    show (p++Str.empty++Str.join Str.empty (q::r)).cps.toList=_;rw [Str.cps_append,Str.cps_append,Array.toList_append,Array.toList_append,ih];exact congrArg (·++((q::r).map (·.cps.toList)).flatten) (List.append_nil _)
 exact congrArg Str.mk (Array.toList_inj.mp (key l))
theorem Una(l:List Str):(joinS l).length=(l.map (·.length)).sum:=by
 show ((l.map (·.cps.toList)).flatten.toArray).size=_;rw [List.size_toArray,List.length_flatten,List.map_map]
 rfl
theorem Urd{l:List Str}(h:∀ y ∈ l,sOk y=true):sOk (joinS l)=true:=by
 delta sOk joinS;rw [List.all_toArray,List.all_eq_true];intro c hc;refine xEAA (List.mem_flatten.mp hc) fun z hz hcz=>xEAA (List.mem_map.mp hz) fun y hy q=>?_;subst q;exact Array.all_eq_true_iff_forall_mem.mp (h y hy) c (Array.mem_toList_iff.mp hcz)
theorem Umj{α:Type}(x y:Str)(u:α):∀ {l:List (Str×α)},y ∈ (setK x u l).map (·.1)->y=x\/y ∈ l.map (·.1)
 | [],h=>.inl (List.mem_singleton.mp h)
 | (z,w)::r,h=>by
  by_cases q:z=x
  ·subst q;rw [Ub3] at h;exact .inr h
  ·rw [Ubf q] at h;rcases List.mem_cons.mp h with e | e
   ·exact .inr (e▸List.mem_cons_self)
   ·exact (Umj x y u e).imp id (List.mem_cons_of_mem _)
theorem Uhr{α:Type}(x:Str)(u:α):∀ {l:List (Str×α)},(l.map (·.1)).Nodup->((setK x u l).map (·.1)).Nodup
 | [],_=>List.nodup_cons.mpr ⟨List.not_mem_nil,List.nodup_nil⟩
 | (z,w)::r,h=>by
  have h':=List.nodup_cons.mp h
  by_cases q:z=x
  ·subst q;rw [Ub3];exact h
  ·rw [Ubf q];exact List.nodup_cons.mpr ⟨fun m=>(Umj x z u m).elim q h'.1,Uhr x u h'.2⟩
theorem Udx:∀ {m l:List (Str×Value)},(l.map (·.1)).Nodup->merged l m=m.foldl (fun l kv=>setK kv.1 kv.2 l) l
 | [],_,_=>rfl
 | kv::m,l,h=>by
  have ih:=Udx (m:=m) (l:=setK kv.1 kv.2 l) (Uhr _ _ h);unfold merged at ih ⊢;rw [List.foldl_cons,List.foldl_cons,Udo h];exact ih
theorem Ucn{α:Type}:∀ (fs es:List (Str×α)),(fs.foldl (fun es p=>setK p.1 p.2 es) es).length<=es.length+fs.length
 | [],_=>Nat.le_refl _
 | p::fs,es=>by
  have h1:=Ucn fs (setK p.1 p.2 es);have h2:=Ugf p.1 p.2 es;rw [List.foldl_cons,List.length_cons];exact Nat.le_trans h1 (Nat.le_trans (Nat.add_le_add_right h2 _) (Nat.le_of_eq (Nat.succ_add _ _)))
section
variable {C:Cx}{A:Around}{g:Gh}{O O':Store}{s:Shared}{h:Heap}
theorem PR.upd:∀ {fs es:List (Str×V)} {m l:List (Str×Value)},PR g h es l->PR g h fs m->PR g h (updD es fs) (m.foldl (fun l kv=>setK kv.1 kv.2 l) l)
 | [],es,m,l,a,b=>by cases b;exact a
 | (x,v)::fs,es,m,l,a,b=>xEEAAA b fun u r e hv q=>by
  cases e;exact PR.upd (fs:=fs) (es:=setK x v es) (l:=setK x u l) (PR.put x hv a) q
theorem VRs.strs:∀ {l:List Str} {us:List Value},VRs g h (l.map .str) us->StrsAre us l/\∀ y ∈ l,sOk y=true
 | [],us,r=>by cases r;exact ⟨.nil,fun w0 h=>nomatch h⟩
 | y::l,us,r=>xEEAAA r fun u rest e v q=>xEAAA v fun t e2 ho w0=>xAA (VRs.strs q) fun a b=>by
  cases e;cases e2;exact ⟨.cons y t a,fun z hz=>(List.mem_cons.mp hz).elim (fun e=>e▸ho) (b z)⟩
theorem VRs.pop{vs:List V}{us:List Value}(e:VRs g h vs us):VRs g h vs.dropLast us.dropLast:=by
 rw [List.dropLast_eq_take,List.dropLast_eq_take,e.len];exact e.take _
noncomputable def Mi.id:Mi->String
 | .join=>"str.join" | .find=>"str.find" | .replace=>"str.replace" | .append=>"list.append" | .extend=>"list.extend" | .pop=>"list.pop" | .get=>"dict.get" | .update=>"dict.update"
theorem twoE{α:Type}{args:List α}{a:α×α}(e:two args=some a):args=[a.1,a.2]:=by
 rcases args with _ | ⟨b,_ | ⟨c,_ | ⟨d,r⟩⟩⟩ <;> first | exact (Uaa e).elim | exact congrArg (fun x:α×α=>[x.1,x.2]) (Uab e)
noncomputable abbrev MvOk(C:Cx)(A:Around)(id:Mi):Prop:=∀ {g:Gh} {O:Store} {s:Shared} {o:V} {args:List V} {uo:Value} {us:List Value} {r:V×Store},Rel C g O s.heap->VR g s.heap o uo->VRs g s.heap args us->mV id o args O=some r ->
 Ev C A (call (.builtin id.id) (uo::us)) g r.2 s fun g' h' u=>VR g' h' r.1 u
theorem m_join:MvOk C A .join:=fun {g O s o args uo us r} R ho ha e=>obS e fun x hx e=>obS e fun v hv e=>obS e fun vs hvs e=>obS e fun l hl e=>iteS e fun hc e=>by
 cases e;have hx0:x=Str.empty:=congrArg Str.mk (Array.eq_empty_of_size_eq_zero hc.2.2);subst hx0;refine one1 (T:=fun us=>Ev C A (call (.builtin "str.join") (uo::us)) g O s fun g' h' u=>VR g' h' (.str (joinS l)) u) hv ha fun u hu=>str1 (T:=fun uo=>Ev C A (call (.builtin "str.join") [uo,u]) g O s fun g' h' u=>VR g' h' (.str (joinS l)) u) hx ho fun t w0 w0=>?_;refine xEEEAAAA (Uak hvs R hu) fun a its n e2 hg hr w0=>xAA (VRs.strs (Uik hl▸hr)) fun sa so=>?_;cases e2;have hb:lim < 2 ^ 23:=by decide
 refine Ev.same R fun Q E q=>join_list (VR.isList hg) sa (by have:=hc.1;show _+_*0<=_;omega) fun t' k=>q _ k ?_;rw [Uro];exact VR.mkStr (Urd so) (by rw [Una];exact hc.1)
theorem m_find:MvOk C A .find:=fun {g O s o args uo us r} R ho ha e=>obS e fun x hx e=>obS e fun v hv e=>obS e fun y hy e=>by
 cases e;exact one1 (T:=fun us=>Ev C A (call (.builtin "str.find") (uo::us)) g O s fun g' h' u=>VR g' h' (.int (Txt.find x y)) u) hv ha fun u hu=>str2 (T:=fun uo u=>Ev C A (call (.builtin "str.find") [uo,u]) g O s fun g' h' u=>VR g' h' (.int (Txt.find x y)) u) hx hy ho hu fun t t' w0 w0 w0 w0 =>
  Ev.same R fun Q E q=>SC.find (q _ _ VR.mkInt)
theorem Urf:MvOk C A .append:=fun {g O s o args uo us r} R ho ha e=>obS e fun z hz e=>obS e fun v hv e=>iteS e fun hl e=>by
 cases e;have w:=Ua2 hz;refine one1 (T:=fun us=>Ev C A (call (.builtin "list.append") (uo::us)) g (O.put z.1 z.2.1 (.list (z.2.2++[v]))) s fun g' h' u=>VR g' h' .none u) hv ha fun u hu=>xEEEAAAAA (R.list w.2 (w.1▸ho)) fun a its n e2 p hg hr w0=>?_;cases e2;exact fun w0 Q E qq=>append_at hg (fun h' sb hg'=>xAA (R.putL (s':={ s with heap:=h' }) w.2 p sb hg' rfl rfl (by rw [Array.toList_push];exact VRs.app hr (VRs.one hu)) (by rw [List.length_append];exact hl)) fun t' R'=>qq _ _ g t' R' rfl) (Uai (hr.size▸Nat.le_of_lt hl))
theorem Url:MvOk C A .extend:=fun {g O s o args uo us r} R ho ha e=>obS e fun z hz e=>obS e fun v hv e=>obS e fun ws hw e=>iteS e fun hl e=>by
 cases e;have w:=Ua2 hz;refine one1 (T:=fun us=>Ev C A (call (.builtin "list.extend") (uo::us)) g (O.put z.1 z.2.1 (.list (z.2.2++ws))) s fun g' h' u=>VR g' h' .none u) hv ha fun u hu=>xEEEAAAAA (R.list w.2 (w.1▸ho)) fun a its n e2 p hg hr w0=>xEEEAAAA (Uak hw R hu) fun b its2 n2 e3 hg2 hr2 w0=>?_;cases e2;cases e3;have hsz:its.size+its2.size<=sizeLine:=Uai (by rw [hr.size,hr2.size];exact Nat.le_of_lt hl);exact fun w0 Q E qq=>call_meets PySem.F.slot_list_extend ⟨_,hg,rfl⟩ PySem.F.entry_list_extend (PySem.F.args_list_extend_2 _ _) (AutoSeq1.list_extend_list_list_0 a its n b its2 n2 (extend_door hsz) (Nat.le_trans (Nat.le_add_right _ _) hsz) (Nat.le_succ_of_le hsz)) ⟨hg,hg2,
  xAA (R.putL (its:=its++its2) (s':={ s with heap:=s.heap.update a (Obj.mapSeq fun x=>x++its2) }) w.2 p (Heap.SameBut.update _ _ _) (Heap.get?_update_self _ hg rfl) rfl rfl (by rw [Array.toList_append];exact VRs.app hr hr2) (by rw [List.length_append];exact Nat.le_of_lt hl)) fun t' R'=>qq _ _ g t' R' rfl⟩
theorem m_pop:MvOk C A .pop:=fun {g O s o args uo us r} R ho ha e=>obS e fun z hz e=>iteS e fun hn e=>obS e fun x hx e=>by
 cases e;have w:=Ua2 hz;have ha:VRs g s.heap [] us:=List.isEmpty_iff.mp hn▸ha;cases (show us=[] from ha);rw [List.getLast?_eq_getElem?] at hx;refine xEEEAAAAA (R.list w.2 (w.1▸ho)) fun a its n e2 p hg hr hl=>xEAA (hr.get hx) fun u hu hux=>?_;cases e2;rw [Array.getElem?_toList] at hu;exact fun w0 Q E qq=>Copied.pop_at hg (y:=u) (by rw [hr.size];exact hu) (fun h' sb hg'=>xAA (R.putL (s':={ s with heap:=h' }) w.2 p sb hg' rfl rfl (by rw [Array.toList_pop];exact VRs.pop hr) (by rw [List.length_dropLast];exact Nat.le_trans (Nat.sub_le _ _) hl))
  fun t' R'=>qq _ _ g t' R' (VR.tr t' R.st (fun w0 f=>f.elim) _ hux)) (Uai (hr.size▸hl))
theorem m_get(Fa:Facts C):MvOk C A .get:=fun {g O s o args uo us r} R ho ha e=>obS e fun z hz e=>obS e fun w hw e=>obS e fun x hx e=>by
 cases e;have wd:=Ubu hz;refine xEEAAA (VRs.cons2 (twoE hw▸ha)) fun u1 u2 e1 hu1 hu2=>xEEAAAAA (R.dict wd.2 (wd.1▸ho)) fun dd l e2 p dO pr w0=>?_;cases e1;cases e2;refine str1 (T:=fun u1=>Ev C A (call (.builtin "dict.get") [.ref dd,u1,u2]) g O s fun g' h' u=>VR g' h' ((lk x z.2.2).getD w.2) u) hx hu1 fun t w0 w0=>?_;refine Ev.same R fun Q E qq=>call_meetsIn F.slot_dict_get dO.typeIs F.entry_dict_get (F.args_dict_get_3 _ _ _) (meets_dict_get_default _ dd (strKind_is _ _ x t) (R.notSys Fa p) u2) ⟨_,dO.mapOf,qq _ _ ?_⟩;cases z:lk x z.2.2 with
 | none=>rw [(PR.look x pr).2 z];exact hu2
 | some w=>exact xEAA ((PR.look x pr).1 w z) fun u hu hr=>by rw [hu];exact hr
theorem Uqc(Fa:Facts C):MvOk C A .update:=fun {g O s o args uo us r} R ho ha e=>obS e fun z hz e=>obS e fun v hv e=>obS e fun y hy e=>iteS e fun hc e=>by
 cases e;have w:=Ubu hz;have w':=Ubu hy;refine one1 (T:=fun us=>Ev C A (call (.builtin "dict.update") (uo::us)) g (O.put z.1 z.2.1 (.dict (updD z.2.2 y.2.2))) s fun g' h' u=>VR g' h' .none u) hv ha fun u hu=>?_;refine xEEAAAAA (R.dict w.2 (w.1▸ho)) fun dd l e2 p dO pr w0=>xEEAAAAA (R.dict w'.2 (w'.1▸hu)) fun d2 l2 e3 p2 dO2 pr2 w0=>?_;cases e2;cases e3;have hne:dd≠d2:=fun z=>by
  subst z;exact xAA (R.inj _ _ _ _ _ _ _ p p2) fun z1 z2=>hc.2.elim (fun z=>z z1) fun z=>z z2
 refine fun w0 Q E qq=>call_meetsIn F.slot_dict_update dO.typeIs F.entry_dict_update (F.args_dict_update_2 _ _) (meets_dict_update _ dd d2 hne (R.notSys Fa p2)) ⟨l,l2,dO,dO2,Uai (by rw [pr.len,pr2.len];exact Nat.le_of_lt hc.1),fun h' dO' w0 sb=>?_⟩;rw [Udx (DictOf.nodup dO)] at dO';exact xAA (R.putD (s':={ s with heap:=h' }) w.2 p sb dO' rfl rfl (PR.upd pr pr2) (Nat.le_trans (Ucn y.2.2 z.2.2) (Nat.le_of_lt hc.1))) fun t' R'=>qq _ _ g t' R' rfl
theorem Urk{d:Nat}{id:Mi}{o:V}{args:List V}{uo:Value}{us:List Value}{v:V}(Fa:Facts C)(Ro:Room A d)(R:Rel C g O s.heap)(ho:VR g s.heap o uo)(ha:VRs g s.heap args us)
  (e:methV id o args O=some (v,O')):Ev C A (call (.builtin id.id) (uo::us)) g O' s fun g' h' u=>VR g' h' v u:=by
 cases id with
 | join=>exact m_join R ho ha e
 | find=>exact m_find R ho ha e
 | replace=>cases e
 | append=>exact Urf R ho ha e
 | extend=>exact Url R ho ha e
 | pop=>exact m_pop R ho ha e
 | get=>exact m_get Fa R ho ha e
 | update=>exact Uqc Fa R ho ha e
end
section
variable {C:Cx}{A:Around}{g:Gh}{O O₁ O₂ O':Store}{s:Shared}{h:Heap}{α β γ:Type}
theorem Ev.of_eq{t t':Sem α}{T:Gh->Heap->α->Prop}(e:t=t')(h:Ev C A t' g O s T):Ev C A t g O s T:=e▸h
theorem Ev.hold{vs:List Value}{t:Sem α}{T:Gh->Heap->α->Prop}(h:Ev C A t g O s T):Ev C A (holding vs t) g O s T :=
 fun p Q E q=>wpAny_holding (h p Q E q)
theorem Ev.at_{p:Pos}{k:Sem α}{T:Gh->Heap->α->Prop}(h:Ev C A k g O s T):Ev C A (standAt p >>= fun w0=>k) g O s T :=
 fun p' Q E q=>wpAny_bind (wpAny_standAt (h p' Q E q))
theorem Ev.oper{vs:List Value}{t:Sem Value}{T:Gh->Heap->Value->Prop}(h:Ev C A t g O s T):Ev C A (operate vs t) g O s T :=
 fun p Q E q=>wpAny_operate' (h p Q E q)
theorem Ev.ret{a:α}{T:Gh->Heap->α->Prop}(R:Rel C g O s.heap)(h:T g s.heap a):Ev C A (pure a) g O s T :=
 Ev.same R fun w0 w0 q=>wpAny_pure (q a s.toks h)
theorem Ev.letGo{base:Expr}{o r:Value}{k:Sem α}{T:Gh->Heap->α->Prop}(h:Ev C A k g O s T):Ev C A (letTemporaryGo base o r >>= fun w0=>k) g O s T :=
 fun p Q E q=>wpAny_bind (wpAny_letTemporaryGo (h p Q E q))
structure ES(sc:Scope)(env:Env):Prop where
 gl:∀ x,sc.names.lookup x=some .globalImplicit->env.kindOf x=some .globalImplicit
 lo:∀ x,sc.names.lookup x=some .local->env.kindOf x=some .local
 ce:∀ x,sc.names.lookup x=some .cell->env.kindOf x=some .cell
noncomputable def pairsOf:List (Option Expr)->List Expr->Env->Pos->List (Sem Value×Sem Value)
 | some k::ks,e::r,env,pos=>(eval k env,do let x <- eval e env;standAt pos;pure x)::pairsOf ks r env pos
 | _,_,_,_=>[]
structure EvOk(C:Cx)(A:Around)(call:CC)(n:Nat):Prop where
 ev:∀ (sc:Scope) (fr:Fr) (e:Expr) (env:Env) (g:Gh) (O O':Store) (s:Shared) (v:V),ES sc env->FR g s.heap env fr->Rel C g O s.heap->evalE C.P call n sc fr e O=some (v,O')->EvV C A (eval e env) g O' s v
 evs:∀ (sc:Scope) (fr:Fr) (es:List Expr) (env:Env) (g:Gh) (O O':Store) (s:Shared) (vs:List V) (pos:Pos),ES sc env->FR g s.heap env fr->Rel C g O s.heap->evalEs C.P call n sc fr es O=some (vs,O') ->
  Ev C A (spliced (backTo pos (starEach es env))) g O' s fun g' h' us=>VRs g' h' vs us
 bool:∀ (sc:Scope) (fr:Fr) (op:BoolOp) (es:List Expr) (env:Env) (g:Gh) (O O':Store) (s:Shared) (v:V) (pos:Pos),ES sc env->FR g s.heap env fr->Rel C g O s.heap->boolE C.P call n sc fr op es O=some (v,O') ->
  EvV C A (eval (.BoolOp op es pos) env) g O' s v
 opt:∀ (sc:Scope) (fr:Fr) (e:Option Expr) (env:Env) (g:Gh) (O O':Store) (s:Shared) (v:Option V),ES sc env->FR g s.heap env fr->Rel C g O s.heap->optE C.P call n sc fr e O=some (v,O') ->
  Ev C A (evalPart e env) g O' s fun g' h' u=>OVR g' h' v u
 test:∀ (sc:Scope) (fr:Fr) (e:Expr) (env:Env) (g:Gh) (O O':Store) (s:Shared) (b:Bool),ES sc env->FR g s.heap env fr->Rel C g O s.heap->testE C.P call n sc fr e O=some (b,O') ->
  Ev C A (isTrue e env (eval e env)) g O' s fun w0 w0 c=>c=b
 tests:∀ (sc:Scope) (fr:Fr) (op:BoolOp) (es:List Expr) (env:Env) (g:Gh) (O O':Store) (s:Shared) (b:Bool),ES sc env->FR g s.heap env fr->Rel C g O s.heap->testsE C.P call n sc fr op es O=some (b,O') ->
  Ev C A (allTrue op es env) g O' s fun w0 w0 c=>c=b
 pairs:∀ (sc:Scope) (fr:Fr) (ks:List (Option Expr)) (es:List Expr) (env:Env) (g:Gh) (O O':Store) (s:Shared) (l:List (Str×V)) (pos:Pos),ES sc env->FR g s.heap env fr->Rel C g O s.heap->pairsE C.P call n sc fr ks es O=some (l,O') ->
  Ev C A (evalPairs (pairsOf ks es env pos)) g O' s fun g' h' us=>∃ kvs,Carries (strKind C.prog C.w) us kvs/\PR g' h' l kvs
theorem bndE{α β:Type}{m:M α}{k:α->M β}{O:Store}{r:β×Store}{P:Prop}(e:bnd m k O=some r)(h:∀ a O₁,m O=some (a,O₁)->k a O₁=some r->P):P:=by
 delta bnd at e;cases q:m O with
 | none=>rw [q] at e;exact (Uaa e).elim
 | some a=>rw [q] at e;exact h a.1 a.2 q e
theorem bndL{α β:Type}{f:Store->Option α}{k:α->M β}{O:Store}{r:β×Store}{P:Prop}(e:bnd (look f) k O=some r)(h:∀ a,f O=some a->k a O=some r->P):P :=
 bndE e fun a O₁ q e=>lookS q fun q z=>h a q (z▸e)
theorem bndO{α β:Type}{f:Option α}{k:α->M β}{O:Store}{r:β×Store}{P:Prop}(e:bnd (lift f) k O=some r)(h:∀ a,f=some a->k a O=some r->P):P :=
 bndL (f:=fun w0=>f) e h
theorem Uqf{α β:Type}{m:M α}{k:α->M β}{O:Store}{r:β×Store}(e:bnd m k O=some r):∃ a O₁,m O=some (a,O₁)/\k a O₁=some r:=bndE e fun a O₁ q e=>⟨a,O₁,q,e⟩
theorem Uap{α:Type}{f:Store->Option α}{O O₁:Store}{a:α}(e:look f O=some (a,O₁)):f O=some a/\O=O₁:=lookS e fun q z=>⟨q,z⟩
theorem Uc4{α:Type}{f:Option α}{O O₁:Store}{a:α}(e:lift f O=some (a,O₁)):f=some a/\O=O₁:=Uap (f:=fun w0=>f) e
theorem Ua7{α:Type}{c:Prop}[Decidable c]{a b:M α}{O:Store}{r:α×Store}(e:(if c then a else b) O=some r):(c/\a O=some r)\/(¬ c/\b O=some r):=by
 by_cases h:c
 ·rw [if_pos h] at e;exact .inl ⟨h,e⟩
 ·rw [if_neg h] at e;exact .inr ⟨h,e⟩
theorem Us8{α β:Type}{x:Option α}{f:α->M β}{z:M β}{O:Store}{r:β×Store}(h:x=none)(e:ob x f z O=some r):z O=some r:=by rw [h] at e;exact e
theorem obM{α β:Type}{x:Option α}{f:α->M β}{O:Store}{r:β×Store}{P:Prop}(e:ob x f fail O=some r)(h:∀ a,x=some a->f a O=some r->P):P:=by
 cases x with
 | none=>exact (Uaa e).elim
 | some a=>exact h a rfl e
theorem iteM{α:Type}{c:Prop}[Decidable c]{a:M α}{O:Store}{r:α×Store}{P:Prop}(e:(if c then a else fail) O=some r)(k:c->a O=some r->P):P:=by
 by_cases h:c
 ·rw [if_pos h] at e;exact k h e
 ·rw [if_neg h] at e;exact (Uaa e).elim
theorem nos{α:Type}{d:α}{P:Prop}(h:(none:Option α)=some d):P:=(Uaa h).elim
theorem Uoy{ops:List CmpOp}{rs:List Expr}{s:Shp}(h:shpV ops rs=some s):(∃ op r,ops=[op]/\rs=[r]/\s=(op,r,none))\/∃ o₁ o₂ r₁ r₂,ops=[o₁,o₂]/\rs=[r₁,r₂]/\s=(o₁,r₁,some (o₂,r₂)):=by
 rcases ops with _ | ⟨o₁,_ | ⟨o₂,_ | ⟨o₃,t⟩⟩⟩
 ·exact nos h
 ·rcases rs with _ | ⟨r₁,_ | ⟨r₂,t⟩⟩
  ·exact nos h
  ·cases h;exact .inl ⟨_,_,rfl,rfl,rfl⟩
  ·exact nos h
 ·rcases rs with _ | ⟨r₁,_ | ⟨r₂,_ | ⟨r₃,t⟩⟩⟩
  ·exact nos h
  ·exact nos h
  ·cases h;exact .inr ⟨_,_,_,_,rfl,rfl,rfl⟩
  ·exact nos h
 ·exact nos h
theorem cale(f:Expr):(∃ o x ap,f=.Attribute o x ap)\/(∃ h q,f=.Name h q)\/calE f=.bad:=by
 have k:∀ e,calE e=.bad->(∃ o x ap,e=.Attribute o x ap)\/(∃ h q,e=.Name h q)\/calE e=.bad:=fun e h=>.inr (.inr h);cases f with
 | Attribute o x ap=>exact .inl ⟨_,_,_,rfl⟩
 | Name h q=>exact .inr (.inl ⟨_,_,rfl⟩)
 | _=>exact k _ rfl
theorem Un0(f:Expr)(kws:List Keyword):(∃ o x ap,f=.Attribute o x ap/\kws=[])\/(∃ h q,f=.Name h q/\kws=[])\/calV f kws=.bad:=by
 cases kws with
 | nil=>exact (cale f).elim (fun ⟨o,x,ap,e⟩=>.inl ⟨o,x,ap,e,rfl⟩) fun h=>h.elim (fun ⟨x,q,e⟩=>.inr (.inl ⟨x,q,e,rfl⟩)) fun h=>.inr (.inr h)
 | cons _ _=>exact .inr (.inr rfl)
theorem Ur8{β:Type}{c:Cal}{f:Expr->Str->Pos->M β}{g:Str->Pos->M β}{O:Store}{r:β×Store}(h:c=.bad)(e:calB c f g fail O=some r):False:=by subst h;cases e
theorem Unq(i:Expr):(∃ lo hi st p,i=.Slice lo hi st p)\/slcV i=none:=by
 have k:∀ i,slcV i=none->(∃ lo hi st p,i=.Slice lo hi st p)\/slcV i=none:=fun i h=>.inr h;cases i with
 | Slice=>exact .inl ⟨_,_,_,_,rfl⟩
 | _=>exact k _ rfl
theorem Ur5{β:Type}{t:Tst}{f:Expr->M β}{g:BoolOp->List Expr->M β}{h:Expr->Shp->M β}{p:M β}{O:Store}{r:β×Store}(e:tstB t f g h p fail O=some r)(hb:t=.bad):False:=by subst hb;cases e
theorem Uoe{β:Type}{t:Tst}{f:Expr->M β}{g:BoolOp->List Expr->M β}{h:Expr->Shp->M β}{p z:M β}{O:Store}{r:β×Store}(e:tstB t f g h p z O=some r)(hb:t=.plain):p O=some r:=by subst hb;exact e
theorem Un7(e:Expr):(∃ x p,e=.UnaryOp .Not x p)\/(∃ op es p,e=.BoolOp op es p)\/(∃ l ops rs p s,e=.Compare l ops rs p/\shpV ops rs=some s)\/tstV e=.bad\/tstV e=.plain/\∀ env t,isTrue e env t=(do let v <- t;standAt e.pos;holding [v] (truthy v)):=by
 have k:∀ e,tstV e=.plain->(∀ env t,isTrue e env t=(do let v <- t;standAt e.pos;holding [v] (truthy v)))->(∃ x p,e=.UnaryOp .Not x p)\/(∃ op es p,e=.BoolOp op es p)\/(∃ l ops rs p s,e=.Compare l ops rs p/\shpV ops rs=some s)\/tstV e=.bad\/tstV e=.plain/\∀ env t,isTrue e env t=(do let v <- t;standAt e.pos;holding [v] (truthy v)):=fun e h q=>.inr (.inr (.inr (.inr ⟨h,q⟩)));have z:∀ e,tstV e=.bad->(∃ x p,e=.UnaryOp .Not x p)\/(∃ op es p,e=.BoolOp op es p)\/(∃ l ops rs p s,e=.Compare l ops rs p/\shpV ops rs=some s)\/tstV e=.bad\/tstV e=.plain/\∀ env t,isTrue e env t=(do let v <- t;standAt e.pos;holding [v] (truthy v)):=fun e h=>.inr (.inr (.inr (.inl h)));cases e with
 | UnaryOp op x p=>cases op with
  | Not=>exact .inl ⟨_,_,rfl⟩
  | _=>exact z _ rfl
 | BoolOp op es p=>exact .inr (.inl ⟨_,_,_,rfl⟩)
 | IfExp=>exact z _ rfl
 | Compare l ops rs p =>
  cases h:shpV ops rs with
  | none=>exact z _ (by delta tstV;dsimp only;rw [h])
  | some s=>exact .inr (.inr (.inl ⟨_,_,_,_,s,rfl,h⟩))
 | _=>exact k _ rfl fun w0 w0=>rfl
theorem Uje{t:Expr}{x:Str}(h:nameE t=some x):∃ p,t=.Name x p:=by
 cases t with
 | Name y p=>cases h;exact ⟨_,rfl⟩
 | _=>exact nos h
theorem Up1{gens:List Comprehension}{d:Str×Expr×List Expr}(h:genV gens=some d):∃ px,gens=[⟨.Name d.1 px,d.2.1,d.2.2,0⟩]:=by
 rcases gens with _ | ⟨⟨t,it,ifs,a⟩,_ | ⟨_,_⟩⟩
 ·exact nos h
 ·replace h:(if a=0 then ob (nameE t) (fun x=>some (x,it,ifs)) none else none)=some d:=h
  by_cases ha:a=0
  ·rw [if_pos ha] at h;cases q:nameE t with
   | none=>rw [q] at h;exact nos h
   | some x=>rw [q] at h;cases h;cases ha;exact (Uje q).elim fun p e=>⟨p,e▸rfl⟩
  ·rw [if_neg ha] at h;exact nos h
 ·exact nos h
theorem Unv(ts:List Expr):(∃ us k p,ts=[.Tuple us k p])\/(∃ t,ts=[t]/\tgtV ts=.one t)\/tgtV ts=.bad:=by
 rcases ts with _ | ⟨t,_ | ⟨t2,ts⟩⟩
 ·exact .inr (.inr rfl)
 ·have k:∀ t,tgtV [t]=.one t->(∃ us k p,[t]=[.Tuple us k p])\/(∃ x,[t]=[x]/\tgtV [t]=.one x)\/tgtV [t]=.bad:=fun t h=>.inr (.inl ⟨_,rfl,h⟩);cases t with
  | Tuple us k p=>exact .inl ⟨_,_,_,rfl⟩
  | List=>exact .inr (.inr rfl)
  | Starred=>exact .inr (.inr rfl)
  | _=>exact k _ rfl
 ·exact .inr (.inr rfl)
theorem Urv{β:Type}{t:Tgt}{f:List Expr->M β}{g:Expr->M β}{O:Store}{r:β×Store}(h:t=.bad)(e:tgtB t f g fail O=some r):False:=by subst h;cases e
theorem Usx{β:Type}{t:Tgt}{f:List Expr->M β}{g:Expr->M β}{z:M β}{x:Expr}{O:Store}{r:β×Store}(h:t=.one x)(e:tgtB t f g z O=some r):g x O=some r:=by subst h;exact e
theorem Uq1{t:Expr}{b:List Stmt}{x:Str}(h:forV t b=some x):∃ p,t=.Name x p/\b=[]:=by
 cases b with
 | nil=>exact (Uje h).elim fun p e=>⟨p,e,rfl⟩
 | cons _ _=>exact nos h
theorem Uqw{t:Expr}{z:Expr×Str}(h:augT t=some z):∃ p,t=.Attribute z.1 z.2 p:=by
 cases t with
 | Attribute o x p=>cases h;exact ⟨_,rfl⟩
 | _=>exact nos h
set_option tactic.hygienic true in
theorem Uhb{sc:Scope}{x:Str}{v:V}{fr:Fr}{O:Store}{r:Fr×Store}(e:setVar sc x v fr O=some r):(sc.names.lookup x=some .local\/sc.names.lookup x=some .cell)/\r=(setK x v fr,O):=by
 rcases Ua7 e with ⟨h,e⟩ | ⟨_,e⟩
 ·refine ⟨?_,by cases e;rfl⟩;delta setOk at h;split at h
  ·rename_i q;exact .inl q
  ·rename_i q;exact .inr q
  ·cases h
 ·cases e
theorem Und{α:Type}{O:Store}{r:α×Store}(e:(fail:M α) O=some r):False:=by cases e
end
theorem Ev.rel{C:Cx}{A:Around}{g:Gh}{O:Store}{s:Shared}{α:Type}{vs keep:List Value}{k:Sem α}{T:Gh->Heap->α->Prop}(h:Ev C A k g O s T):Ev C A (release vs keep >>= fun w0=>k) g O s T :=
 fun p Q E q=>wpAny_bind (wpAny_release' (h p Q E q))
noncomputable def Gh.zadd(g:Gh)(P:Addr->Prop):Gh:=⟨g.ρ,fun b=>g.Z b\/P b⟩
noncomputable def Gh.zdel(g:Gh)(P:Addr->Prop):Gh:=⟨g.ρ,fun b=>g.Z b/\¬ P b⟩
theorem OR.kp{C:Cx}{g g':Gh}{h h':Heap}(x:Kp g h g' h'){o:Ob}{a d:Addr}(hd:∀ ob,h.get? d=some ob->h'.get? d=some ob)(q:OR C g h o a d):OR C g' h' o a d:=by
 cases o with
 | list vs=>refine xAEEAAA q fun e its n q v l=>?_;exact ⟨e,its,n,hd _ q,VRs.kp x vs v,l⟩
 | dict es=>refine xAEAAA q fun e its qz1 v l=>?_;obtain ⟨o,k1,k2,q,k3⟩:=qz1;exact ⟨e,its,⟨o,k1,k2,hd _ q,k3⟩,PR.kp x es v,l⟩
 | inst c es=>refine xAAEEAAA q fun e z its n q v l=>?_;exact ⟨x.at_ _ _ e z,x.nz _ _ e z,its,n,hd _ q,ER.kp x es v,l⟩
theorem OR.live{C:Cx}{g:Gh}{h:Heap}{o:Ob}{a d:Addr}(q:OR C g h o a d):h.get? d≠none:=by
 cases o with
 | list vs=>refine xAEEAAA q fun e its n q v l=>?_;exact Uae q
 | dict es=>refine xAEAAA q fun e its qz1 v l=>?_;obtain ⟨o,k1,k2,q,k3⟩:=qz1;exact Uae q
 | inst c es=>refine xAAEEAAA q fun e z its n q v l=>?_;exact Uae q
section
variable {C:Cx}{A:Around}{g g':Gh}{O O':Store}{s s':Shared}{h h':Heap}{W P:Addr->Prop}
theorem Ujj(k:∀ b o,h.get? b=some o->h'.get? b=some o){b:Addr}(l:h.get? b≠none):h'.get? b≠none:=by
 cases e:h.get? b with
 | none=>exact absurd e l
 | some o=>rw [k b o e];exact Option.some_ne_none _
theorem Rel.zadd(R:Rel C g O s.heap)(P:Addr->Prop)(k:∀ b o,s.heap.get? b=some o->s'.heap.get? b=some o)(hP:∀ a,P a->s.heap.get? a=none/\s'.heap.get? a≠none/\sysModules < a)(hg:s'.gens=s.gens)(ho:s'.os=s.os) :
  Tr (fun w0=>False) g s (g.zadd P) s'/\Rel C (g.zadd P) O s'.heap:=by
 have x:Tr (fun w0=>False) g s (g.zadd P) s':=⟨fun w0 w0 w0 e=>e,fun b o e w0 w0=>k b o e,fun a l w0 z=>z.elim id fun p=>absurd (hP a p).1 l,fun a z=>.inl z,fun a l w0=>Ujj k l,fun b p q=>absurd p q,hg,ho⟩
 refine ⟨x,⟨fun b o e=>k b o (R.base b o e),fun a z=>?_,fun a z=>?_,fun b p=>.inl (R.st b p),R.dom,fun r i o e=>?_,R.inj⟩⟩
 ·rcases z with z | z
  ·exact R.zb a z
  ·refine ⟨?_,(hP a z).2.2⟩;cases e:C.B.get? a with
   | none=>rfl
   | some o=>have:=R.base a o e;rw [(hP a z).1] at this;cases this
 ·rcases z with z | z
  ·exact Ujj k (R.zh a z)
  ·exact (hP a z).2.1
 ·refine xEEAA (R.obj r i o e) fun a d p q=>?_;exact ⟨a,d,p,OR.kp (x.kp R.st fun w0 f=>f.elim) (k d) q⟩
theorem Rel.write(R:Rel C g O s.heap)(hw:∀ b,W b->g.Z b/\¬ g.St b)(k:∀ b o,¬ W b->s.heap.get? b=some o->s'.heap.get? b=some o)(live:∀ b,W b->s'.heap.get? b≠none)
  (hg:s'.gens=s.gens) (ho:s'.os=s.os):Tr W g s g s'/\Rel C g O s'.heap:=by
 have lv:∀ b,s.heap.get? b≠none->s'.heap.get? b≠none:=fun b l=>by
  by_cases w:W b
  ·exact live b w
  ·cases e:s.heap.get? b with
   | none=>exact absurd e l
   | some o=>rw [k b o w e];exact Option.some_ne_none _
 have x:Tr W g s g s':=⟨fun w0 w0 w0 e=>e,fun b o e w0 w=>k b o w e,fun w0 w0 w0 z=>z,fun w0 z=>z,fun a l w=>lv a l,fun b p q=>absurd p q,hg,ho⟩
 refine ⟨x,⟨fun b o e=>k b o (fun w=>?_) (R.base b o e),R.zb,fun a z=>lv a (R.zh a z),R.st,R.dom,fun r i o e=>?_,R.inj⟩⟩
 ·have:=(R.zb b (hw b w).1).1;rw [e] at this;cases this
 ·refine xEEAA (R.obj r i o e) fun a d p q=>?_;exact ⟨a,d,p,OR.kp (x.kp R.st fun b w=>(hw b w).1) (fun ob e=>k d ob (fun w=>(hw d w).2 ⟨r,i,a,p⟩) e) q⟩
theorem Rel.giveUp(R:Rel C g O h)(hw:∀ b,W b->g.Z b/\¬ g.St b)(k:∀ b o,¬ W b->h.get? b=some o->h'.get? b=some o):Kp g h (g.zdel W) h'/\Rel C (g.zdel W) O h':=by
 have x:Kp g h (g.zdel W) h':=⟨fun w0 w0 w0 e=>e,fun a o e z=>k a o (fun w=>z (hw a w).1) e,fun a o w0 z q=>z q.1⟩
 refine ⟨x,⟨fun b o e=>k b o (fun w=>?_) (R.base b o e),fun a z=>R.zb a z.1,fun a z=>?_,fun b p=>⟨R.st b p,fun w=>(hw b w).2 p⟩,R.dom,fun r i o e=>?_,R.inj⟩⟩
 ·have:=(R.zb b (hw b w).1).1;rw [e] at this;cases this
 ·cases e:h.get? a with
  | none=>exact absurd e (R.zh a z.1)
  | some o=>rw [k a o z.2 e];exact Option.some_ne_none _
 ·refine xEEAA (R.obj r i o e) fun a d p q=>?_;exact ⟨a,d,p,OR.kp x (fun ob e=>k d ob (fun w=>(hw d w).2 ⟨r,i,a,p⟩) e) q⟩
theorem Tr.giveUp{g₀:Gh}{s₀:Shared}{O₀:Store}(x:Tr W g₀ s₀ g s)(R0:Rel C g₀ O₀ s₀.heap)(hd:∀ b,W b->s₀.heap.get? b=Option.none)(hp:∀ b,P b->s₀.heap.get? b=Option.none)
  (k:∀ b o,¬ P b->s.heap.get? b=some o->s'.heap.get? b=some o) (hg:s'.gens=s.gens) (ho:s'.os=s.os):Tr (fun w0=>False) g₀ s₀ (g.zdel P) s':=by
 have nw:∀ b,s₀.heap.get? b≠Option.none->¬ W b:=fun b l w=>l (hd b w);have np:∀ b,s₀.heap.get? b≠Option.none->¬ P b:=fun b l w=>l (hp b w);refine ⟨fun r i p e=>x.grow r i p e,fun b o e n w0=>k b o (np b (Uae e)) (x.keep b o e n (nw b (Uae e))),fun a l w0 z=>x.zz a l (nw a l) z.1,fun a z=>⟨x.zk a z,np a (R0.zh a z)⟩,fun a l w0=>?_,fun b p q=>?_,hg.trans x.gens,ho.trans x.os⟩
 ·have l2:=x.live a l (nw a l);cases e:s.heap.get? a with
  | none=>exact absurd e l2
  | some o=>rw [k a o (np a l) e];exact Option.some_ne_none _
 ·rcases x.fresh b p q with z | z
  ·exact .inl z
  ·exact .inl (hd b z)
set_option tactic.hygienic true in
theorem Rel.adopt(R:Rel C g O s.heap){r:Nat}{l:List Ob}{o:Ob}{a d:Addr}(e:O[r]?=some l)(hz:g.Z d)(hs:¬ g.St d)(q:OR C g s.heap o a d) :
  Rel C (g.ext r l.length a d) (O.add r o) s.heap/\∀ W,W d->Tr W g s (g.ext r l.length a d) s:=by
 have hnone:g.ρ r l.length=none:=R.dom _ _ (Store.get_end e);have gr:∀ r' i' p,g.ρ r' i'=some p->(g.ext r l.length a d).ρ r' i'=some p:=fun r' i' p q=>by
  show (if _ then _ else _)=_;split
  ·rename_i z;refine xAA z fun qz1 qz2=>?_;subst qz1;subst qz2;rw [hnone] at q;cases q
  ·exact q
 have zz:∀ b,(g.ext r l.length a d).Z b->g.Z b:=fun b z=>z.elim id fun e=>e▸hz;have kp:Kp g s.heap (g.ext r l.length a d) s.heap:=⟨gr,fun w0 w0 e w0=>e,fun a w0 w0 z q=>z (zz a q)⟩
 refine ⟨⟨R.base,fun b z=>R.zb b (zz b z),fun b z=>R.zh b (zz b z),fun b p=>?_,fun r' i' q=>?_,fun r' i' ob q'=>?_,fun r' i' r'' i'' a' a'' d' p q=>?_⟩,fun W w=>⟨gr,fun b ob q w0 w0=>q,fun b w0 w0 z=>zz b z,fun b z=>.inl z,fun b l w0=>l,fun b p q=>?_,rfl,rfl⟩⟩
 ·refine xEEEA p fun r' i' a' p=>?_;have p:(if r'=r/\i'=l.length then some (a,d) else g.ρ r' i')=some (a',b):=p;split at p
  ·cases p;exact .inr rfl
  ·exact .inl (R.st b ⟨r',i',a',p⟩)
 ·rw [Store.get_add e] at q;split at q
  ·cases q
  ·rename_i z;show (if _ then _ else _)=_;rw [if_neg z];exact R.dom _ _ q
 ·rw [Store.get_add e] at q';split at q'
  ·rename_i z;refine xAA z fun qz1 qz2=>?_;subst qz1;subst qz2;cases q';exact ⟨a,d,by show (if _ then _ else _)=_;rw [if_pos ⟨rfl,rfl⟩],OR.kp kp (fun w0 e=>e) q⟩
  ·rename_i z;refine xEEAA (R.obj _ _ _ q') fun a' d' p' q''=>?_;exact ⟨a',d',gr _ _ _ p',OR.kp kp (fun w0 e=>e) q''⟩
 ·have p:(if r'=r/\i'=l.length then some (a,d) else g.ρ r' i')=some (a',d'):=p;have q:(if r''=r/\i''=l.length then some (a,d) else g.ρ r'' i'')=some (a'',d'):=q;split at p <;> split at q
  ·rename_i z z';exact ⟨z.1.trans z'.1.symm,z.2.trans z'.2.symm⟩
  ·cases p;exact absurd ⟨r'',i'',a'',q⟩ hs
  ·cases q;exact absurd ⟨r',i',a',p⟩ hs
  ·exact R.inj _ _ _ _ _ _ _ p q
 ·refine xEEEA p fun r' i' a' p=>?_;have p:(if r'=r/\i'=l.length then some (a,d) else g.ρ r' i')=some (a',b):=p;split at p
  ·cases p;exact .inr w
  ·exact absurd ⟨r',i',a',p⟩ q
theorem Tr.notSt{b:Addr}(x:Tr W g s g' s')(l:s.heap.get? b≠Option.none)(n:¬ g.St b)(w:¬ W b):¬ g'.St b:=fun q=>by
 rcases x.fresh b q n with z | z
 ·exact l z
 ·exact w z
theorem FR.kp{env:Env}{fr:Fr}(F:FR g h env fr)(x:Kp g h g' h')(hz:∀ a,a=env.locals\/(∃ n,env.cells.lookup n=some a)->g'.Z a/\¬ g'.St a/\∀ o,h.get? a=some o->h'.get? a=some o):FR g' h' env fr:=by
 refine xEAA F.ns fun m qz1 hv=>?_;obtain ⟨o,es,ep,ho,hd,hk,hm⟩:=qz1;refine xAAA (hz _ (.inl rfl)) fun z1 z2 z3=>?_;refine ⟨F.kind,F.glob,F.blt,F.dbg,z1,z2,⟨m,⟨o,es,ep,z3 _ ho,hd,hk,hm⟩,fun y v e k=>?_⟩,fun y v e=>?_,fun y c e=>?_,F.has,F.apart⟩
 ·refine xEAA (hv y v e k) fun u a b=>?_;exact ⟨u,a,VR.kp x v b⟩
 ·rcases F.var y v e with k | ⟨k,c,u,a,⟨oc,hc,hcd⟩,b⟩
  ·exact .inl k
  ·exact .inr ⟨k,c,u,a,⟨oc,(hz c (.inr ⟨y,a⟩)).2.2 _ hc,hcd⟩,VR.kp x v b⟩
 ·refine xAAAEEAA (F.cell y c e) fun z n l u oc hc hcd=>?_;refine xAAA (hz c (.inr ⟨y,e⟩)) fun z1 z2 z3=>?_;exact ⟨z1,z2,l,u,oc,z3 _ hc,hcd⟩
theorem FR.trW{env:Env}{fr:Fr}(F:FR g s.heap env fr)(R:Rel C g O s.heap)(x:Tr W g s g' s')(hw:∀ b,W b->g.Z b)(hn:∀ a,a=env.locals\/(∃ n,env.cells.lookup n=some a)->¬ W a):FR g' s'.heap env fr:=by
 have own:∀ a,a=env.locals\/(∃ n,env.cells.lookup n=some a)->g.Z a/\¬ g.St a:=fun a q=>by
  rcases q with rfl | ⟨n,q⟩
  ·exact ⟨F.zl,F.sl⟩
  ·exact ⟨(F.cell n a q).1,(F.cell n a q).2.1⟩
 refine F.kp (x.kp R.st hw) fun a q=>?_;refine xAA (own a q) fun z n=>?_;exact ⟨x.zk a z,x.notSt (R.zh a z) n (hn a q),fun o e=>x.keep a o e n (hn a q)⟩
end
noncomputable def mkVal:MK->Value
 | .fn f=>.ref f
 | .bi id=>.builtin id.id
structure CallOk(C:Cx)(A:Around)(cl:CC):Prop where
 fn:∀ (a:Addr) (args:List V) (us:List Value) (g:Gh) (O O':Store) (s:Shared) (v:V),Rel C g O s.heap->VRs g s.heap args us->cl a args O=some (v,O')->EvV C A (call (.ref a) us) g O' s v
 cls:∀ (a:Addr) (k:Cls) (args:List V) (us:List Value) (g:Gh) (O O':Store) (s:Shared) (v:V),lkN a C.P.clss=some k->Rel C g O s.heap->VRs g s.heap args us->applyV C.P cl (.fn a) args O=some (v,O') ->
  EvV C A (call (.ref a) us) g O' s v
 keep:∀ (a:Addr) (args:List V) (O:Store) (r:V×Store),cl a args O=some r->keepIn C.K (.ref a)=true
set_option tactic.hygienic true in
theorem Uda{o:Expr}{x:Str}{env:Env}{t:Sem Value}(h:plainBase o=true):attributeBase o x env t=t:=by
 cases o <;> try rfl
 rename_i f args kws p;cases f <;> first | rfl | cases h
section
variable {C:Cx}{A:Around}{cl:CC}{g:Gh}{O O₁ O':Store}{s:Shared}{n d:Nat}{sc:Scope}{fr:Fr}{env:Env}
theorem Uma{P:Prog}{e:Expr}{p:Pos}{r:V×Store}(q:evalE P cl n sc fr (.Starred e p) O=some r):False:=by
 cases n with
 | zero=>exact Uaa q
 | succ n=>exact Uaa q
theorem Uc2{P:Prog}{e:Expr}{rest:List Expr}{r:V×Store}(q:evalE P cl n sc fr e O=some r):starEach (e::rest) env=(false,eval e env)::starEach rest env:=by
 cases e with
 | Starred e' p=>exact (Uma q).elim
 | _=>rfl
theorem Uar{P:Prog}{pos:Pos}:∀ {n:Nat} {es:List Expr} {O:Store} {r:List V×Store},evalEs P cl n sc fr es O=some r->(backTo pos (starEach es env)).any (·.1)=false
 | 0,_,_,_,q=>(Uaa q).elim
 | _+1,[],_,_,_=>rfl
 | n+1,x::es,O,r,q=>by
  refine bndE q fun v O₁ e1 q=>?_;refine bndE q fun ws O₂ e2 q=>?_;rw [Uc2 e1];have:=Uar (pos:=pos) e2;show ((false||(backTo pos (starEach es env)).any (·.1)))=false;rw [this];rfl
theorem Ukn{P:Prog}{pos:Pos}{n:Nat}{es:List Expr}{O:Store}{r:List V×Store}(q:evalEs P cl n sc fr es O=some r):(backTo pos (starEach es env)).all (!·.1)=true:=by
 have:=Uar (pos:=pos) (env:=env) q;rw [List.any_eq_false] at this;rw [List.all_eq_true];intro x hx;have:=this x hx
 simpa using this
theorem Uqe(ih:EvOk C A cl n)(es:List Expr)(vs:List V)(pos:Pos)(S:ES sc env)(F:FR g s.heap env fr)(R:Rel C g O s.heap)
  (e:evalEs C.P cl (n+1) sc fr es O=some (vs,O')):Ev C A (spliced (backTo pos (starEach es env))) g O' s fun g' h' us=>VRs g' h' vs us:=by
 cases es with
 | nil =>
  cases e;exact Ev.ret R (by rfl)
 | cons x r =>
  refine bndE e fun v O₁ e1 e=>?_;refine bndE e fun ws O₂ e2 e=>?_;cases e;rw [Uc2 e1];show Ev C A (spliced ((false,eval x env)::backTo pos (starEach r env))) g O' s _;rw [spliced];refine Ev.bind (ih.ev sc fr x env g O O₁ s v S F R e1) fun u s₁ g₁ t R1 hu=>?_;skip;show Ev C A (holding [u] (spliced (backTo pos (starEach r env))) >>= fun vs=>pure ([u]++vs)) g₁ O' s₁ _;refine Ev.bind (Ev.hold (ih.evs sc fr r env g₁ O₁ O' s₁ ws pos S (F.tr R t) R1 e2)) fun us s₂ g₂ t₂ R2 hus=>?_;exact Ev.ret R2 (by dsimp only [VRs,List.singleton_append];exact ⟨u,us,rfl,hu.tr' R1 t₂,hus⟩)
noncomputable def KeepsF(C:Cx)(f:Value):Prop:=∀ h,C.K.In h->∃ k,(k=Keeper.frame\/k=Keeper.machine\/k=Keeper.boundFrame)/\Looks (model C.prog C.w) h (keeperOf f) k
theorem KeepsF.builtin(id:String):KeepsF C (.builtin id):=fun w0 w0=>⟨.machine,.inr (.inl rfl),.now⟩
theorem KeepsF.type(id:String):KeepsF C (.type id):=fun w0 w0=>⟨.machine,.inr (.inl rfl),.now⟩
theorem KeepsF.bi(id:Bi):KeepsF C (biVal id):=by cases id <;> first | exact .builtin _ | exact .type _
theorem Ev.callWith{p p':Pos}{f:Value}{first:List Value}{args:List Expr}{as:List V}{T:Gh->Heap->Value->Prop}(Fa:Facts C)(hpl:(backTo p (starEach args env)).any (·.1)=false)(hk:KeepsF C f)
  (hev:Ev C A (spliced (backTo p (starEach args env))) g O₁ s (fun g' h' us=>VRs g' h' as us))
  (hcall:∀ us s₁ g₁,Tr (fun w0=>False) g s g₁ s₁->Rel C g₁ O₁ s₁.heap->VRs g₁ s₁.heap as us->Ev C A (call f (first++us)) g₁ O' s₁ T) :
  Ev C A (callWith p' f first (backTo p (starEach args env)) []) g O' s T:=by
 intro pos Q E q;refine callWith_of (P:=fun h=>C.K.In h) (by show ((backTo p (starEach args env)).any (·.1)||false)=false;rw [hpl];rfl) hk ?_;have key:wpAny (model C.prog C.w) A (spliced (backTo p (starEach args env))) (fun vs s'=>C.K.In s'.heap/\wpAny (model C.prog C.w) A (call f (first++vs)) Q E s') E s :=
  wpAny_mono (wpAny_toks_of pos (hev pos (fun us s₁=>0 < s₁.toks->(C.K.In s₁.heap/\wpAny (model C.prog C.w) A (call f (first++us)) Q E s₁)) E fun us s₁ g₁ t R1 hus p' =>
   ⟨Fa.here R1,hcall us s₁ g₁ t R1 hus p' Q E fun a s₂ g₂ t₂ R2 h₂=>q a s₂ g₂ (t.trans t₂) R2 h₂⟩)) (fun w0 w0 x=>x.2 x.1) fun w0 w0 x=>x.2
 cases e:backTo p (starEach args env) with
 | nil =>
  rw [e] at key;delta evalArgs;show wpAny _ A (spliced [] >>= _) _ E s;refine wpAny_bind (wpAny_mono key (fun vs s' h'=>wpAny_bind (wpAny_pure ?_)) fun w0 w0 x=>x);refine wpAny_holding ?_;exact wpAny_bind (wpAny_pure (wpAny_bind (wpAny_pure (wpAny_pure h'))))
 | cons x r =>
  rw [e] at key hpl;obtain ⟨b,t⟩:=x;rw [List.any_cons,Bool.or_eq_false_iff] at hpl;obtain rfl:b=false:=hpl.1;exact evalArgs_plain key
theorem get_fn{x:Str}{f:Addr}{r i:Nat}{c:Addr}{es:List (Str×V)}{k:Cls}{uo:Value}{pl:Sem Bool}(Fa:Facts C)(cf:CF C)(R:Rel C g O s.heap)(ho:VR g s.heap (.ref r i) uo)(e:O.get r i=some (.inst c es))
  (hk:lkN c C.P.clss=some k) (hf:lk x k.meths=some f) (hn:lk x es=none):Ev C A (getMethod uo x pl) g O s fun w0 w0 p=>p=(.ref f,[uo]):=by
 refine xEEEEAAAAAAA (R.inst e ho) fun a d l m qz1 p q1 q2 q3 q4 w0=>?_;subst qz1;have ff:=cf c k hk;have hg:plainGet C.K c x=true:=ff.get;refine xAA (ff.meths x f hf) fun m1 m2=>?_;have hl:getL x l=some none:=(ER.get x q4).2 hn;refine Ev.same R fun Q E q=>method_fn (od:=some (dictOf l m)) (Fa.here R) ⟨q1,rfl,rfl,q3⟩ (plainGet_of hg).1 (plainGet_of hg).2 m1 (beq_iff_eq.mp m2) (by show (lookIn x (dictOf l m)).map _=_;rw [lookIn_dict,hl];rfl) (q _ s.toks rfl)
theorem ifE{α:Type}{c:Prop}[Decidable c]{x:α}{z:Option α}{r:α}{P:Prop}(h:(if c then some x else z)=some r)(k:c->x=r->P)(k2:z=some r->P):P:=by
 by_cases q:c
 ·rw [if_pos q] at h;exact k q (Uab h)
 ·rw [if_neg q] at h;exact k2 h
noncomputable abbrev GmOk(C:Cx)(A:Around)(pl:Sem Bool)(g:Gh)(O:Store)(s:Shared)(uo:Value)(x:Str)(f:Value):Prop:=Ev C A (getMethod uo x pl) g O s fun w0 w0 p=>p=(f,[uo])
theorem mk_str{x y:Str}{t:Tok}{id:Mi}{pl:Sem Bool}(R:Rel C g O s.heap)(h:strM x=some id):GmOk C A pl g O s (.str y t) x (.builtin id.id) :=
 ifE h (fun b e=>by cases e;cases beq_iff_eq.mp b;exact Ev.same R fun Q E q=>GM.join (q _ s.toks rfl))
  fun h=>ifE h (fun b e=>by cases e;cases beq_iff_eq.mp b;exact Ev.same R fun Q E q=>GM.find (q _ s.toks rfl))
  fun h=>ifE h (fun b e=>by cases e;cases beq_iff_eq.mp b;exact Ev.same R fun Q E q=>GM.replace (q _ s.toks rfl)) fun h=>(Uaa h).elim
theorem Uti{x:Str}{a:Addr}{its:Array Value}{n:Nat}{id:Mi}{pl:Sem Bool}(hg:s.heap.get? a=some (lo its n))(R:Rel C g O s.heap)(h:listM x=some id):GmOk C A pl g O s (.ref a) x (.builtin id.id):=by
 have hd:∀ b,Value.ref a=.ref b->∃ o,s.heap.get? b=some o/\o.dict=none:=fun b e=>by cases e;exact ⟨_,hg,rfl⟩
 exact ifE h (fun b e=>by cases e;cases beq_iff_eq.mp b;exact Ev.same R fun Q E q=>getMethod_builtin (VR.isList hg).typeIs PySem.F.plainAttrs_list slot_list_append PySem.F.type_list_append hd (q _ s.toks rfl))
  fun h=>ifE h (fun b e=>by cases e;cases beq_iff_eq.mp b;exact Ev.same R fun Q E q=>getMethod_builtin (VR.isList hg).typeIs PySem.F.plainAttrs_list PySem.F.slot_list_extend PySem.F.type_list_extend hd (q _ s.toks rfl))
  fun h=>ifE h (fun b e=>by cases e;cases beq_iff_eq.mp b;exact Ev.same R fun Q E q=>Copied.getMethod_pop_at hg rfl rfl (q _ s.toks rfl)) fun h=>(Uaa h).elim
theorem Usu{x:Str}{a:Addr}{l:List (Str×Value)}{id:Mi}{pl:Sem Bool}(dO:s.heap.DictOf (strKind C.prog C.w) a l)(R:Rel C g O s.heap)(h:dictM x=some id):GmOk C A pl g O s (.ref a) x (.builtin id.id):=by
 have hd:∀ b,Value.ref a=.ref b->∃ o,s.heap.get? b=some o/\o.dict=none:=dO.mapOf.noDict;exact ifE h (fun b e=>by cases e;cases beq_iff_eq.mp b;exact Ev.same R fun Q E q=>getMethod_builtin dO.typeIs PySem.F.plainAttrs_dict PySem.F.slot_dict_get PySem.F.type_dict_get hd (q _ s.toks rfl))
  fun h=>ifE h (fun b e=>by cases e;cases beq_iff_eq.mp b;exact Ev.same R fun Q E q=>getMethod_builtin dO.typeIs PySem.F.plainAttrs_dict PySem.F.slot_dict_update PySem.F.type_dict_update hd (q _ s.toks rfl)) fun h=>(Uaa h).elim
theorem mapE{α β:Type}{f:α->β}{x:Option α}{r:β}{P:Prop}(e:x.map f=some r)(k:∀ a,x=some a->f a=r->P):P:=xEAA (Option.map_eq_some_iff.mp e) k
theorem Upx{x:Str}{o:V}{uo:Value}{k:MK}{pl:Sem Bool}(Fa:Facts C)(cf:CF C)(R:Rel C g O s.heap)(ho:VR g s.heap o uo)(e:methK C.P o x O=some k):GmOk C A pl g O s uo x (mkVal k):=obE e
 (fun y q e=>mapE e fun id h e=>by cases e;exact str1 (T:=fun uo=>GmOk C A pl g O s uo x (.builtin id.id)) q ho fun t w0 w0=>mk_str R h)
 fun w0 e=>obE e (fun z q e=>mapE e fun id h e=>xEEEAAAAA (R.list (Ua2 q).2 ((Ua2 q).1▸ho)) fun a its m e2 w0 hg w0 w0=>by cases e;cases e2;exact Uti hg R h)
 fun w0 e=>obE e (fun z q e=>mapE e fun id h e=>xEEAAAAA (R.dict (Ubu q).2 ((Ubu q).1▸ho)) fun dd l e2 w0 dO w0 w0=>by cases e;cases e2;exact Usu dO R h)
 fun w0 e=>obS e fun z q e=>obS e fun f hf e=>obE e (fun w0 w0 e=>(Uaa e).elim) fun hn e=>by
  have w:=Uey q;cases e;exact get_fn Fa cf R (w.1▸ho) w.2.1 w.2.2 hf hn
end
section
variable {C:Cx}{A:Around}{cl:CC}{g:Gh}{O O₁ O':Store}{s:Shared}{n d:Nat}{sc:Scope}{fr:Fr}{env:Env}
set_option tactic.hygienic true in
theorem Uog{pos:Pos}{vs:List V}{v:V}{us:List Value}(R:Rel C g O s.heap)(hv:VRs g s.heap vs us)(e:mkList C.P pos vs O=some (v,O')):EvV C A (newList us) g O' s v:=by
 delta mkList at e;split at e
 ·rename_i hl;have hlen:=hv.len;split at e
  ·rename_i r hr;split at e
   ·rename_i l hl';cases e;intro _ Q E q;refine wpAny_newList ?_ (Uai (om15 hl hlen));obtain ⟨t,R'⟩:=R.add (s':={ s with heap:=s.heap.push { cls:=.type "list",data:=.seq us.toArray } }) (r:=r) (o:=.list vs) (a:=s.heap.objs.size) (d:=s.heap.objs.size) hl'
     (fun b o e=>Heap.get?_push_of_some _ e) (Ube _) (Uae (Heap.get?_push_size _ rfl)) R.low rfl rfl fun t =>
     ⟨rfl,us.toArray,0,Heap.get?_push_size _ rfl,VRs.tr t R.st (fun w0 f=>f.elim) _ (by simpa using hv),hl⟩
    refine q _ _ _ t R' ?_;skip;exact ⟨_,_,rfl,by show (if _ then _ else _)=_;rw [if_pos ⟨rfl,rfl⟩]⟩
   ·cases e
  ·cases e;exact Ev.up R fun Q E q=>wpAny_newList (q _ _ (fun b o e=>Heap.get?_push_of_some _ e) rfl rfl (VR.newList (k:=0) R (by simpa using hv) hl)) (Uai (om15 hl hlen))
 ·cases e
theorem Us3{a v:V}{ua:Value}(R:Rel C g O s.heap)(ha:VR g s.heap a ua)(e:negV a=some v):EvV C A (unaryOp .USub ua) g O s v:=by
 delta negV at e;split at e
 ·cases e;dsimp only [VR] at ha;refine xEA ha fun t qz1=>?_;subst qz1;exact Ev.same R fun Q E q=>neg_int (q _ _ VR.mkInt)
 ·cases e
theorem lastMarks1{op:CmpOp}{r:Expr}(h:notSet r=true):behindInMarks op r=false:=by
 cases r <;> first | rfl | cases h
theorem Uh6{P:Prog}{e:Expr}{r:V×Store}(q:evalE P cl n sc fr e O=some r):notSet e=true:=by
 cases e with
 | Set a b c=>cases n <;> exact (Uaa q).elim
 | _=>rfl
theorem Ev.unbool{t:Sem Value}{b:Bool}(h:EvB C A t g O s b):EvV C A t g O s (.bool b):=h.mono fun w0 w0 u e=>by subst e;exact VR.mkBool
theorem Ueg{b:Bool}{u:Value}(R:Rel C g O s.heap)(e:u=.bool b):Ev C A (truthy u) g O s fun w0 w0 c=>c=b:=by
 subst e;exact Ev.same R fun Q E q=>wpAny_truthy_bool (q _ s.toks rfl)
theorem cmp1(Fa:Facts C)(Ro:Room A d)(ih:EvOk C A cl n){op:CmpOp}{l r:Expr}{a b:V}{c:Bool}{pos:Pos}{O₁ O₂:Store}(S:ES sc env)(F:FR g s.heap env fr)(R:Rel C g O s.heap)
  (e1:evalE C.P cl n sc fr l O=some (a,O₁)) (e2:evalE C.P cl n sc fr r O₁=some (b,O₂)) (e3:cmpV op a b O₂=some c) :
  EvB C A (eval (.Compare l [op] [r] pos) env) g O₂ s c/\Ev C A (isTrue (.Compare l [op] [r] pos) env (eval (.Compare l [op] [r] pos) env)) g O₂ s (fun w0 w0 t=>t=c):=by
 have hm:=lastMarks1 (op:=op) (Uh6 e2);have core:∀ {u:Value} {s₁:Shared} {g₁:Gh},Tr (fun w0=>False) g s g₁ s₁->Rel C g₁ O₁ s₁.heap->VR g₁ s₁.heap a u ->
   Ev C A (do let b <- holding [u] (eval r env);standAt pos;operate [u,b] (compareOp op u b)) g₁ O₂ s₁ (fun w0 w0 t=>t=.bool c):=by
  intro u s₁ g₁ t₁ R1 hu;refine Ev.bind (Ev.hold (ih.ev sc fr r env g₁ O₁ O₂ s₁ b S (F.tr R t₁) R1 e2)) fun ub s₂ g₂ t₂ R2 hub=>?_;exact Ev.at_ (Ev.oper (Uf7 Fa Ro R2 (hu.tr' R1 t₂) hub e3))
 constructor
 ·refine Ev.of_eq (eval_Compare1 env l op r pos) ?_;rw [markedBehindIn_of_false hm];exact Ev.bind (ih.ev sc fr l env g O O₁ s a S F R e1) fun u s₁ g₁ t₁ R1 hu=>core t₁ R1 hu
 ·refine Ev.of_eq (isTrue_Compare1 env l op r pos _) ?_;rw [markedBehindIn_of_false hm];refine Ev.bind (ih.ev sc fr l env g O O₁ s a S F R e1) fun u s₁ g₁ t₁ R1 hu=>?_;refine Ev.bind (Ev.hold (ih.ev sc fr r env g₁ O₁ O₂ s₁ b S (F.tr R t₁) R1 e2)) fun ub s₂ g₂ t₂ R2 hub=>?_;refine Ev.at_ (Ev.bind (Ev.oper (Uf7 Fa Ro R2 (hu.tr' R1 t₂) hub e3)) fun uc s₃ g₃ t₃ R3 huc=>?_);exact Ev.hold (Ueg R3 huc)
theorem cmp2(Fa:Facts C)(Ro:Room A d)(ih:EvOk C A cl n){op1 op₂:CmpOp}{l r₁ r₂:Expr}{a b:V}{c e:Bool}{pos:Pos}{O₁ O₂ O₃:Store}(S:ES sc env)(F:FR g s.heap env fr)(R:Rel C g O s.heap)
  (hm:notSet r₂=true) (e1:evalE C.P cl n sc fr l O=some (a,O₁)) (e2:evalE C.P cl n sc fr r₁ O₁=some (b,O₂)) (e3:cmpV op1 a b O₂=some c)
  (e4:if c=true then ∃ v,evalE C.P cl n sc fr r₂ O₂=some (v,O₃)/\cmpV op₂ b v O₃=some e else O₃=O₂/\e=false) :
  EvB C A (eval (.Compare l [op1,op₂] [r₁,r₂] pos) env) g O₃ s e/\Ev C A (isTrue (.Compare l [op1,op₂] [r₁,r₂] pos) env (eval (.Compare l [op1,op₂] [r₁,r₂] pos) env)) g O₃ s (fun w0 w0 t=>t=e):=by
 have hl:lastMarks [op1,op₂] [r₁,r₂]=false:=lastMarks1 (op:=op₂) hm;have last:∀ {u:Value} {s₁:Shared} {g₁:Gh} {v:V},Tr (fun w0=>False) g s g₁ s₁->Rel C g₁ O₂ s₁.heap->VR g₁ s₁.heap b u->evalE C.P cl n sc fr r₂ O₂=some (v,O₃)->cmpV op₂ b v O₃=some e ->
   Ev C A (do let b <- holding [u] (eval r₂ env);standAt pos;operate [u,b] (compareOp op₂ u b)) g₁ O₃ s₁ (fun w0 w0 t=>t=.bool e):=by
  intro u s₁ g₁ v t₁ R1 hu q1 q2;refine Ev.bind (Ev.hold (ih.ev sc fr r₂ env g₁ O₂ O₃ s₁ v S (F.tr R t₁) R1 q1)) fun ub s₂ g₂ t₂ R2 hub=>?_;exact Ev.at_ (Ev.oper (Uf7 Fa Ro R2 (hu.tr' R1 t₂) hub q2))
 constructor
 ·have eq:eval (.Compare l [op1,op₂] [r₁,r₂] pos) env=(eval l env >>= fun a=>do
    let rv <- holding [a] (eval r₁ env)
    standAt pos
    let c <- holding [a,rv] (compareOp op1 a rv)
    release [a,rv] [c]
    if <- holding [c,rv] (truthy c) then (do let b <- holding [rv] (eval r₂ env);standAt pos;operate [rv,b] (compareOp op₂ rv b)) else pure c):=by
   rw [arm_eval_Compare,markedEach_of_false _ _ _ hl];rfl
  refine Ev.of_eq eq (Ev.bind (ih.ev sc fr l env g O O₁ s a S F R e1) fun u s₁ g₁ t₁ R1 hu=>?_);refine Ev.bind (Ev.hold (ih.ev sc fr r₁ env g₁ O₁ O₂ s₁ b S (F.tr R t₁) R1 e2)) fun ub s₂ g₂ t₂ R2 hub=>?_;refine Ev.at_ (Ev.bind (Ev.hold (Uf7 Fa Ro R2 (hu.tr' R1 t₂) hub e3)) fun uc s₃ g₃ t₃ R3 huc=>?_);refine Ev.rel (Ev.bind (Ev.hold (Ueg R3 huc)) fun t s₄ g₄ t4 R4 ht=>?_);subst ht;cases t with
  | true =>
   simp only [if_true] at e4;refine xEAA e4 fun v q1 q2=>?_;exact last (t₁.trans (t₂.trans (t₃.trans t4))) R4 ((hub.tr' R2 t₃).tr' R3 t4) q1 q2
  | false =>
   simp only [Bool.false_eq_true,if_false] at e4;refine xAA e4 fun qz1 qz2=>?_;subst qz1;subst qz2;exact Ev.ret R4 huc
 ·have eq:isTrue (.Compare l [op1,op₂] [r₁,r₂] pos) env (eval (.Compare l [op1,op₂] [r₁,r₂] pos) env)=(eval l env >>= fun a=>do
    let rv <- holding [a] (eval r₁ env)
    standAt pos
    let c <- holding [a,rv] (compareOp op1 a rv)
    release [a,rv] [c]
    if <- holding [c,rv] (truthy c) then (do let b <- holding [rv] (eval r₂ env);standAt pos;let c <- operate [rv,b] (compareOp op₂ rv b);holding [c] (truthy c)) else pure false):=by
   rw [arm_isTrue_Compare,markedEach_of_false _ _ _ hl];rfl
  refine Ev.of_eq eq (Ev.bind (ih.ev sc fr l env g O O₁ s a S F R e1) fun u s₁ g₁ t₁ R1 hu=>?_);refine Ev.bind (Ev.hold (ih.ev sc fr r₁ env g₁ O₁ O₂ s₁ b S (F.tr R t₁) R1 e2)) fun ub s₂ g₂ t₂ R2 hub=>?_;refine Ev.at_ (Ev.bind (Ev.hold (Uf7 Fa Ro R2 (hu.tr' R1 t₂) hub e3)) fun uc s₃ g₃ t₃ R3 huc=>?_);refine Ev.rel (Ev.bind (Ev.hold (Ueg R3 huc)) fun t s₄ g₄ t4 R4 ht=>?_);subst ht;cases t with
  | true =>
   simp only [if_true] at e4;refine xEAA e4 fun v q1 q2=>?_;have t':=t₁.trans (t₂.trans (t₃.trans t4));refine Ev.bind (Ev.hold (ih.ev sc fr r₂ env g₄ O₂ O₃ s₄ v S (F.tr R t') R4 q1)) fun ub' s5 g5 t₅ R5 hub'=>?_;refine Ev.at_ (Ev.bind (Ev.oper (Uf7 Fa Ro R5 (((hub.tr' R2 t₃).tr' R3 t4).tr' R4 t₅) hub' q2)) fun uc' s6 g6 t₆ R6 huc'=>?_);exact Ev.hold (Ueg R6 huc')
  | false =>
   simp only [Bool.false_eq_true,if_false] at e4;refine xAA e4 fun qz1 qz2=>?_;subst qz1;subst qz2;exact Ev.ret R4 rfl
theorem Ufw{P:Prog}{pos:Pos}:∀ {n:Nat} {ks:List (Option Expr)} {es:List Expr} {O:Store} {r:List (Str×V)×Store},pairsE P cl n sc fr ks es O=some r ->
  (evalEachOpt ks env).zip ((evalEach es env).map fun v=>do let x <- v;standAt pos;pure x)=(pairsOf ks es env pos).map (fun p=>(some p.1,p.2))/\(pairsOf ks es env pos).length=ks.length/\r.1.length=ks.length
 | 0,_,_,_,_,q=>(Uaa q).elim
 | _+1,[],[],_,_,q=>by cases q;exact ⟨rfl,rfl,rfl⟩
 | n+1,some k::ks,e::es,O,r,q=>by
  refine bndE q fun kv O₁ e1 q=>?_;cases kv with
  | str x =>
   refine bndE q fun v O₂ e2 q=>?_;refine bndE q fun l O₃ e3 q=>?_;cases q;refine xAAA (Ufw (pos:=pos) e3) fun a b c=>?_;refine ⟨?_,congrArg (·+1) b,congrArg (·+1) c⟩;exact congrArg (List.cons _) a
  | _=>exact (Uaa q).elim
 | _+1,none::_,[],_,_,q=>(Uaa q).elim
 | _+1,none::_,_::_,_,_,q=>(Uaa q).elim
 | _+1,some _::_,[],_,_,q=>(Uaa q).elim
 | _+1,[],_::_,_,_,q=>(Uaa q).elim
theorem Ukq(ih:EvOk C A cl n)(ks:List (Option Expr))(es:List Expr)(l:List (Str×V))(pos:Pos)(S:ES sc env)(F:FR g s.heap env fr)(R:Rel C g O s.heap)
  (e:pairsE C.P cl (n+1) sc fr ks es O=some (l,O')):Ev C A (evalPairs (pairsOf ks es env pos)) g O' s fun g' h' us=>∃ kvs,Carries (strKind C.prog C.w) us kvs/\PR g' h' l kvs:=by
 match ks,es,e with
 | [],[],e =>
  cases e;exact Ev.ret R ⟨[],trivial,by simp [PR]⟩
 | some k::ks,x::es,e =>
  refine bndE e fun kv O₁ e1 e=>?_;cases kv with
  | str kx =>
   refine bndE e fun v O₂ e2 e=>?_;refine bndE e fun m O₃ e3 e=>?_;cases e;rw [pairsOf,evalPairs];refine Ev.bind (ih.ev sc fr k env g O O₁ s _ S F R e1) fun uk s₁ g₁ t₁ R1 huk=>?_;refine Ev.bind (Ev.hold (Ev.bind (T':=fun g' h' u=>VR g' h' v u) (ih.ev sc fr x env g₁ O₁ O₂ s₁ v S (F.tr R t₁) R1 e2) fun ux s₂ g₂ t₂ R2 hux=>Ev.at_ (Ev.ret R2 hux))) fun ux s₂ g₂ t₂ R2 hux=>?_;refine Ev.bind (Ev.hold (ih.pairs sc fr ks es env g₂ O₂ O' s₂ m pos S ((F.tr R t₁).tr R1 t₂) R2 e3)) fun us s₃ g₃ t₃ R3 hus=>?_;refine xEAA hus fun kvs hc hp=>?_;have huk':=(huk.tr' R1 t₂).tr' R2 t₃;dsimp only [VR] at huk';refine xEAA huk' fun t qz1 w0=>?_;subst qz1;exact Ev.ret R3 ⟨(kx,ux)::kvs,⟨strKind_is _ _ kx t,rfl,hc⟩,by dsimp only [PR];exact ⟨ux,kvs,rfl,hux.tr' R2 t₃,hp⟩⟩
  | _=>exact (Uaa e).elim
 | none::_,[],e=>exact (Uaa e).elim
 | none::_,_::_,e=>exact (Uaa e).elim
 | some _::_,[],e=>exact (Uaa e).elim
 | [],_::_,e=>exact (Uaa e).elim
end
end Mine
end
section
open PySem PySem.Calls PyProof.Rows PySem.W
set_option backward.match.sparseCases true
namespace Mine
section
variable {C:Cx}{A:Around}{cl:CC}{g:Gh}{O O₁ O':Store}{s:Shared}{n d:Nat}{sc:Scope}{fr:Fr}{env:Env}
set_option tactic.hygienic true in
theorem Uta(ih:EvOk C A cl n){ks:List (Option Expr)}{es:List Expr}{pos:Pos}{v:V}{l:List (Str×V)}(S:ES sc env)(F:FR g s.heap env fr)(R:Rel C g O s.heap)
  (h15:ks.length<=15/\0 < ks.length) (e1:pairsE C.P cl n sc fr ks es O=some (l,O₁)) (e2:mkDict C.P pos l O₁=some (v,O')):EvV C A (eval (.Dict ks es pos) env) g O' s v:=by
 delta mkDict at e2;split at e2
 ·rename_i r hr;split at e2
  ·rename_i ob hob;cases e2;refine xAAA (Ufw (env:=env) (pos:=pos) e1) fun sh ln ll=>?_;have D0:(s.heap.push { cls:=.type "dict",data:=.dict #[] }).DictOf (strKind C.prog C.w) s.heap.objs.size []:=Heap.DictOf.new ..;intro p Q E q;obtain ⟨t₁,R1⟩:=R.zadd (s':={ s with heap:=s.heap.push { cls:=.type "dict",data:=.dict #[] } }) (fun a=>a=s.heap.objs.size) (fun b o e=>Heap.get?_push_of_some _ e)
    (fun a e=>by subst e;exact ⟨Ube _,Uae (Heap.get?_push_size _ rfl),R.low⟩) rfl rfl
   have nst:¬ (g.zadd (fun a=>a=s.heap.objs.size)).St s.heap.objs.size:=fun z=>R.zh _ (R.st _ z) (Ube _);refine wpAny_Dict_pairs (knd:=strKind C.prog C.w) sh (by intro z;rw [z] at ln;simp at ln;omega) (ln▸h15.1) ?_;refine wpAny_mono (wpAny_toks_of p (ih.pairs sc fr ks es env _ O O₁ _ l pos S (F.tr R t₁) R1 e1 p (fun us s₂=>∃ kvs,Carries (strKind C.prog C.w) us kvs/\s₂.heap.DictOf (strKind C.prog C.w) s.heap.objs.size [] /\
    ∀ h',h'.DictOf (strKind C.prog C.w) s.heap.objs.size (merged [] kvs)->Heap.SameBut s.heap.objs.size s₂.heap h'->Q (.ref s.heap.objs.size) { s₂ with heap:=h',toks:=s₂.toks+us.length }) E fun us s₂ g₂ t₂ R2 hus=>?_))
    (fun w0 w0 x=>x.2) fun w0 w0 x=>x.2
   refine xEAA hus fun kvs hc hp=>?_;refine ⟨kvs,hc,?_,fun h' dO sb=>?_⟩
   ·refine xEEEAA D0 fun o es' ep ho r'=>?_;exact ⟨o,es',ep,t₂.keep _ _ ho nst (fun f=>f),r'⟩
   ·have hz2:g₂.Z s.heap.objs.size:=t₂.zk _ (.inr rfl);have nst2:¬ g₂.St s.heap.objs.size:=fun z=>by
     rcases t₂.fresh _ z nst with w | w
     ·have:(s.heap.push { cls:=.type "dict",data:=.dict #[] }).get? s.heap.objs.size=none:=w;rw [Heap.get?_push_size _ rfl] at this;cases this
     ·exact w
    rw [Udx (by simp)] at dO;obtain ⟨t₃,R3⟩:=R2.write (W:=fun a=>a=s.heap.objs.size) (s':={ s₂ with heap:=h',toks:=s₂.toks+us.length }) (fun b e=>by subst e;exact ⟨hz2,nst2⟩) (fun b o w e=>(sb.2 b w).trans e)
     (fun b e=>by subst e;exact DictOf.live dO) rfl rfl
    have hpl:=hp.len;obtain ⟨R4,t4⟩:=R3.adopt (s:={ s₂ with heap:=h',toks:=s₂.toks+us.length }) (r:=r) (o:=.dict (updD [] l)) (a:=s.heap.objs.size) hob hz2 nst2
     ⟨rfl,_,dO,PR.tr t₃ R2.st (fun b e=>by subst e;exact hz2) _ (PR.upd (by rfl) hp),by
      have h1:=Ucn l ([]:List (Str×V));have h2:l.length=ks.length:=ll;have:lim=1000000:=rfl;delta updD;dsimp only [List.length_nil] at h1;exact om304 h15 ln ll h1 h2 this⟩
    have t:=((t₁.none (W:=fun a=>a=s.heap.objs.size)).trans (t₂.none.trans (t₃.trans (t4 (fun a=>a=s.heap.objs.size) rfl)))).weak (W':=fun w0=>False) fun b l w=>by subst w;exact l (Ube _)
    refine q _ _ _ t R4 ?_;skip;exact ⟨_,_,rfl,by show (if _ then _ else _)=_;rw [if_pos ⟨rfl,rfl⟩]⟩
  ·cases e2
 ·cases e2
theorem Une(ih:EvOk C A cl n){op:BoolOp}{es:List Expr}{pos:Pos}{v:V}(S:ES sc env)(F:FR g s.heap env fr)(R:Rel C g O s.heap)
  (e:boolE C.P cl (n+1) sc fr op es O=some (v,O')):EvV C A (eval (.BoolOp op es pos) env) g O' s v:=by
 match es,e with
 | [],e=>exact (Uaa e).elim
 | [x],e =>
  exact ih.ev sc fr x env g O O' s v S F R e
 | x::y::r,e =>
  ·refine bndE e fun a O₁ e1 e=>?_;refine bndE e fun b O₂ e2 e=>?_;refine xAA (Uc4 e2) fun e2' qz1=>?_;subst qz1;have eq:eval (.BoolOp op (x::y::r) pos) env=(eval x env >>= fun v=>do
    standAt pos
    let t <- holding [v] (truthy v)
    match op,t with
    | .And,false | .Or,true=>pure v
    | _,_=>eval (.BoolOp op (y::r) pos) env):=rfl
   refine Ev.of_eq eq (Ev.bind (ih.ev sc fr x env g O _ s a S F R e1) fun u s₁ g₁ t₁ R1 hu=>Ev.at_ (Ev.bind (Ev.hold (isT_ok R1 hu e2')) fun t s₂ g₂ t₂ R2 ht=>?_));subst ht;have next:boolE C.P cl n sc fr op (y::r) O₁=some (v,O')->EvV C A (eval (.BoolOp op (y::r) pos) env) g₂ O' s₂ v:=fun q=>ih.bool sc fr op (y::r) env g₂ O₁ O' s₂ v pos S ((F.tr R t₁).tr R1 t₂) R2 q;cases op <;> cases t
   ·cases e;exact Ev.ret R2 (hu.tr' R1 t₂)
   ·exact next e
   ·exact next e
   ·cases e;exact Ev.ret R2 (hu.tr' R1 t₂)
theorem Ukt(ih:EvOk C A cl n){op:BoolOp}{es:List Expr}{b:Bool}(S:ES sc env)(F:FR g s.heap env fr)(R:Rel C g O s.heap)
  (e:testsE C.P cl (n+1) sc fr op es O=some (b,O')):Ev C A (allTrue op es env) g O' s fun w0 w0 c=>c=b:=by
 match es,e with
 | [],e =>
  cases e;exact Ev.of_eq (arm_allTrue_nil op env) (Ev.ret R rfl)
 | x::r,e =>
  refine bndE e fun c O₁ e1 e=>?_;have eq:allTrue op (x::r) env=(isTrue x env (eval x env) >>= fun t=>match op,t with
   | .And,false=>pure false
   | .Or,true=>pure true
   | _,_=>allTrue op r env):=rfl
  refine Ev.of_eq eq (Ev.bind (ih.test sc fr x env g O O₁ s c S F R e1) fun t s₁ g₁ t₁ R1 ht=>?_);subst ht;have next:testsE C.P cl n sc fr op r O₁=some (b,O')->Ev C A (allTrue op r env) g₁ O' s₁ (fun w0 w0 c=>c=b):=fun q=>ih.tests sc fr op r env g₁ O₁ O' s₁ b S (F.tr R t₁) R1 q;cases op <;> cases t
  ·cases e;exact Ev.ret R1 rfl
  ·exact next e
  ·exact next e
  ·cases e;exact Ev.ret R1 rfl
theorem Up9(ih:EvOk C A cl n){e:Option Expr}{v:Option V}(S:ES sc env)(F:FR g s.heap env fr)(R:Rel C g O s.heap)
  (q:optE C.P cl (n+1) sc fr e O=some (v,O')):Ev C A (evalPart e env) g O' s fun g' h' u=>OVR g' h' v u:=by
 cases e with
 | none =>
  cases q;exact Ev.of_eq (evalPart_none env) (Ev.ret R rfl)
 | some e =>
  refine bndE q fun a O₁ e1 q=>?_;cases q;exact Ev.of_eq (evalPart_some e env) (ih.ev sc fr e env g O O' s a S F R e1)
theorem Um9(Fa:Facts C)(Ro:Room A d)(ih:EvOk C A cl n){e:Expr}{b:Bool}(S:ES sc env)(F:FR g s.heap env fr)(R:Rel C g O s.heap)
  (q:testE C.P cl (n+1) sc fr e O=some (b,O')):Ev C A (isTrue e env (eval e env)) g O' s fun w0 w0 c=>c=b:=by
 rcases Un7 e with ⟨x,p,rfl⟩ | ⟨op,es,p,rfl⟩ | ⟨l,ops,rs,p,z,rfl,hz⟩ | hb | ⟨hp,he⟩
 ·refine bndE q fun c O₁ e1 q=>?_;cases q;refine Ev.of_eq (arm_isTrue_UnaryOp x p env _) (Ev.bind (ih.test sc fr x env g O O' s c S F R e1) fun t s₁ g₁ t₁ R1 ht=>?_);subst ht;exact Ev.ret R1 rfl
 ·exact Ev.of_eq (arm_isTrue_BoolOp op es p env _) (ih.tests sc fr op es env g O O' s b S F R q)
 ·rcases Uoy hz with ⟨op,r,rfl,rfl,rfl⟩ | ⟨op1,op₂,r₁,r₂,rfl,rfl,rfl⟩
  ·refine bndE q fun a O₁ e1 q=>?_;refine bndE q fun c O₂ e2 q=>?_;refine bndE q fun t O₃ e3 q=>?_;refine xAA (Uap e3) fun e3' qz1=>?_;subst qz1;cases q;exact (cmp1 Fa Ro ih S F R e1 e2 e3').2
  ·refine bndE q fun a O₁ e1 q=>?_;refine bndE q fun c O₂ e2 q=>?_;refine bndE q fun t O₃ e3 q=>?_;refine xAA (Uap e3) fun e3' qz1=>?_;subst qz1;rcases Ua7 q with ⟨ht,q⟩ | ⟨ht,q⟩
   ·rcases Ua7 q with ⟨hn,q⟩ | ⟨_,q⟩
    ·refine bndE q fun v O₄ e4 q=>?_;refine xAA (Uap q) fun q' qz1=>?_;subst qz1;exact (cmp2 Fa Ro ih S F R hn e1 e2 e3' (by rw [if_pos ht];exact ⟨v,e4,q'⟩)).2
    ·exact (Uaa q).elim
   ·rcases Ua7 q with ⟨hn,q⟩ | ⟨_,q⟩
    ·cases q;exact (cmp2 Fa Ro ih S F R hn e1 e2 e3' (by rw [if_neg ht];exact ⟨rfl,rfl⟩)).2
    ·exact (Uaa q).elim
 ·exact (Ur5 q hb).elim
 ·refine xEEAA (Uqf (Uoe q hp)) fun a O₁ e1 q=>?_;refine xAA (Uc4 q) fun e2' qz1=>?_;subst qz1;exact Ev.of_eq (he _ _) (Ev.bind (ih.ev sc fr e env g O _ s a S F R e1) fun u s₁ g₁ t₁ R1 hu=>Ev.at_ (Ev.hold (isT_ok R1 hu e2')))
end
end Mine
end
section
open PySem PySem.Calls PyProof.Rows PySem.W
namespace Mine
section
variable {C:Cx}{A:Around}{cl:CC}{g:Gh}{O O₁ O':Store}{s:Shared}{n d:Nat}{sc:Scope}{fr:Fr}{env:Env}
theorem Ukz(ih:EvOk C A cl n){o lo hi st:Option Expr}{e:Expr}{p pos:Pos}{v ov:V}{a b c:Option V}{O₁ O₂ O₃ O₄:Store}(S:ES sc env)(F:FR g s.heap env fr)(R:Rel C g O s.heap)
  (e1:evalE C.P cl n sc fr e O=some (ov,O₁)) (e2:optE C.P cl n sc fr lo O₁=some (a,O₂)) (e3:optE C.P cl n sc fr hi O₂=some (b,O₃))
  (hst:∀ (g₁:Gh) (s₁:Shared),Tr (fun w0=>False) g s g₁ s₁->Rel C g₁ O₃ s₁.heap->Ev C A (evalPart st env) g₁ O₄ s₁ fun g' h' u=>OVR g' h' c u)
  (fin:∀ (uo ul uh us:Value) (ad:Addr) (g₁:Gh) (s₁:Shared) (sl:Expr),Rel C g₁ O₄ s₁.heap->VR g₁ s₁.heap ov uo->OVR g₁ s₁.heap a ul->OVR g₁ s₁.heap b uh->OVR g₁ s₁.heap c us ->
   s₁.heap.get? ad=some { cls:=.type "slice",data:=.fields #[ul,uh,us] }->EvV C A (subscriptTail e sl uo (.ref ad)) g₁ O₄ s₁ v) :
  EvV C A (eval (.Subscript e (.Slice lo hi st p) pos) env) g O₄ s v:=by
 have ot:∀ {o:Option V} {u:Value} {g₁ g₂:Gh} {s₁ s₂:Shared} {O₁:Store},OVR g₁ s₁.heap o u->Rel C g₁ O₁ s₁.heap->Tr (fun w0=>False) g₁ s₁ g₂ s₂->OVR g₂ s₂.heap o u:=by
  intro o u g₁ g₂ s₁ s₂ O₁ h R t;cases o with
  | none=>exact h
  | some v=>exact VR.tr' h R t
 have eq:eval (.Subscript e (.Slice lo hi st p) pos) env=(eval e env >>= fun o=>holding [o] (eval (.Slice lo hi st p) env) >>= fun i=>standAt pos >>= fun w0=>subscriptTail e (.Slice lo hi st p) o i):=rfl;refine Ev.of_eq eq (Ev.bind (ih.ev sc fr e env g O O₁ s ov S F R e1) fun uo s₁ g₁ t₁ R1 huo=>?_);have sl:Ev C A (eval (.Slice lo hi st p) env) g₁ O₄ s₁ (fun g' h' i=>∃ ul uh us ad,i=.ref ad/\h'.get? ad=some { cls:=.type "slice",data:=.fields #[ul,uh,us] }/\VR g' h' ov uo/\OVR g' h' a ul/\OVR g' h' b uh/\OVR g' h' c us):=by
  have eq2:eval (.Slice lo hi st p) env=(evalPart lo env >>= fun l=>holding [l] (evalPart hi env) >>= fun u=>holding [l,u] (evalPart st env) >>= fun x=>newFields "slice" [l,u,x]):=by
   rw [arm_eval_Slice];cases lo <;> cases hi <;> cases st <;> rfl
  refine Ev.of_eq eq2 (Ev.bind (ih.opt sc fr lo env g₁ O₁ O₂ s₁ a S (F.tr R t₁) R1 e2) fun ul s₂ g₂ t₂ R2 hul=>?_);have F2:=(F.tr R t₁).tr R1 t₂;refine Ev.bind (Ev.hold (ih.opt sc fr hi env g₂ O₂ O₃ s₂ b S F2 R2 e3)) fun uh s₃ g₃ t₃ R3 huh=>?_;refine Ev.bind (Ev.hold (hst g₃ s₃ (t₁.trans (t₂.trans t₃)) R3)) fun us s₄ g₄ t4 R4 hus=>?_;refine Ev.up R4 fun Q E q=>wpAny_newObj_type ?_;have k:∀ b o,s₄.heap.get? b=some o->(s₄.heap.push { cls:=.type "slice",data:=.fields [ul,uh,us].toArray }).get? b=some o:=fun b o e=>Heap.get?_push_of_some _ e;have tt:Tr (fun w0=>False) g₄ s₄ g₄ { s₄ with heap:=s₄.heap.push { cls:=.type "slice",data:=.fields [ul,uh,us].toArray } }:=Tr.grown k rfl rfl;exact q _ _ k rfl rfl ⟨ul,uh,us,_,rfl,Heap.get?_push_size _ rfl,(((huo.tr' R1 t₂).tr' R2 t₃).tr' R3 t4).tr' R4 tt,ot (ot (ot hul R2 t₃) R3 t4) R4 tt,ot (ot huh R3 t4) R4 tt,ot hus R4 tt⟩
 refine Ev.bind (Ev.hold sl) fun i s₂ g₂ t₂ R2 hi=>?_;refine xEEEEAAAAAA hi fun ul uh us ad qz1 ha h1 h2 h3 h4=>?_;subst qz1;exact Ev.at_ (fin uo ul uh us ad g₂ s₂ _ R2 h1 h2 h3 h4 ha)
theorem Umv{x:Expr}{a:Str}(e:cstS x=some a):∃ k p,x=.Constant (.str a) k p:=by
 cases x with
 | Constant c k p=>cases c with
  | str b=>cases e;exact ⟨_,_,rfl⟩
  | _=>cases e
 | _=>cases e
theorem replE{ov:V}{args:List Expr}{r:V×Store}{P:Prop}(e:replV ov args O=some r)(k:∀ z k1 p1 k2 p2 a b,strO ov=some z->args=[.Constant (.str a) k1 p1,.Constant (.str b) k2 p2] ->
  (if b.length<=14/\(a==b)=false/\(Txt.replace z a b).cps.all (· < 0x110000)=true/\(Txt.replace z a b).length<=lim then ret (V.str (Txt.replace z a b)) else fail) O=some r->P):P :=
 obM e fun z hz e=>obM e fun w hw e=>obM e fun a ha e=>obM e fun b hb e=>xEEA (Umv ha) fun k1 p1 h1=>xEEA (Umv hb) fun k2 p2 h2=>k z k1 p1 k2 p2 a b hz (by rw [twoE hw,h1,h2]) e
theorem Utt{x:Str}{ov:V}{uo:Value}{args:List Expr}{pos:Pos}{v:V}(R:Rel C g O s.heap)(ho:VR g s.heap ov uo)(e:replV ov args O=some (v,O')) :
  EvV C A (callWith pos (.builtin "str.replace") [uo] (backTo pos (starEach args env)) []) g O' s v:=replE e fun z k1 p1 k2 p2 a b hz e2 e=>iteM e fun hc e=>by
 cases e;cases e2;refine str1 (T:=fun uo=>EvV C A (callWith pos (.builtin "str.replace") [uo] _ []) g O s (.str (Txt.replace z a b))) hz ho fun t w0 l1=>?_;intro p Q E q;have hlim:lim<=1048576:=by decide
 refine callWith_of (P:=fun w0=>True) rfl (fun w0 w0=>⟨.machine,.inr (.inl rfl),.now⟩) (evalArgs_plain (spliced_cons (Constant_str (k:=k1) (pos:=p1) (spliced_cons (Constant_str (k:=k2) (pos:=p2) (spliced_nil ⟨trivial,?_⟩))))));exact SC.replaceW (by show s.toks≠0;exact Nat.ne_zero_of_lt p) (Nat.succ_ne_zero _) (Nat.ne_of_lt (Nat.lt_succ_self _)) hc.2.1 (Nat.le_trans l1 hlim) hc.1 fun t' k=>q _ _ g (Tr.tok k) R (VR.mkStr hc.2.2.1 hc.2.2.2)
theorem kwNil(pos:Pos):backToKw pos (keywordEach [] env)=[]:=rfl
theorem Ugt{ov:V}{args:List Expr}{r:V×Store}{pos:Pos}(e:replV ov args O=some r):(backTo pos (starEach args env)).all (!·.1)=true:=replE e fun w0 w0 w0 w0 w0 w0 w0 w0 q w0=>by cases q;rfl
theorem Un8{o:Expr}{x:Str}{ap pos:Pos}{args:List Expr}(hc:callOk o args ap pos=true)(hall:(backTo pos (starEach args env)).all (!·.1)=true) :
  eval (.Call (.Attribute o x ap) args [] pos) env=(eval o env >>= fun ov=>standAt ap.atName >>= fun w0=>holding [ov] (getMethod ov x (do return (<- importBound o env).getD true)) >>= fun p=>callWith pos p.1 p.2 (backTo pos (starEach args env)) []):=by
 have hc:=Bool.and_eq_true_iff.mp hc;have hd:=Bool.and_eq_true_iff.mp hc.1;have few:methodCallForm (args.length+([]:List Keyword).length) (backTo pos (starEach args env)) (backToKw pos (keywordEach [] env))=true:=by
  have hlen:=of_decide_eq_true hd.2;delta methodCallForm;rw [kwNil,hall];simp only [List.all_nil,Bool.and_self,List.isEmpty_nil,if_true,Bool.true_and,decide_eq_true_eq,List.length_nil]
  omega
 rw [arm_eval_Call,Uda hd.1];delta methodCall;rw [few];delta calleeOf methodCallPos;simp only [if_true,Bool.not_true,Bool.false_or,hc.2,pure_bind,kwNil]
theorem Uth(Fa:Facts C)(cf:CF C)(Ro:Room A d)(co:CallOk C A cl)(ih:EvOk C A cl n){o:Expr}{x:Str}{ap pos:Pos}{args:List Expr}{v:V}(S:ES sc env)(F:FR g s.heap env fr)(R:Rel C g O s.heap)
  (e:evalE C.P cl (n+1) sc fr (.Call (.Attribute o x ap) args [] pos) O=some (v,O')):EvV C A (eval (.Call (.Attribute o x ap) args [] pos) env) g O' s v:=iteM e fun hc e=>bndE e fun ov O₁ e1 e=>bndL e fun k e2 e=>by
 have main:∀ (hall:(backTo pos (starEach args env)).all (!·.1)=true),(∀ (uo:Value) (s₁:Shared) (g₁:Gh),Tr (fun w0=>False) g s g₁ s₁->Rel C g₁ O₁ s₁.heap->VR g₁ s₁.heap ov uo ->
   EvV C A (callWith pos (mkVal k) [uo] (backTo pos (starEach args env)) []) g₁ O' s₁ v)->EvV C A (eval (.Call (.Attribute o x ap) args [] pos) env) g O' s v:=fun hall h=>by
  refine Ev.of_eq (Un8 hc hall) (Ev.bind (ih.ev sc fr o env g O O₁ s ov S F R e1) fun uo s₁ g₁ t₁ R1 huo=>?_);refine Ev.at_ (Ev.bind (Ev.hold (Upx Fa cf R1 huo e2)) fun p s₂ g₂ t₂ R2 hp=>?_);subst hp;exact h uo s₂ g₂ (t₁.trans t₂) R2 (huo.tr' R1 t₂)
 rcases Ua7 e with ⟨hr,e⟩ | ⟨_,e⟩
 ·cases k with
  | fn f=>cases hr
  | bi id=>cases id <;> first | exact main (Ugt e) fun uo s₁ g₁ t₁ R1 huo=>Utt (x:=x) R1 huo e | cases hr
 ·refine bndE e fun as O₃ e3 e=>main (Ukn e3) fun uo s₁ g₁ t₁ R1 huo=>?_;refine Ev.callWith Fa (Uar e3) ?_ (ih.evs sc fr args env g₁ _ O₃ s₁ as pos S (F.tr R t₁) R1 e3) fun us s₂ g₂ t₂ R2 hus=>?_
  ·cases k with
   | bi id=>exact KeepsF.builtin id.id
   | fn f=>exact keeps_K (co.keep f _ _ _ e)
  ·have huo':=huo.tr' R1 t₂;cases k with
   | bi id=>exact Urk Fa Ro R2 huo' hus e
   | fn f=>exact co.fn f (ov::as) (uo::us) g₂ _ O' s₂ v R2 ⟨uo,us,rfl,huo',hus⟩ e
theorem Urs(Fa:Facts C)(cf:CF C)(Ro:Room A d)(co:CallOk C A cl)(ih:EvOk C A cl n){f:Str}{q pos:Pos}{args:List Expr}{v:V}(S:ES sc env)(F:FR g s.heap env fr)(R:Rel C g O s.heap)
  (e:evalE C.P cl (n+1) sc fr (.Call (.Name f q) args [] pos) O=some (v,O')):EvV C A (eval (.Call (.Name f q) args [] pos) env) g O' s v:=iteM e fun w0 e=>bndE e fun fv O₁ e1 e=>bndE e fun as O₂ e2 e=>by
 have eq:eval (.Call (.Name f q) args [] pos) env=(eval (.Name f q) env >>= fun fv=>callWith pos fv [] (backTo pos (starEach args env)) []):=rfl;refine Ev.of_eq eq (Ev.bind (ih.ev sc fr _ env g O O₁ s fv S F R e1) fun uf s₁ g₁ t₁ R1 huf=>?_);have hev:=ih.evs sc fr args env g₁ O₁ O₂ s₁ as pos S (F.tr R t₁) R1 e2;cases fv with
 | bi nm=>cases (show uf=biVal nm from huf);exact Ev.callWith Fa (Uar e2) (KeepsF.bi nm) hev fun us s₂ g₂ t₂ R2 hus=>Uj4 Fa Ro R2 hus e
 | fn a =>
  cases (show uf=.ref a from huf);cases hk:lkN a C.P.clss with
  | some k=>exact Ev.callWith Fa (Uar e2) (keeps_K (cf a k hk).keep) hev fun us s₂ g₂ t₂ R2 hus=>co.cls a k as us g₂ O₂ O' s₂ v hk R2 hus e
  | none =>
   have e':cl a as O₂=some (v,O'):=by
    simp only [applyV,hk] at e;exact e
   exact Ev.callWith Fa (Uar e2) (keeps_K (co.keep a _ _ _ e')) hev fun us s₂ g₂ t₂ R2 hus=>co.fn a as us g₂ O₂ O' s₂ v R2 hus e'
 | _=>exact (Uaa e).elim
end
noncomputable def CompH(C:Cx)(A:Around)(cl:CC)(n:Nat):Prop :=
 ∀ (sc:Scope) (fr:Fr) (elt:Expr) (gens:List Comprehension) (scope:Scope) (pos:Pos) (env:Env) (g:Gh) (O O':Store) (s:Shared) (v:V),ES sc env->FR g s.heap env fr->Rel C g O s.heap ->
  evalE C.P cl (n+1) sc fr (.ListComp elt gens scope pos) O=some (v,O')->EvV C A (eval (.ListComp elt gens scope pos) env) g O' s v
section
variable {C:Cx}{A:Around}{cl:CC}{g:Gh}{O O₁ O':Store}{s:Shared}{n d:Nat}{sc:Scope}{fr:Fr}{env:Env}
theorem Ur4(Fa:Facts C)(cf:CF C)(Ro:Room A d)(co:CallOk C A cl)(ih:EvOk C A cl n)(ch:CompH C A cl n){e:Expr}{v:V}(S:ES sc env)(F:FR g s.heap env fr)(R:Rel C g O s.heap)
  (q:evalE C.P cl (n+1) sc fr e O=some (v,O')):EvV C A (eval e env) g O' s v:=by
 cases e with
 | Constant c k p=>exact Unn q R
 | Name x p=>exact Up0 Fa F R S.gl q
 | BoolOp op es p=>exact ih.bool sc fr op es env g O O' s v p S F R q
 | BinOp l op r p =>
  refine bndE q fun a O₁ e1 q=>?_;refine bndE q fun b O₂ e2 q=>?_;refine xAA (Uap q) fun q' qz1=>?_;subst qz1;refine Ev.of_eq (arm_eval_BinOp l op r p env) (Ev.bind (ih.ev sc fr l env g O O₁ s a S F R e1) fun ua s₁ g₁ t₁ R1 hua=>?_);refine Ev.bind (Ev.hold (ih.ev sc fr r env g₁ O₁ O₂ s₁ b S (F.tr R t₁) R1 e2)) fun ub s₂ g₂ t₂ R2 hub=>?_;exact Ev.at_ (Ev.oper (Usl R2 (hua.tr' R1 t₂) hub q'))
 | UnaryOp op x p =>
  cases op with
  | Not =>
   refine bndE q fun a O₁ e1 q=>?_;refine bndE q fun b O₂ e2 q=>?_;refine xAA (Uc4 e2) fun e2' qz1=>?_;subst qz1;cases q;refine Ev.of_eq (arm_eval_UnaryOp .Not x p env) (Ev.bind (ih.ev sc fr x env g O _ s a S F R e1) fun ua s₁ g₁ t₁ R1 hua=>Ev.at_ (Ev.hold ?_));intro p' Q E q;exact not_of (isT_ok R1 hua e2' p' _ E fun c s' g' t R' hc=>q _ s' g' t R' (by rw [hc];exact VR.mkBool))
  | USub =>
   refine bndE q fun a O₁ e1 q=>?_;refine xAA (Uc4 q) fun q' qz1=>?_;subst qz1;exact Ev.of_eq (arm_eval_UnaryOp .USub x p env) (Ev.bind (ih.ev sc fr x env g O _ s a S F R e1) fun ua s₁ g₁ t₁ R1 hua=>Ev.at_ (Ev.hold (Us3 R1 hua q')))
  | _=>exact (Uaa q).elim
 | IfExp t a b p =>
  refine bndE q fun c O₁ e1 q=>?_;refine Ev.of_eq (arm_eval_IfExp t a b p env) (Ev.bind (ih.test sc fr t env g O O₁ s c S F R e1) fun u s₁ g₁ t₁ R1 hu=>?_);subst hu;cases u with
  | true=>exact ih.ev sc fr a env g₁ O₁ O' s₁ v S (F.tr R t₁) R1 q
  | false=>exact ih.ev sc fr b env g₁ O₁ O' s₁ v S (F.tr R t₁) R1 q
 | Dict ks es p =>
  rcases Ua7 q with ⟨hk,q⟩ | ⟨_,q⟩
  ·refine bndE q fun l O₁ e1 q=>?_;exact Uta ih S F R hk e1 q
  ·exact (Uaa q).elim
 | List es p =>
  refine bndE q fun vs O₁ e1 q=>?_;exact Ev.of_eq (arm_eval_List es p env) (Ev.at_ (Ev.bind (ih.evs sc fr es env g O O₁ s vs p S F R e1) fun us s₁ g₁ t₁ R1 hus=>Uog R1 hus q))
 | Tuple es k p =>
  refine bndE q fun vs O₁ e1 q=>?_;rcases Ua7 q with ⟨hl,q⟩ | ⟨_,q⟩
  ·cases q;refine Ev.of_eq (arm_eval_Tuple es k p env) (Ev.at_ (Ev.bind (ih.evs sc fr es env g O _ s vs p S F R e1) fun us s₁ g₁ t₁ R1 hus=>?_));have hlen:=hus.len;exact Ev.up R1 fun Q E q=>wpAny_newTuple (q _ _ (fun b o e=>Heap.get?_push_of_some _ e) rfl rfl (VR.newTup (us:=us.toArray) (k:=0) R1 (by simpa using hus) hl)) (Uai (om15 hl hlen))
  ·exact (Uaa q).elim
 | ListComp elt gens scope p=>exact ch sc fr elt gens scope p env g O O' s v S F R q
 | Compare l ops rs p =>
  refine bndE q fun z O₀ e0 q=>?_;refine xAA (Uc4 e0) fun hz qz1=>?_;subst qz1;rcases Uoy hz with ⟨op,r,rfl,rfl,rfl⟩ | ⟨op1,op₂,r₁,r₂,rfl,rfl,rfl⟩
  ·refine bndE q fun a O₁ e1 q=>?_;refine bndE q fun c O₂ e2 q=>?_;refine bndE q fun t O₃ e3 q=>?_;refine xAA (Uap e3) fun e3' qz1=>?_;subst qz1;cases q;exact Ev.unbool (cmp1 Fa Ro ih S F R e1 e2 e3').1
  ·refine bndE q fun a O₁ e1 q=>?_;refine bndE q fun c O₂ e2 q=>?_;refine bndE q fun t O₃ e3 q=>?_;refine xAA (Uap e3) fun e3' qz1=>?_;subst qz1;rcases Ua7 q with ⟨ht,q⟩ | ⟨ht,q⟩
   ·rcases Ua7 q with ⟨hn,q⟩ | ⟨_,q⟩
    ·refine bndE q fun w O₄ e4 q=>?_;refine bndE q fun b O₅ e5 q=>?_;refine xAA (Uap e5) fun e5' qz1=>?_;subst qz1;cases q;exact Ev.unbool (cmp2 Fa Ro ih S F R hn e1 e2 e3' (by rw [if_pos ht];exact ⟨w,e4,e5'⟩)).1
    ·exact (Uaa q).elim
   ·rcases Ua7 q with ⟨hn,q⟩ | ⟨_,q⟩
    ·cases q;exact Ev.unbool (cmp2 Fa Ro ih S F R hn e1 e2 e3' (by rw [if_neg ht];exact ⟨rfl,rfl⟩)).1
    ·exact (Uaa q).elim
 | Call f args kws p =>
  rcases Un0 f kws with ⟨o,x,ap,rfl,rfl⟩ | ⟨h,q',rfl,rfl⟩ | hb
  ·exact Uth Fa cf Ro co ih S F R q
  ·exact Urs Fa cf Ro co ih S F R q
  ·exact (Ur8 hb q).elim
 | Attribute o x p =>
  rcases Ua7 q with ⟨hb,q⟩ | ⟨_,q⟩
  ·refine bndE q fun ov O₁ e1 q=>?_;have eq:eval (.Attribute o x p) env=(eval o env >>= fun o'=>standAt p.atName >>= fun w0=>holding [o'] (getAttr o' x true) >>= fun r=>letTemporaryGo o o' r >>= fun w0=>pure r):=by
    rw [arm_eval_Attribute,Uda hb]
   refine Ev.of_eq eq (Ev.bind (ih.ev sc fr o env g O O₁ s ov S F R e1) fun uo s₁ g₁ t₁ R1 huo=>?_);exact Ev.at_ (Ev.bind (Ev.hold (Umx Fa cf R1 huo q)) fun u s₂ g₂ t₂ R2 hu=>Ev.letGo (Ev.ret R2 hu))
  ·exact (Uaa q).elim
 | Subscript o i p =>
  rcases Unq i with ⟨lo,hi,st,p',rfl⟩ | hs
  ·refine bndE q fun ov O₁ e1 q=>?_;refine bndE q fun a O₂ e2 q=>?_;refine bndE q fun b O₃ e3 q=>?_;cases st with
   | none =>
    refine xAA (Uap q) fun q' qz1=>?_;subst qz1;refine Ukz (o:=none) ih (c:=none) S F R e1 e2 e3 (fun g₁ s₁ t₁ R1=>Ev.of_eq (evalPart_none env) (Ev.ret R1 rfl)) ?_;intro uo ul uh us ad g₁ s₁ sl R1 h1 h2 h3 h4 ha;have h4':us=.none:=h4;subst h4';exact Unx R1 h1 h2 h3 ha q'
   | some st =>
    refine bndE q fun w O₄ e4 q=>?_;refine xAA (Uap q) fun q' qz1=>?_;subst qz1;refine Ukz (o:=none) ih (c:=some w) S F R e1 e2 e3 (fun g₁ s₁ t₁ R1=>Ev.of_eq (evalPart_some st env) (ih.ev sc fr st env g₁ O₃ _ s₁ w S (F.tr R t₁) R1 e4)) ?_;intro uo ul uh us ad g₁ s₁ sl R1 h1 h2 h3 h4 ha;exact Uq2 R1 h1 h2 h3 h4 ha q'
  ·have q:=Us8 hs q;refine bndE q fun ov O₁ e1 q=>?_;refine bndE q fun iv O₂ e2 q=>?_;refine xAA (Uap q) fun q' qz1=>?_;subst qz1;have eq:eval (.Subscript o i p) env=(eval o env >>= fun o'=>holding [o'] (eval i env) >>= fun i'=>standAt p >>= fun w0=>subscriptTail o i o' i'):=rfl;refine Ev.of_eq eq (Ev.bind (ih.ev sc fr o env g O O₁ s ov S F R e1) fun uo s₁ g₁ t₁ R1 huo=>?_);refine Ev.bind (Ev.hold (ih.ev sc fr i env g₁ O₁ O₂ s₁ iv S (F.tr R t₁) R1 e2)) fun ui s₂ g₂ t₂ R2 hui=>?_;exact Ev.at_ (Urp R2 (huo.tr' R1 t₂) hui q')
 | _=>exact (Uaa q).elim
theorem Ur3:EvOk C A cl 0 :=
 ⟨fun sc fr e env g O O' s v S F R q=>(Uaa q).elim,fun sc fr e env g O O' s v p S F R q=>(Uaa q).elim,
  fun sc fr op e env g O O' s v p S F R q=>(Uaa q).elim,fun sc fr e env g O O' s v S F R q=>(Uaa q).elim,
  fun sc fr e env g O O' s v S F R q=>(Uaa q).elim,fun sc fr op e env g O O' s v S F R q=>(Uaa q).elim,
  fun sc fr ks e env g O O' s v p S F R q=>(Uaa q).elim⟩
theorem Urt(Fa:Facts C)(cf:CF C)(Ro:Room A d)(co:CallOk C A cl)(ih:EvOk C A cl n)(ch:CompH C A cl n):EvOk C A cl (n+1) :=
 ⟨fun w0 w0 w0 w0 w0 w0 w0 w0 w0 S F R q=>Ur4 Fa cf Ro co ih ch S F R q,fun w0 w0 w0 w0 w0 w0 w0 w0 w0 w0 S F R q=>Uqe ih _ _ _ S F R q,fun w0 w0 w0 w0 w0 w0 w0 w0 w0 w0 w0 S F R q=>Une ih S F R q,
  fun w0 w0 w0 w0 w0 w0 w0 w0 w0 S F R q=>Up9 ih S F R q,fun w0 w0 w0 w0 w0 w0 w0 w0 w0 S F R q=>Um9 Fa Ro ih S F R q,fun w0 w0 w0 w0 w0 w0 w0 w0 w0 w0 S F R q=>Ukt ih S F R q,
  fun w0 w0 w0 w0 w0 w0 w0 w0 w0 w0 w0 S F R q=>Ukq ih _ _ _ _ S F R q⟩
end
noncomputable def Ex(C:Cx)(A:Around)(W:Addr->Prop){α:Type}(t:Sem α)(g:Gh)(O:Store)(s:Shared)(T:Gh->Heap->α->Prop):Prop :=
 0 < s.toks->∀ (Q:α->Shared->Prop) (E:Value->Shared->Prop),(∀ a s' g',Tr W g s g' s'->Rel C g' O s'.heap->T g' s'.heap a->Q a s')->wpAny (model C.prog C.w) A t Q E s
noncomputable def ItK(o:V)(uo:Value)(k:Nat)(ob:Obj):Prop:=match o with
 | .str x=>∃ t,uo=.str x t/\ob.cls=.type (strIterType x)/\ob.data=.fields #[.str x t,.int k 0]
 | .rng a b c=>ob={ cls:=.type "range_iterator",dict:=none,data:=.fields #[rawInt (a+k*c),rawInt (Builtin.Range.rangeSize a b c - k),rawInt c],slots:=#[] }
 | _=>∃ l,uo=.ref l/\ob.cls=.type "list_iterator"/\ob.data=.fields #[.ref l,.int k 0]
noncomputable def ItAt(h:Heap)(I:Addr)(o:V)(uo:Value)(k:Nat):Prop:=∃ ob,h.get? I=some ob/\ItK o uo k ob
theorem itL{o:V}{uo:Value}{k:Nat}{ob:Obj}(h1:strO o=none)(h2:rngO o=none):ItK o uo k ob=∃ l,uo=.ref l/\ob.cls=.type "list_iterator"/\ob.data=.fields #[.ref l,.int k 0]:=by
 cases o <;> first | rfl | exact (Uaa h1.symm).elim | exact (Uaa h2.symm).elim
theorem Ui4{v:V}{r:Int×Int×Int}(e:rngO v=some r):v=.rng r.1 r.2.1 r.2.2:=by cases v <;> first | exact (Uaa e).elim | exact congrArg (fun r:Int×Int×Int=>V.rng r.1 r.2.1 r.2.2) (Uab e)
section
variable {C:Cx}{A:Around}{W:Addr->Prop}{g:Gh}{O O₁ O':Store}{s:Shared}{n d:Nat}{h h':Heap}
theorem Ex.of{α:Type}{t:Sem α}{T:Gh->Heap->α->Prop}(h:Ev C A t g O s T):Ex C A W t g O s T:=fun p Q E q=>h p Q E fun a s' g' t R x=>q a s' g' t.none R x
theorem Ex.bind{α β:Type}{t:Sem α}{k:α->Sem β}{T:Gh->Heap->α->Prop}{T':Gh->Heap->β->Prop}(h:Ex C A W t g O₁ s T)
  (hk:∀ a s₁ g₁,Tr W g s g₁ s₁->Rel C g₁ O₁ s₁.heap->T g₁ s₁.heap a->Ex C A W (k a) g₁ O' s₁ T'):Ex C A W (t >>= k) g O' s T' :=
 fun p Q E q=>wpAny_bind (wpAny_mono (wpAny_toks_of p (h p (fun a s₁=>0 < s₁.toks->wpAny (model C.prog C.w) A (k a) Q E s₁) E fun a s₁ g₁ x R t' p'=>hk a s₁ g₁ x R t' p' Q E fun b s₂ g₂ x₂ R2 t₂=>q b s₂ g₂ (x.trans x₂) R2 t₂))
  (fun w0 w0 x=>x.2 x.1) fun w0 w0 x=>x.2)
theorem Ex.bindE{α β:Type}{t:Sem α}{k:α->Sem β}{T:Gh->Heap->α->Prop}{T':Gh->Heap->β->Prop}(h:Ev C A t g O₁ s T)
  (hk:∀ a s₁ g₁,Tr (fun w0=>False) g s g₁ s₁->Rel C g₁ O₁ s₁.heap->T g₁ s₁.heap a->Ex C A W (k a) g₁ O' s₁ T'):Ex C A W (t >>= k) g O' s T' :=
 fun p Q E q=>wpAny_bind (wpAny_mono (wpAny_toks_of p (h p (fun a s₁=>0 < s₁.toks->wpAny (model C.prog C.w) A (k a) Q E s₁) E fun a s₁ g₁ x R t' p'=>hk a s₁ g₁ x R t' p' Q E fun b s₂ g₂ x₂ R2 t₂=>q b s₂ g₂ (x.none.trans x₂) R2 t₂))
  (fun w0 w0 x=>x.2 x.1) fun w0 w0 x=>x.2)
theorem Ex.of_eq{α:Type}{t t':Sem α}{T:Gh->Heap->α->Prop}(e:t=t')(h:Ex C A W t' g O s T):Ex C A W t g O s T:=e▸h
theorem Ex.hold{α:Type}{vs:List Value}{t:Sem α}{T:Gh->Heap->α->Prop}(h:Ex C A W t g O s T):Ex C A W (holding vs t) g O s T:=fun p Q E q=>wpAny_holding (h p Q E q)
theorem Ex.at_{α:Type}{p:Pos}{k:Sem α}{T:Gh->Heap->α->Prop}(h:Ex C A W k g O s T):Ex C A W (standAt p >>= fun w0=>k) g O s T:=fun p' Q E q=>wpAny_bind (wpAny_standAt (h p' Q E q))
theorem Ex.rel{α:Type}{vs keep:List Value}{k:Sem α}{T:Gh->Heap->α->Prop}(h:Ex C A W k g O s T):Ex C A W (release vs keep >>= fun w0=>k) g O s T:=fun p Q E q=>wpAny_bind (wpAny_release' (h p Q E q))
theorem Ex.ret{α:Type}{a:α}{T:Gh->Heap->α->Prop}(R:Rel C g O s.heap)(h:T g s.heap a):Ex C A W (pure a) g O s T:=Ex.of (Ev.ret R h)
theorem Ex.mono{α:Type}{t:Sem α}{T T':Gh->Heap->α->Prop}(h:Ex C A W t g O s T)(k:∀ g' h' a,T g' h' a->T' g' h' a):Ex C A W t g O s T':=fun p Q E q=>h p Q E fun a s' g' x R t'=>q a s' g' x R (k _ _ _ t')
theorem Umi{a b c:Int}{k:Nat}(hc:0 < c):(a+(k:Int)*c < b) ↔ 0 < Builtin.Range.rangeSize a b c - (k:Int):=by
 delta Builtin.Range.rangeSize;rw [if_pos hc];have hk:0<=(k:Int)*c:=Int.mul_nonneg (Int.natCast_nonneg _) (Int.le_of_lt hc)
 by_cases hab:a < b
 ·rw [if_pos hab];have:=@Int.le_ediv_iff_mul_le (k:Int) (b - a - 1) c hc
  omega
 ·rw [if_neg hab]
  omega
theorem fits{x:Int}(h:x.natAbs<=4000000):Builtin.Range.rangeFitsLong x=true:=by
 delta Builtin.Range.rangeFitsLong;simp only [Bool.and_eq_true,decide_eq_true_eq]
 omega
theorem Um6{a b c:Int}(bd:a.natAbs<=lim/\b.natAbs<=lim/\0 < c/\c<=lim):Builtin.Range.small a b c=true:=xAAAA bd fun h1 h2 h3 h4=>by
 have hz:0<=Builtin.Range.rangeSize a b c/\Builtin.Range.rangeSize a b c<=2000001:=by
  delta Builtin.Range.rangeSize;rw [if_pos h3]
  by_cases hab:a < b
  ·rw [if_pos hab];have h5:0<=(b - a - 1) / c:=Int.ediv_nonneg (om37 hab) (Int.le_of_lt h3);have h6:(b - a - 1) / c<=b - a - 1:=Int.ediv_le_self _ (om37 hab);have hl:lim=1000000:=rfl
   omega
  ·rw [if_neg hab];exact ⟨Int.le_refl _,by decide⟩
 have hl:lim=1000000:=rfl;exact Bool.and_eq_true_iff.mpr ⟨Bool.and_eq_true_iff.mpr ⟨Bool.and_eq_true_iff.mpr ⟨Bool.and_eq_true_iff.mpr ⟨fits (Nat.le_trans h1 (by decide)),fits (Nat.le_trans h2 (by decide))⟩,fits (om315 bd hl)⟩,fits (om326 hz)⟩,
  Bool.or_eq_true_iff.mpr (.inr ((if_pos h3).trans (fits (by omega))))⟩
theorem Uo4{o:V}{uo:Value}(R:Rel C g O s.heap)(ho:VR g s.heap o uo)(hi:(∃ k r,drawV o k O=some r))(Q E:Value->Shared->Prop)
  (q:∀ ob,ItAt (s.heap.push ob) s.heap.objs.size o uo 0->ob.isFreed=false->Q (.ref s.heap.objs.size) { s with heap:=s.heap.push ob }):wpAny (model C.prog C.w) A (pyIter uo) Q E s:=xEEA hi fun k r hi=>obE hi
 (fun x q1 w0=>str1 (T:=fun u=>(∀ ob,ItAt (s.heap.push ob) s.heap.objs.size o u 0->ob.isFreed=false->Q (.ref s.heap.objs.size) { s with heap:=s.heap.push ob })->wpAny (model C.prog C.w) A (pyIter u) Q E s) q1 ho (fun t w0 w0 q=>by
  cases Ubd q1;exact wpAny_pyIter_strU (q _ ⟨_,Heap.get?_push_size _ rfl,t,rfl,rfl,rfl⟩ rfl)) q)
 fun h1 e=>obE e (fun z q1 w0=>by
   cases Ui4 q1;refine xEEEEAAAA ho fun r t1 t2 t3 e2 hr w0 bd=>?_;cases e2;refine wpAny_pyIter_range hr (Um6 bd) (q _ ⟨_,Heap.get?_push_size _ rfl,?_⟩ rfl);have e1:z.1+((0:Nat):Int)*z.2.2=z.1:=by rw [Int.natCast_zero,Int.zero_mul,Int.add_zero]
   have e2:Builtin.Range.rangeSize z.1 z.2.1 z.2.2 - ((0:Nat):Int)=Builtin.Range.rangeSize z.1 z.2.1 z.2.2:=Int.sub_zero _;show _=_;rw [e1,e2])
  fun h2 e=>obS e fun vs hv w0=>xEEEAAAA (Uak hv R ho) fun a its m e2 hg w0 w0=>by
   cases e2;exact wpAny_pyIter_list (VR.isList hg) (q _ ⟨_,Heap.get?_push_size _ rfl,by rw [itL h1 h2];exact ⟨a,rfl,rfl,rfl⟩⟩ rfl)
theorem ItAt.keep{I:Addr}{o:V}{uo:Value}{k:Nat}(i:ItAt h I o uo k)(hk:∀ ob,h.get? I=some ob->h'.get? I=some ob):ItAt h' I o uo k:=xEAA i fun ob q r=>⟨ob,hk _ q,r⟩
theorem ItAt.live{I:Addr}{o:V}{uo:Value}{k:Nat}(i:ItAt h I o uo k):h.get? I≠none:=xEAA i fun w0 q w0=>Uae q
theorem Up4{I:Addr}{x:Str}{t:Tok}{k:Nat}{T:String}(hT:T="str_ascii_iterator"\/T="str_iterator")(hh:A.handled=none)(it:s.heap.IsStrIter I T x t k)(Q:Option Value->Shared->Prop)(E:Value->Shared->Prop)
  (q1:∀ c h',x.cps[k]?=some c->h'.IsStrIter I T x t (k+1)->Heap.SameBut I s.heap h'->Q (some (.str ⟨#[c]⟩ s.toks)) { s with heap:=h',toks:=s.toks+1 })
  (q2:∀ h',x.cps[k]?=none->Heap.ExtBut I s.heap h'->Q none { s with heap:=h' }):wpAny (model C.prog C.w) A (pyNext (.ref I)) Q E s:=by
 cases hx:x.cps[k]? with
 | none =>
  rcases hT with e | e <;> cases e
  ·exact wpAny_pyNext_ascii_end hh it hx fun h' hb=>q2 h' hx hb
  ·exact wpAny_pyNext_wide_end hh it hx fun h' hb=>q2 h' hx hb
 | some c =>
  rcases hT with e | e <;> cases e
  ·exact wpAny_pyNext_ascii_item it hx fun h' it' sb=>q1 c h' hx it' sb
  ·exact wpAny_pyNext_wide_item it hx fun h' it' sb=>q1 c h' hx it' sb
theorem iterType(x:Str):strIterType x="str_ascii_iterator"\/strIterType x="str_iterator":=by
 delta strIterType
 by_cases h:x.cps.all (· < 128)=true
 ·rw [if_pos h];exact .inl rfl
 ·rw [if_neg h];exact .inr rfl
theorem Upb{I:Addr}{o:V}{uo:Value}{k:Nat}{r:Option V}(hh:A.handled=none)(R:Rel C g O s.heap)(ho:VR g s.heap o uo)(i:ItAt s.heap I o uo k)(e:drawV o k O=some r)
  (Q:Option Value->Shared->Prop) (E:Value->Shared->Prop)
  (q1:∀ v u h' tk,r=some v->VR g s.heap v u->ItAt h' I o uo (k+1)->Heap.SameBut I s.heap h'->Q (some u) { s with heap:=h',toks:=tk })
  (q2:∀ h',r=none->Heap.ExtBut I s.heap h'->Q none { s with heap:=h' }):wpAny (model C.prog C.w) A (pyNext (.ref I)) Q E s:=obE e
 (fun x qx w=>by
  cases Ubd qx;refine xEAA i fun ob hob it=>xEAAA it fun t e1 i1 i2=>?_;cases e1;refine Up4 (x:=x) (t:=t) (iterType x) hh ⟨ob,hob,i1,i2⟩ Q E (fun c h' hx it' sb=>?_) fun h' hx hb=>?_
  ·have hk:k < x.cps.size:=(Array.getElem?_eq_some_iff.mp hx).1;rw [if_pos hk] at w;have hc:x.cps.getD k 0=c:=by simp [Array.getD,hk];exact (Array.getElem?_eq_some_iff.mp hx).2
   exact q1 _ _ h' _ ((Uab w).symm.trans (by rw [hc])) (xEAAA ho fun w0 w0 ok w0=>VR.mkStr (Ulm ok hx) Ujv) (xEAAA it' fun ob2 a b c=>⟨ob2,a,t,rfl,b,c⟩) sb
  ·rw [if_neg (Nat.not_lt.mpr (Array.getElem?_eq_none_iff.mp hx))] at w;exact q2 h' (Uab w).symm hb)
 fun h1 e=>obE e (fun z qx e=>iteS e fun hc w=>by
   cases Ui4 qx;refine xEEEEAAAA ho fun r' t1 t2 t3 w0 hr w0 bd=>xEAA i fun ob hob it=>?_;cases it;have hl:=Umi (a:=z.1) (b:=z.2.1) (k:=k) hc
   by_cases hk:z.1+(k:Int)*z.2.2 < z.2.1
   ·rw [if_pos hk] at w;refine wpAny_pyNext_range_item hob (hl.mp hk) fun h' it' sb=>q1 _ _ h' _ (Uab w).symm VR.mkInt ⟨_,it',?_⟩ sb;have e1:z.1+((k+1:Nat):Int)*z.2.2=z.1+(k:Int)*z.2.2+z.2.2:=by rw [Int.natCast_succ,Int.add_mul,Int.one_mul,Int.add_assoc]
    have e2:Builtin.Range.rangeSize z.1 z.2.1 z.2.2 - ((k+1:Nat):Int)=Builtin.Range.rangeSize z.1 z.2.1 z.2.2 - (k:Int) - 1:=by rw [Int.natCast_succ,Int.sub_sub]
    show _=_;rw [e1,e2]
   ·rw [if_neg hk] at w;exact wpAny_pyNext_range_end hh hob (Int.not_lt.mp fun x=>hk (hl.mpr x)) fun h' hb=>q2 h' (Uab w).symm hb)
  fun h2 e=>obS e fun vs hv e=>xEEEAAAA (Uak hv R ho) fun a its m e2 hg hrs w0=>xEAA i fun ob hob it=>by
   cases e2;rw [itL h1 h2] at it;refine xEAAA it fun l e3 i1 i2=>?_;cases e3;have hr:=(Uab e).symm;cases hz:vs[k]? with
   | none =>
    refine wpAny_pyNext_list_end hh ⟨ob,hob,i1,i2⟩ (VR.isList hg) ?_ fun h' hb=>q2 h' (hr.trans hz) hb;exact Array.getElem?_eq_none_iff.mpr (Nat.le_trans (Nat.le_of_eq hrs.size) (List.getElem?_eq_none_iff.mp hz))
   | some v =>
    refine xEAA (hrs.get hz) fun u hu hvu=>?_;rw [Array.getElem?_toList] at hu;exact wpAny_pyNext_list_item ⟨ob,hob,i1,i2⟩ (VR.isList hg) hu fun h' it' sb=>q1 v u h' s.toks (hr.trans hz) hvu (xEAAA it' fun ob2 x1 x2 x3=>⟨ob2,x1,by rw [itL h1 h2];exact ⟨a,rfl,x2,x3⟩⟩) sb
end
noncomputable def clOf(env:Env):List (Str×NameKind)->List (Str×Addr)->List (Str×Addr)
 | [],acc=>acc
 | (n,k)::r,acc=>clOf env r (if k==.free then (n,(env.cells.lookup n).getD 0)::acc else acc)
theorem Uk6{env:Env}{scope:Scope}(h:∀ p ∈ scope.names,p.2=.free->∃ c,env.cells.lookup p.1=some c):closureFor scope env=pure (clOf env scope.names []):=by
 have go:∀ (l:List (Str×NameKind)) (acc:List (Str×Addr)),(∀ p ∈ l,p.2=.free->∃ c,env.cells.lookup p.1=some c) ->
   (forIn l acc fun x r=>(do if (x.2==NameKind.free)=true then do let __do_lift <- cellOf env x.1;pure (ForInStep.yield ((x.1,__do_lift)::r)) else pure (ForInStep.yield r):Sem (ForInStep (List (Str×Addr)))))=pure (clOf env l acc):=by
  intro l;induction l with
  | nil=>intro acc _;rfl
  | cons p r ih =>
   intro acc hp;obtain ⟨n,k⟩:=p;rw [List.forIn_cons];unfold clOf
   by_cases hk:k=.free
   ·subst hk;refine xEA (hp (n,.free) List.mem_cons_self rfl) fun c hc=>?_;have e:cellOf env n=pure c:=by unfold cellOf;rw [hc]
    simp only [beq_self_eq_true,if_true,e,pure_bind,hc,Option.getD_some];exact ih _ fun q hq=>hp q (List.mem_cons_of_mem _ hq)
   ·have:(k==NameKind.free)=false:=by simpa using hk
    simp only [this,Bool.false_eq_true,if_false,pure_bind];exact ih _ fun q hq=>hp q (List.mem_cons_of_mem _ hq)
 delta closureFor;have:=go scope.names [] h;simp only [bind_pure];exact this
theorem Uiz{α:Type}{y:Str}{v:α}{r:List (Str×α)}:((y,v)::r).lookup y=some v:=by rw [List.lookup_cons,beq_self_eq_true]
theorem Ujw{α:Type}{y n:Str}{v:α}{r:List (Str×α)}(h:y≠n):((n,v)::r).lookup y=r.lookup y:=by rw [List.lookup_cons,beq_eq_false_iff_ne.mpr h]
theorem Ujt{env:Env}{y:Str}:∀ {l:List (Str×NameKind)} {acc:List (Str×Addr)} {c:Addr},(clOf env l acc).lookup y=some c->acc.lookup y=some c\/((y,NameKind.free) ∈ l/\(env.cells.lookup y).getD 0=c)
 | [],_,_,h=>.inl h
 | (n,k)::r,acc,c,h=>by
  rcases Ujt (l:=r) h with h | h
  ·by_cases hk:(k==NameKind.free)=true
   ·rw [if_pos hk] at h
    by_cases e:y=n
    ·subst e;rw [Uiz] at h;exact .inr ⟨beq_iff_eq.mp hk▸List.mem_cons_self,Uab h⟩
    ·rw [Ujw e] at h;exact .inl h
   ·rw [if_neg hk] at h;exact .inl h
  ·exact .inr ⟨List.mem_cons_of_mem _ h.1,h.2⟩
theorem Ukw{env:Env}{y:Str}:∀ {l:List (Str×NameKind)} {acc:List (Str×Addr)},((y,NameKind.free) ∈ l\/(acc.lookup y).isSome=true)->((clOf env l acc).lookup y).isSome=true
 | [],_,h=>h.elim (fun h=>nomatch h) id
 | (n,k)::r,acc,h=>by
  refine Ukw (l:=r) ?_;rcases h with h | h
  ·rcases List.mem_cons.mp h with e | h
   ·cases e;right;rw [if_pos (beq_self_eq_true _),Uiz];rfl
   ·exact .inl h
  ·right
   by_cases hk:(k==NameKind.free)=true
   ·rw [if_pos hk]
    by_cases e:y=n
    ·subst e;rw [Uiz];rfl
    ·rw [Ujw e];exact h
   ·rw [if_neg hk];exact h
theorem Udi{env:Env}{y:Str}:∀ {names:List (Str×NameKind)},
  (names.map fun (n,k)=>if (k==NameKind.free&&env.scope.kind==.function&&env.kindOf n==some .cell) then (n,NameKind.cell) else (n,k)).lookup y =
   (names.lookup y).map fun k=>if (k==NameKind.free&&env.scope.kind==.function&&env.kindOf y==some .cell) then NameKind.cell else k
 | []=>rfl
 | (n,k)::r=>by
  have ih:=@Udi env y r;show List.lookup y ((if (k==NameKind.free&&env.scope.kind==.function&&env.kindOf n==some .cell)=true then (n,NameKind.cell) else (n,k))::_)=_;cases hx:y==n with
  | true =>
   have:=beq_iff_eq.mp hx;subst this;simp only [List.lookup_cons,beq_self_eq_true,Option.map_some];split <;> simp
  | false =>
   simp only [List.lookup_cons,hx];rw [<- ih];split <;> simp only [List.lookup_cons,hx]
section
variable {C:Cx}{A:Around}{cl:CC}{g:Gh}{O O₁ O':Store}{s:Shared}{n d:Nat}{sc:Scope}{fr:Fr}{env:Env}{h h':Heap}
theorem Uny{I:Addr}{o:V}{uo:Value}{k:Nat}(i:ItAt s.heap I o uo k)(Q E:Value->Shared->Prop)(q:Q (.ref I) s):wpAny (model C.prog C.w) A (pyIter (.ref I)) Q E s:=by
 refine xEAA i fun ob hob it=>?_;cases o with
 | str x =>
  refine xEAAA it fun t w0 i1 i2=>?_;rcases iterType x with e | e <;> rw [e] at i1
  ·exact wpAny_pyIter_striter_ascii ⟨ob,hob,i1,i2⟩ q
  ·exact wpAny_pyIter_striter_wide ⟨ob,hob,i1,i2⟩ q
 | rng a b c=>cases it;exact wpAny_pyIter_rangeiter hob q
 | _=>exact xEAAA it fun l w0 i1 i2=>wpAny_pyIter_listiter ⟨ob,hob,i1,i2⟩ q
structure CompS(sc scope:Scope)(x:Str):Prop where
 kind:scope.kind=.function
 dot:x≠".0"
 xl:scope.names.lookup x=some .local
 dbg:∀ p ∈ scope.names,(p.1==Qck)=false/\(p.1==Qcl)=false
 loc:∀ p ∈ scope.names,p.2=.local->scope.names.lookup p.1=some .local
 free:∀ p ∈ scope.names,p.2=.free->sc.names.lookup p.1=some .cell/\p.1≠x
 cell:∀ p ∈ scope.names,p.2≠.cell
theorem Urn{scope:Scope}{x:Str}(e:compOk sc scope x=true):CompS sc scope x:=by
 delta compOk at e;simp only [Bool.and_eq_true,List.all_eq_true,beq_iff_eq,bne_iff_ne,ne_eq] at e;refine xAA e fun qz1 h4=>?_;obtain ⟨⟨h1,h2⟩,h3⟩:=qz1;refine ⟨h1,h2,h3,fun p hp=>?_,fun p hp hl=>?_,fun p hp hl=>?_,fun p hp hl=>?_⟩
 ·exact ⟨beq_eq_false_iff_ne.mpr (h4 p hp).1.1,beq_eq_false_iff_ne.mpr (h4 p hp).1.2⟩
 ·have:=(h4 p hp).2;rw [hl] at this;simp only [Bool.or_eq_true,beq_iff_eq,Bool.and_eq_true] at this;rcases this with e | ⟨e,z⟩
  ·rw [e];exact h3
  ·rw [e];exact z
 ·have:=(h4 p hp).2;rw [hl] at this
  simpa using this
 ·have:=(h4 p hp).2;rw [hl] at this;simp at this
theorem Uem{scope:Scope}{y:Str}{v:V}:∀ {fr:Fr},lk y (compFr scope fr)=some v->lk y fr=some v/\scope.names.lookup y=some .free
 | [],h=>(Uaa h).elim
 | (z,w)::r,h=>by
  delta compFr at h;rw [List.filter_cons] at h
  by_cases hf:(scope.names.lookup z==some NameKind.free)=true
  ·rw [if_pos hf] at h
   by_cases q:z=y
   ·subst q;rw [lk_hit] at h ⊢;exact ⟨h,beq_iff_eq.mp hf⟩
   ·rw [Uc0 q] at h ⊢;exact Uem (scope:=scope) h
  ·rw [if_neg hf] at h;have:=Uem (scope:=scope) (fr:=r) h
   by_cases q:z=y
   ·subst q;exact absurd (beq_iff_eq.mpr this.2) hf
   ·rw [Uc0 q];exact this
theorem Udz{α:Type}(x y:Str)(v:α):∀ l:List (Str×α),lk y (setK x v l)=if x=y then some v else lk y l
 | []=>by
  by_cases q:x=y
  ·subst q;rw [if_pos rfl];exact lk_hit
  ·rw [if_neg q];exact Uc0 q
 | (z,w)::r=>by
  by_cases q:z=x
  ·subst q;rw [Ub3]
   by_cases q2:z=y
   ·subst q2;rw [lk_hit,if_pos rfl]
   ·rw [Uc0 q2,Uc0 q2,if_neg q2]
  ·rw [Ubf q]
   by_cases q2:z=y
   ·subst q2;rw [lk_hit,lk_hit,if_neg fun e=>q e.symm]
   ·rw [Uc0 q2,Uc0 q2,Udz]
theorem Ucd{scope:Scope}{L:Addr}(y:Str):(compEnvC scope (clOf env scope.names []) L env).kindOf y=(scope.names.lookup y).map fun k=>if (k==NameKind.free&&env.scope.kind==.function&&env.kindOf y==some .cell) then NameKind.cell else k:=Udi
theorem Upu{scope:Scope}{x:Str}{L:Addr}(K:CompS sc scope x):ES scope (compEnvC scope (clOf env scope.names []) L env) :=
 ⟨fun y e=>by rw [Ucd,e];rfl,fun y e=>by rw [Ucd,e];rfl,fun y e=>absurd rfl (K.cell _ (mem_of_lookup e))⟩
theorem Um7{scope:Scope}{x:Str}(S:ES sc env)(K:CompS sc scope x)(F:FR g h env fr){y:Str}{c:Addr}(e:(clOf env scope.names []).lookup y=some c):env.cells.lookup y=some c:=by
 rcases Ujt e with e | e
 ·cases e
 ·exact xEA (F.has y (S.ce y (K.free _ e.1 rfl).1)) fun c' hc'=>by rw [hc',<- e.2,hc'];rfl
theorem Ush{scope:Scope}{x:Str}{L:Addr}{m:Str->Option Value}{v:V}{u:Value}(S:ES sc env)(K:CompS sc scope x)(F:FR g h env fr)(hz:g.Z L)(hs:¬ g.St L)(hn:h.Ns L m)(hm:m x=some u)(hv:VR g h v u)
  (hL:L≠env.locals/\∀ y c,env.cells.lookup y=some c->c≠L) :
  FR g h (compEnvC scope (clOf env scope.names []) L env) (setK x v (compFr scope fr)):=by
 have has:∀ {y},(y,NameKind.free) ∈ scope.names->∃ c,(clOf env scope.names []).lookup y=some c:=fun m=>Option.isSome_iff_exists.mp (Ukw (.inl m));have look:=fun {y c}=>Um7 (y:=y) (c:=c) S K F;refine ⟨K.kind,F.glob,F.blt,fun p hp=>?_,hz,hs,⟨m,hn,fun y w hy hk=>?_⟩,fun y w hy=>?_,fun y c e=>xAAAA (F.cell y c (look e)) fun a b w0 r=>⟨a,b,hL.2 y c (look e),r⟩,fun y hk=>?_,fun y z c e1 e2=>F.apart y z c (look e1) (look e2)⟩
 ·have hp:p ∈ scope.names.map fun (n,k)=>if (k==NameKind.free&&env.scope.kind==.function&&env.kindOf n==some .cell) then (n,NameKind.cell) else (n,k):=hp;refine xEAA (List.mem_map.mp hp) fun q hq e=>?_;have e:p.1=q.1:=by
   rw [<- e];show (if _ then (q.1,NameKind.cell) else (q.1,q.2)).1=q.1;cases (q.2==NameKind.free&&env.scope.kind==.function&&env.kindOf q.1==some .cell) <;> rfl
  rw [e];exact K.dbg q hq
 ·rw [Udz] at hy
  by_cases e:x=y
  ·subst e;rw [if_pos rfl] at hy;cases hy;exact ⟨u,hm,hv⟩
  ·rw [if_neg e] at hy;rw [Ucd,(Uem hy).2] at hk;have hk:(if (NameKind.free==NameKind.free&&env.scope.kind==.function&&env.kindOf y==some .cell)=true then NameKind.cell else .free)=.local:=Uab hk
   by_cases c:(NameKind.free==NameKind.free&&env.scope.kind==.function&&env.kindOf y==some .cell)=true
   ·rw [if_pos c] at hk;cases hk
   ·rw [if_neg c] at hk;cases hk
 ·rw [Udz] at hy
  by_cases e:x=y
  ·subst e;left;rw [Ucd,K.xl];rfl
  ·rw [if_neg e] at hy;refine xAA (Uem hy) fun h1 h2=>.inr ?_;have hc:=S.ce y (K.free _ (mem_of_lookup h2) rfl).1;rcases F.var y w h1 with k | k
   ·rw [hc] at k;cases k
   ·refine xAEEAAA k fun w0 c u' a b r=>xEA (has (mem_of_lookup h2)) fun c' hc'=>⟨.inl (by rw [Ucd,h2,F.kind,hc];rfl),c,u',?_,b,r⟩
    rw [Uab (a.symm.trans (look hc'))];exact hc'
 ·rw [Ucd] at hk;refine mapE hk fun k hl hk=>?_
  by_cases c:(k==NameKind.free&&env.scope.kind==.function&&env.kindOf y==some .cell)=true
  ·have c1:=(Bool.and_eq_true_iff.mp (Bool.and_eq_true_iff.mp c).1).1;exact has (beq_iff_eq.mp c1▸mem_of_lookup hl)
  ·exact absurd ((if_neg c).symm.trans hk) (K.cell _ (mem_of_lookup hl))
end
section
variable {C:Cx}{A:Around}{cl:CC}{g:Gh}{O O₁ O':Store}{s s':Shared}{n d:Nat}{sc:Scope}{fr:Fr}{env:Env}{h h':Heap}
theorem Rel.write1{W:Addr->Prop}(R:Rel C g O s.heap)(hw:∀ b,W b->g.Z b/\¬ g.St b){a:Addr}(ha:W a)(sb:Heap.SameBut a s.heap s'.heap)(live:s'.heap.get? a≠none)(hg:s'.gens=s.gens)(ho:s'.os=s.os) :
  Tr W g s g s'/\Rel C g O s'.heap:=by
 refine xAA (R.write (W:=fun b=>b=a) (s':=s') (fun b e=>by subst e;exact hw _ ha) (fun b o w e=>(sb.2 b w).trans e) (fun b e=>by subst e;exact live) hg ho) fun t R'=>?_;exact ⟨t.weak fun b w0 e=>by subst e;exact ha,R'⟩
theorem Ev.toks{α:Type}{t:Sem α}{T:Gh->Heap->α->Prop}(h:Ev C A t g O s T)(p:0 < s.toks){Q:α->Shared->Prop}{E:Value->Shared->Prop}
  (q:∀ a s' g',0 < s'.toks->Tr (fun w0=>False) g s g' s'->Rel C g' O s'.heap->T g' s'.heap a->Q a s'):wpAny (model C.prog C.w) A t Q E s :=
 wpAny_mono (wpAny_toks_of p (h p (fun a s₁=>0 < s₁.toks->Q a s₁) E fun a s₁ g₁ x R t' p'=>q a s₁ g₁ p' x R t')) (fun w0 w0 x=>x.2 x.1) fun w0 w0 x=>x.2
noncomputable def W3(I D L:Addr):Addr->Prop:=fun b=>b=I\/b=D\/b=L
structure CmA(g:Gh)(h:Heap)(I D L:Addr)(o:V)(uo:Value)(k:Nat)(acc:List V)(mp:Str->Option Value):Prop where
 own:∀ b,W3 I D L b->g.Z b/\¬ g.St b
 it:ItAt h I o uo k
 acc:∃ its cnt,h.get? D=some (lo its cnt)/\VRs g h acc its.toList/\acc.length<=lim
 ns:h.Ns L mp
structure Ap(I D L:Addr):Prop where
 id:I≠D
 il:I≠L
 dl:D≠L
variable {I D L:Addr}{o v:V}{uo:Value}{k:Nat}{acc:List V}{mp:Str->Option Value}
theorem Ns.same{b:Addr}(h1:h.Ns L mp)(e:∀ ob,h.get? L=some ob->h'.get? L=some ob):h'.Ns L mp:=xEEEAA h1 fun ol es ep q r=>⟨ol,es,ep,e _ q,r⟩
theorem CmA.tr(c:CmA g s.heap I D L o uo k acc mp)(R:Rel C g O s.heap){g':Gh}(t:Tr (fun w0=>False) g s g' s'):CmA g' s'.heap I D L o uo k acc mp:=by
 have nn:∀ b,W3 I D L b->∀ ob',s.heap.get? b=some ob'->s'.heap.get? b=some ob':=fun b hb ob' e'=>t.keep b ob' e' (c.own b hb).2 (fun f=>f);exact ⟨fun b hb=>⟨t.zk b (c.own b hb).1,t.notSt (R.zh b (c.own b hb).1) (c.own b hb).2 (fun f=>f)⟩,c.it.keep (nn I (.inl rfl)),xEEAAA c.acc fun its cnt q r l=>⟨its,cnt,nn D (.inr (.inl rfl)) _ q,VRs.tr' r R t,l⟩,Ns.same (b:=L) c.ns (nn L (.inr (.inr rfl)))⟩
theorem CmA.wr(c:CmA g s.heap I D L o uo k acc mp)(R:Rel C g O s.heap){a:Addr}(ha:W3 I D L a){hn:Heap}{tk:Nat}(sb:Heap.SameBut a s.heap hn)(live:hn.get? a≠none){k':Nat}{acc':List V}{mp':Str->Option Value}
  (it:ItAt hn I o uo k') (q:(∀ {vs us},VRs g s.heap vs us->VRs g hn vs us)->∃ its cnt,hn.get? D=some (lo its cnt)/\VRs g hn acc' its.toList/\acc'.length<=lim) (ns:hn.Ns L mp') :
  Tr (W3 I D L) g s g { s with heap:=hn,toks:=tk }/\Rel C g O hn/\CmA g hn I D L o uo k' acc' mp'/\∀ {w u},VR g s.heap w u->VR g hn w u:=by
 have hz:∀ b,W3 I D L b->g.Z b:=fun b hb=>(c.own b hb).1;exact xAA (R.write1 (s':={ s with heap:=hn,toks:=tk }) c.own ha sb live rfl rfl) fun t R'=>⟨t,R',⟨c.own,it,q fun r=>VRs.tr t R.st hz _ r,ns⟩,fun r=>VR.tr t R.st hz _ r⟩
theorem CmA.next(p:Ap I D L)(c:CmA g s.heap I D L o uo k acc mp)(R:Rel C g O s.heap){hn:Heap}{tk:Nat}(sb:Heap.SameBut I s.heap hn)(it:ItAt hn I o uo (k+1)) :
  Tr (W3 I D L) g s g { s with heap:=hn,toks:=tk }/\Rel C g O hn/\CmA g hn I D L o uo (k+1) acc mp/\∀ {w u},VR g s.heap w u->VR g hn w u :=
 c.wr R (.inl rfl) sb it.live it (fun tr=>xEEAAA c.acc fun its cnt q r l=>⟨its,cnt,(sb.2 D p.id.symm).trans q,tr r,l⟩) (Ns.same (b:=L) c.ns fun ob q=>(sb.2 L p.il.symm).trans q)
theorem CmA.name(p:Ap I D L)(c:CmA g s.heap I D L o uo k acc mp)(R:Rel C g O s.heap){hn:Heap}{tk:Nat}{mp':Str->Option Value}(sb:Heap.SameBut L s.heap hn)(ns:hn.Ns L mp') :
  Tr (W3 I D L) g s g { s with heap:=hn,toks:=tk }/\Rel C g O hn/\CmA g hn I D L o uo k acc mp'/\∀ {w u},VR g s.heap w u->VR g hn w u :=
 c.wr R (.inr (.inr rfl)) sb (xEEEA ns fun w0 w0 w0 q=>Uae q.1) (c.it.keep fun ob q=>(sb.2 I p.il).trans q) (fun tr=>xEEAAA c.acc fun its cnt q r l=>⟨its,cnt,(sb.2 D p.dl).trans q,tr r,l⟩) ns
structure CmOk(C:Cx)(A:Around)(env ce:Env)(fr fr0:Fr)(x:Str)(L:Addr)(elt:Expr)(ifs:List Expr)(el:V->M V)(ts:V->M Bool):Prop where
 xl:ce.kindOf x=some .local
 nk:(ce.scope.kind==.class||(ce.scope.kind==.module&&ce.locals != ce.globals))=false
 loc:ce.locals=L
 fr:∀ {g h mp w u},FR g h env fr->g.Z L->¬ g.St L->h.Ns L mp->mp x=some u->VR g h w u->FR g h ce (setK x w fr0)
 el:∀ {g O O' s w v},FR g s.heap ce (setK x w fr0)->Rel C g O s.heap->el w O=some (v,O')->EvV C A (eval elt ce) g O' s v
 ts:∀ {g O O' s w b},FR g s.heap ce (setK x w fr0)->Rel C g O s.heap->ts w O=some (b,O')->Ev C A (forIn ifs true fun c r=>if r=true then do let ok <- isTrue c ce (eval c ce);pure (ForInStep.yield ok) else pure (ForInStep.yield r)) g O' s fun w0 w0 ok=>ok=b
variable {ce:Env}{fr0:Fr}{x:Str}{elt iter:Expr}{ifs:List Expr}{el:V->M V}{ts:V->M Bool}
noncomputable def CmI(C:Cx)(I D L:Addr)(o:V)(uo:Value)(cp:Nat->Nat->List V->M V)(v:V)(O':Store)(g:Gh)(s:Shared)(m:Nat)(sk:Shared):Prop :=
 ∃ gk Ok k acc mp,0 < sk.toks/\Tr (W3 I D L) g s gk sk/\Rel C gk Ok sk.heap/\CmA gk sk.heap I D L o uo k acc mp/\cp m k acc Ok=some (v,O')
theorem Usz{px pos:Pos}{scope:Scope}{Rr:Result->Shared->Prop}(hh:A.handled=none)(p:Ap I D L)(K:CmOk C A env ce fr fr0 x L elt ifs el ts)(F:FR g s.heap env fr)(R:Rel C g O s.heap)(ho:VR g s.heap o uo)
  (hW:∀ b,W3 I D L b->g.Z b) (hn:∀ a,a=env.locals\/(∃ n,env.cells.lookup n=some a)->¬ W3 I D L a)
  (r:∀ gk sk k acc mp h',0 < sk.toks->Tr (W3 I D L) g s gk sk->Rel C gk O' sk.heap->CmA gk sk.heap I D L o uo k acc mp->v=.lst acc->Heap.ExtBut I sk.heap h'->Rr (.ok .next) { sk with heap:=h' })
  (m:Nat) (hi:CmI C I D L o uo (compK o el ts) v O' g s m s):codeAny (model C.prog C.w) A (.compLoop (.ListComp elt [⟨.Name x px,iter,ifs,0⟩] scope pos) 0 (.ref I) (.ref D) ce) Rr s:=by
 refine codeAny_compLoop_tests (CmI C I D L o uo (compK o el ts) v O' g s) (fun m sk hinv=>?_) m hi;refine xEEEEEAAAAA hinv fun gk Ok k acc mp pk tk Rk ck ek=>?_;clear hinv hi;cases m with
 | zero=>exact (Uaa ek).elim
 | succ m =>
  refine bndL ek fun r e1 ek=>wpAny_mono (wpAny_toks_of pk (Upb hh Rk (VR.tr tk R.st hW o ho) ck.it e1 (fun r s₁=>0 < s₁.toks->_) _ (fun w u h' tk' hr hwu hit' sb p'=>?_) fun h' hr hb p'=>?_)) (fun w0 w0 x=>x.2 x.1) fun w0 w0 x=>x.2
  ·cases hr;refine xAAAA (ck.next p (tk:=tk') Rk sb hit') fun ta Ra ca va=>bndE ek fun b O₂ e2 ek=>?_;dsimp only;rw [arm_assign_Name];refine wpAny_bind (wpAny_standAt (wpAny_bindName (wpAny_storeName_local K.xl (K.loc.symm▸ca.ns) (fun h₂ ns2 sb2=>?_) K.nk)));rw [K.loc] at ns2 sb2;refine xAAAA (ca.name (s:={ sk with heap:=h',toks:=tk' }) p (tk:=tk'+1) Ra sb2 ns2) fun tb Rb cb vb=>?_;have tab:=tk.trans (ta.trans tb);have cL:=cb.own L (.inr (.inr rfl));have Fc:=K.fr (F.trW R tab hW hn) cL.1 cL.2 ns2 (if_pos rfl) (vb (va hwu));have pb:0 < ({ sk with heap:=h₂,toks:=tk'+1 }:Shared).toks:=Nat.succ_pos _;refine Ev.toks (K.ts (s:={ sk with heap:=h₂,toks:=tk'+1 }) Fc Rb e2) pb fun ok s₃ g₃ p₃ t₃ R3 hok=>?_;subst hok;have c3:=CmA.tr (s:={ sk with heap:=h₂,toks:=tk'+1 }) cb Rb t₃;cases ok with
   | false=>exact ⟨m,Nat.lt_succ_self _,g₃,O₂,k+1,acc,_,p₃,tab.trans t₃.none,R3,c3,ek⟩
   | true =>
    refine bndE ek fun y O₃ e3 ek=>iteM ek fun hlt ek=>Ev.toks (K.el (FR.tr (s:={ sk with heap:=h₂,toks:=tk'+1 }) Fc Rb t₃) R3 e3) p₃ fun uy s₄ g₄ p₄ t4 R4 huy=>?_;have c4:=c3.tr R3 t4;refine xEEAAA c4.acc fun its cnt hD ha hl=>append_at hD (fun h₅ sb5 hg5=>?_) (Uai (ha.size▸hl));refine xAAAA (c4.wr (tk:=s₄.toks) R4 (.inr (.inl rfl)) sb5 (Uae hg5) (acc':=acc++[y]) (c4.it.keep fun ob q=>(sb5.2 I p.id).trans q)
     (fun tr=>⟨_,_,hg5,by rw [Array.toList_push];exact VRs.app (tr ha) (tr (VRs.one huy)),by rw [List.length_append];exact hlt⟩) (Ns.same (b:=L) c4.ns fun ob q=>(sb5.2 L p.dl.symm).trans q)) fun t₅ R5 c5 w0=>?_
    exact ⟨m,Nat.lt_succ_self _,g₄,O₃,k+1,acc++[y],_,p₄,tab.trans ((t₃.trans t4).none.trans t₅),R5,c5,ek⟩
  ·cases hr;cases ek;exact r gk sk k acc mp h' pk tk Rk ck rfl hb
theorem Uq6{ob X:Obj}{h₁:Heap}{tk:Nat}(R:Rel C g O s.heap)(hI:s.heap.objs.size=I)(hD:(s.heap.push ob).objs.size=D)(hL:((s.heap.push ob).push (lo #[] 0)).objs.size=L)
  (hit:ItAt (s.heap.push ob) I o uo 0) (hns:h₁.Ns L mp) (sb:Heap.SameBut L (((s.heap.push ob).push (lo #[] 0)).push X) h₁) :
  ∃ g₁ s₁,{ s with heap:=h₁,toks:=tk }=s₁/\Ap I D L/\(∀ b,W3 I D L b->s.heap.get? b=none)/\Tr (fun w0=>False) g s g₁ s₁/\Rel C g₁ O s₁.heap/\CmA g₁ s₁.heap I D L o uo 0 [] mp:=by
 have d1:D=I+1:=by rw [<- hD,Heap.size_push,hI]
 have d2:L=I+2:=by rw [<- hL,Heap.size_push,hD,d1]
 have ge:∀ b,W3 I D L b->I<=b:=fun b w=>by
  rcases w with e | e | e
  ·exact e▸Nat.le_refl _
  ·exact e▸d1▸Nat.le_succ _
  ·exact e▸d2▸Nat.le_add_right _ _
 have lt:∀ {b ob'},s.heap.get? b=some ob'->b < I:=fun e=>hI▸Heap.lt_size e;have p:Ap I D L:=⟨d1▸Nat.ne_of_lt (Nat.lt_succ_self _),d2▸Nat.ne_of_lt (Nat.lt_add_of_pos_right (by decide)),by rw [d1,d2];exact Nat.ne_of_lt (Nat.lt_succ_self _)⟩
 have dead:∀ b,W3 I D L b->s.heap.get? b=none:=fun b hb=>by
  cases e':s.heap.get? b with
  | none=>rfl
  | some ob'=>exact absurd (ge b hb) (Nat.not_le.mpr (lt e'))
 have up:∀ b ob',b≠L->(s.heap.push ob).get? b=some ob'->h₁.get? b=some ob':=fun b ob' n e=>sb.extBut b ob' n (Heap.get?_push_of_some _ (Heap.get?_push_of_some _ e));have it:ItAt h₁ I o uo 0:=hit.keep fun ob' e=>up I ob' p.il e;have ac:h₁.get? D=some (lo #[] 0):=sb.extBut _ _ p.dl (Heap.get?_push_of_some _ (by rw [<- hD];exact Heap.get?_push_size _ rfl));refine xAA (R.zadd (s':={ s with heap:=h₁,toks:=tk }) (W3 I D L) (fun b o e=>up b o (Nat.ne_of_lt (Nat.lt_of_lt_of_le (lt e) (ge L (.inr (.inr rfl))))) (Heap.get?_push_of_some _ e)) (fun b hb=>⟨dead b hb,?_,Nat.lt_of_lt_of_le (hI▸R.low) (ge b hb)⟩) rfl rfl) fun t R'=>?_
 ·rcases hb with e | e | e
  ·exact e▸it.live
  ·exact e▸Uae ac
  ·exact e▸xEEEA hns fun w0 w0 w0 q=>Uae q.1
 ·exact ⟨_,_,rfl,p,dead,t,R',fun b hb=>⟨.inr hb,fun q=>R.zh b (R.st b q) (dead b hb)⟩,it,⟨#[],0,ac,rfl,Nat.zero_le _⟩,hns⟩
theorem Unz(hh:A.handled=none){scope:Scope}{px pos:Pos}(S:ES sc env)(K:CompS sc scope x)(F:FR g s.heap env fr)(R:Rel C g O s.heap)(ho:VR g s.heap o uo)(pt:0 < s.toks)
  (hK:∀ L,(∀ y c,env.cells.lookup y=some c->c≠L)->L≠env.locals->CmOk C A env (compEnvC scope (clOf env scope.names []) L env) fr (compFr scope fr) x L elt ifs el ts)
  (e:compK o el ts 200 0 [] O=some (v,O')) {RR:Value->Addr->Result->Shared->Prop} {E:Value->Shared->Prop}
  (fin:∀ D L s' g',Tr (fun w0=>False) g s g' s'->Rel C g' O' s'.heap->g'.Z L->¬ g'.St L->s.heap.get? L=none->VR g' s'.heap v (.ref D)->(∃ m,s'.heap.Ns L m)->D≠L->0 < s'.toks->RR (.ref D) L (.ok .next) s') :
  wpAny (model C.prog C.w) A (pyIter uo) (fun it s₂=>wpAny (model C.prog C.w) A (newList []) (fun acc s₃=>wpAny (model C.prog C.w) A (newFunctionEnv scope env.globals (clOf env scope.names []) [] env.qual none .none (some env)) (fun cenv s₄ =>
   codeAny (model C.prog C.w) A (.compStart (.ListComp elt [⟨.Name x px,iter,ifs,0⟩] scope pos) 0 it acc { cenv with scope:=relabel scope env }) (RR acc cenv.locals) s₄) E s₃) E s₂) E s:=by
 have hdraw:∃ k r,drawV o k O=some r:=bndL e fun r e1 w0=>⟨0,r,e1⟩
 refine Uo4 R ho hdraw _ _ fun ob hit w0=>wpAny_newObj_type (wpAny_newFunctionEnv K.cell (fun w0 h=>nomatch h) (fun h₁ hns sb=>?_) K.kind);refine xEEAAAAAA (Uq6 (tk:=s.toks+([]:List (Str×Value)).length) R rfl rfl rfl hit hns sb) fun g₁ s₁ e1 p dead t R1 c=>?_;skip;rw [e1]
 generalize s.heap.objs.size=I at *
 generalize (s.heap.push ob).objs.size=D at *
 generalize ((s.heap.push ob).push _).objs.size=L at *
 have hn:∀ a,a=env.locals\/(∃ n,env.cells.lookup n=some a)->¬ W3 I D L a:=fun a q w=>R.zh a (q.elim (fun e=>e▸F.zl) fun q=>xEA q fun n q=>(F.cell n a q).1) (dead a w);have loop:codeAny (model C.prog C.w) A (.compLoop (.ListComp elt [⟨.Name x px,iter,ifs,0⟩] scope pos) 0 (.ref I) (.ref D) (compEnvC scope (clOf env scope.names []) L env)) (RR (.ref D) L) s₁ :=
  Usz hh p (hK L (fun y c q e=>hn c (.inr ⟨y,q⟩) (.inr (.inr e))) fun e=>hn L (.inl e) (.inr (.inr rfl))) (F.tr R t) R1 (VR.tr' ho R t) (fun b w=>(c.own b w).1) hn (fun gk sk k acc mp h' pk tk Rk ck ev hb=>by
   have kk:∀ b ob',¬ (b=I\/b=D)->sk.heap.get? b=some ob'->h'.get? b=some ob':=fun b ob' nb e'=>hb b ob' (fun q=>nb (.inl q)) e';refine xAA (Rk.giveUp (W:=fun b=>b=I\/b=D) (h':=h') (fun b w=>ck.own b (w.elim .inl fun q=>.inr (.inl q))) kk) fun kp Rf=>?_;have tf:Tr (fun w0=>False) g s (gk.zdel fun b=>b=I\/b=D) { sk with heap:=h' }:=Tr.giveUp (t.none.trans tk) R dead (fun b w=>dead b (w.elim .inl fun q=>.inr (.inl q))) kk rfl rfl;have cL:=ck.own L (.inr (.inr rfl));refine xEEAAA ck.acc fun its cnt q r l=>fin D L _ _ tf Rf ⟨cL.1,fun q=>q.elim p.il.symm p.dl.symm⟩ cL.2 (dead L (.inr (.inr rfl))) ?_ ⟨mp,Ns.same (b:=L) ck.ns fun ob q=>hb L _ p.il.symm q⟩ p.dl pk;exact ev▸⟨D,its,cnt,rfl,hb D _ p.id.symm q,fun z=>z.2 (.inr rfl),VRs.kp kp acc r,l⟩)
   200 ⟨g₁,O,0,[],_,e1▸pt,Tr.refl _ _ _,R1,c,e⟩
 exact codeAny_compStart_list loop (Uny c.it _ _ loop)
end
section
variable {C:Cx}{A:Around}{cl:CC}{g g':Gh}{O O₁ O':Store}{s s':Shared}{n d:Nat}{sc:Scope}{fr:Fr}{env:Env}{h h':Heap}
theorem Tr.dead{W:Addr->Prop}(x:Tr W g s g' s'){b:Addr}(w:¬ W b)(e:s'.heap.get? b=Option.none):s.heap.get? b=Option.none:=by
 cases q:s.heap.get? b with
 | none=>rfl
 | some o=>exact absurd e (x.live b (by rw [q];exact Option.some_ne_none _) w)
theorem cmOk(ih:EvOk C A cl n){elt:Expr}{x:Str}{ifs:List Expr}{scope:Scope}(S:ES sc env)(K:CompS sc scope x)(L:Addr)(h1:∀ y c,env.cells.lookup y=some c->c≠L)(h2:L≠env.locals) :
  CmOk C A env (compEnvC scope (clOf env scope.names []) L env) fr (compFr scope fr) x L elt ifs (fun v=>evalE C.P cl n scope (setK x v (compFr scope fr)) elt) (fun v=>ifsE (fun fr' c=>testE C.P cl n scope fr' c) ifs (setK x v (compFr scope fr))) where
 xl:=lookup_relabel_local K.xl
 nk:=by show (scope.kind==_||(scope.kind==_&&_))=false;rw [K.kind];rfl
 loc:=rfl
 fr:=fun F z s ns e hv=>Ush S K F z s ns e hv ⟨h2,h1⟩
 el:=fun {g O O' s w v} F R q=>ih.ev scope _ elt _ g O O' s v (Upu K) F R q
 ts:=fun {g O O' s w b} F R q=>by
  rcases ifs with _ | ⟨c,_ | _⟩
  ·cases q;exact Ev.same R fun Q E q=>wpAny_tests_nil (q _ _ rfl)
  ·exact fun p Q E qq=>wpAny_tests_one (ih.test scope _ c _ g O O' s b (Upu K) F R q p Q E qq)
  ·exact (Uaa q).elim
theorem Uhv(hh:A.handled=none)(ih:EvOk C A cl n){elt iter:Expr}{x:Str}{px:Pos}{ifs:List Expr}{scope:Scope}{pos p:Pos}{o v:V}(S:ES sc env)(F:FR g s.heap env fr)(R:Rel C g O s.heap)
  (ns:notSet iter=true) (K:CompS sc scope x) (e1:evalE C.P cl n sc fr iter O=some (o,O₁))
  (e2:compK o (fun v=>evalE C.P cl n scope (setK x v (compFr scope fr)) elt) (fun v=>ifsE (fun fr' c=>testE C.P cl n scope fr' c) ifs (setK x v (compFr scope fr))) 200 0 [] O₁=some (v,O'))
  (use:Option (Value->Sem Unit)) (pt:0 < s.toks) {Q E:Value->Shared->Prop}
  (fin:∀ D L s' g',Tr (fun w0=>False) g s g' s'->Rel C g' O' s'.heap->g'.Z L->¬ g'.St L->s.heap.get? L=none->VR g' s'.heap v (.ref D)->(∃ m,s'.heap.Ns L m)->D≠L->0 < s'.toks ->
   compPost (model C.prog C.w) A E use Q (.ref D) L (.ok .next) s') :
  wpAny (model C.prog C.w) A (comprehension (.ListComp elt [⟨.Name x px,iter,ifs,0⟩] scope pos) scope env p (newList []) false (eval iter env) use) Q E s:=by
 have hs:∀ y,foldedSetIterable iter env y=pure y:=fun y=>by cases iter <;> first | rfl | cases ns
 refine wpAny_comprehension_free rfl hs (Uk6 fun q hq hf=>F.has _ (S.ce _ (K.free q hq hf).1)) K.kind (fun y hy hl=>K.loc y hy hl) ?_;refine Ev.toks (ih.ev sc fr iter env g O O₁ s o S F R e1) pt fun u s₁ g₁ p₁ t₁ R1 hu=>?_;exact Unz (RR:=fun acc L=>compPost (model C.prog C.w) A E use Q acc L) hh S K (F.tr R t₁) R1 hu p₁ (cmOk ih S K) e2 fun D L s' g' t' R' zL sL dL hv hn hne p' =>
  fin D L s' g' (t₁.trans t') R' zL sL (t₁.dead (fun f=>f) dL) hv hn hne p'
theorem Ui1{W:Addr->Prop}{L:Addr}{hh:Heap}{k:Nat}(x:Tr W g s g' s')(R0:Rel C g O s.heap)(R:Rel C g' O' s'.heap)(zL:g'.Z L)(sL:¬ g'.St L)(dL:s.heap.get? L=none)(wL:¬ W L)
  (sb:∀ b o,b≠L->s'.heap.get? b=some o->hh.get? b=some o) :
  Tr W g s (g'.zdel (·=L)) { s' with heap:=hh,toks:=k }/\Rel C (g'.zdel (·=L)) O' hh/\Kp g' s'.heap (g'.zdel (·=L)) hh:=by
 have kk:∀ b o,¬ (b=L)->s'.heap.get? b=some o->hh.get? b=some o:=fun b o n e=>sb b o n e;refine xAA (R.giveUp (W:=(·=L)) (h':=hh) (fun b e=>by subst e;exact ⟨zL,sL⟩) kk) fun kp R'=>?_;refine ⟨?_,R',kp⟩;have np:∀ b,s.heap.get? b≠none->¬ b=L:=fun b l e=>by subst e;exact l dL
 refine ⟨fun r i p e=>x.grow r i p e,fun b o e n w=>kk b o (np b (Uae e)) (x.keep b o e n w),fun a l w z=>x.zz a l w z.1,fun a z=>⟨x.zk a z,np a (R0.zh a z)⟩,fun a l w=>?_,fun b p q=>?_,x.gens,x.os⟩
 ·have l2:=x.live a l w;cases e:s'.heap.get? a with
  | none=>exact absurd e l2
  | some o =>
   have:hh.get? a=some o:=kk a o (np a l) e;show hh.get? a≠none;rw [this];exact Option.some_ne_none _
 ·exact x.fresh b p q
theorem Ug2{elt:Expr}{gens:List Comprehension}{scope:Scope}{pos:Pos}{v:V}{P:Prop}(q:evalE C.P cl (n+1) sc fr (.ListComp elt gens scope pos) O=some (v,O'))
  (k:∀ x px iter ifs o O₁,gens=[⟨.Name x px,iter,ifs,0⟩]->notSet iter=true->CompS sc scope x->evalE C.P cl n sc fr iter O=some (o,O₁) ->
   compK o (fun v=>evalE C.P cl n scope (setK x v (compFr scope fr)) elt) (fun v=>ifsE (fun fr' c=>testE C.P cl n scope fr' c) ifs (setK x v (compFr scope fr))) 200 0 [] O₁=some (v,O')->P):P :=
 bndO q fun d hd q=>xEA (Up1 hd) fun px e=>iteM q fun hc q=>bndE q fun o O₁ e1 q=>k d.1 px d.2.1 d.2.2 o O₁ e (Bool.and_eq_true_iff.mp hc).1 (Urn (Bool.and_eq_true_iff.mp hc).2) e1 q
theorem Usb(hh:A.handled=none)(ih:EvOk C A cl n):CompH C A cl n:=by
 intro sc fr elt gens scope pos env g O O' s v S F R q;refine Ug2 q fun x px iter ifs o O₁ qz1 ns K e1 e2=>?_;subst qz1;intro pt Q E qq;rw [eval_ListComp];refine Uhv hh ih S F R ns K e1 e2 none pt fun D L s' g' t' R' zL sL dL hv hn hne p'=>?_;refine xEA hn fun m hm=>?_;refine ⟨m,hm,fun h'' sb=>?_⟩;refine xAAA (Ui1 (k:=s'.toks) t' R R' zL sL dL (fun f=>f) sb.extBut) fun t R'' kp=>?_;exact qq _ _ _ t R'' (VR.kp kp v hv)
end
noncomputable def Wf(env:Env):Addr->Prop:=fun b=>b=env.locals\/∃ n,env.cells.lookup n=some b
section
variable {C:Cx}{A:Around}{cl:CC}{g g':Gh}{O O₁ O':Store}{s s':Shared}{n d:Nat}{sc:Scope}{fr:Fr}{env:Env}{h h':Heap}{W:Addr->Prop}
theorem FR.own(F:FR g h env fr):∀ b,Wf env b->g.Z b/\¬ g.St b:=fun b w=>by
 rcases w with rfl | ⟨n,w⟩
 ·exact ⟨F.zl,F.sl⟩
 ·exact ⟨(F.cell n b w).1,(F.cell n b w).2.1⟩
theorem Ex.frame{α:Type}{t:Sem α}{T T':Gh->Heap->α->Prop}(h:Ex C A W t g O s T)(k:∀ g' s' a,Tr W g s g' s'->T g' s'.heap a->T' g' s'.heap a):Ex C A W t g O s T' :=
 fun p Q E q=>h p Q E fun a s' g' x R t'=>q a s' g' x R (k _ _ _ x t')
theorem Ex.oper{vs:List Value}{t:Sem Value}{T:Gh->Heap->Value->Prop}(h:Ex C A W t g O s T):Ex C A W (operate vs t) g O s T:=fun p Q E q=>wpAny_operate' (h p Q E q)
theorem VR.trW{v:V}{u:Value}(hv:VR g s.heap v u)(R:Rel C g O s.heap)(F:FR g s.heap env fr)(x:Tr (Wf env) g s g' s'):VR g' s'.heap v u:=VR.tr x R.st (fun b w=>(F.own b w).1) v hv
theorem VRs.trW{v:List V}{u:List Value}(hv:VRs g s.heap v u)(R:Rel C g O s.heap)(F:FR g s.heap env fr)(x:Tr (Wf env) g s g' s'):VRs g' s'.heap v u:=VRs.tr x R.st (fun b w=>(F.own b w).1) v hv
set_option tactic.hygienic true in
theorem Ugm{x:Str}{v:V}{u:Value}{fr':Fr}(S:ES sc env)(F:FR g s.heap env fr)(R:Rel C g O s.heap)(hv:VR g s.heap v u)(e:setVar sc x v fr O=some (fr',O')) :
  Ex C A (Wf env) (storeName env x u) g O' s fun g' h' w0=>FR g' h' env fr':=by
 refine xAA (Uhb e) fun hx e=>?_;cases e;have nk:(env.scope.kind==.class||(env.scope.kind==.module&&env.locals != env.globals))=false:=by rw [F.kind];rfl
 have zs:∀ b,Wf env b->s.heap.get? b≠none:=fun b w=>R.zh b (F.own b w).1;rcases hx with hx | hx
 ·have kx:=S.lo x hx;refine xEAA F.ns fun m hns hm=>?_;intro p Q E q;refine wpAny_storeName_local kx hns (fun h' hns' sb=>?_) nk;refine xAA (R.write1 (W:=Wf env) (s':={ s with heap:=h',toks:=s.toks+1 }) F.own (a:=env.locals) (.inl rfl) sb (by obtain ⟨_,_,_,q,_⟩:=hns';exact Uae q) rfl rfl) fun t R'=>?_;refine q _ _ g t R' ?_;have kv:∀ {v:V} {u:Value},VR g s.heap v u->VR g h' v u:=fun {v u} h=>VR.trW (s':={ s with heap:=h',toks:=s.toks+1 }) h R F t;refine ⟨F.kind,F.glob,F.blt,F.dbg,F.zl,F.sl,⟨_,hns',fun y w hy hk=>?_⟩,fun y w hy=>?_,fun y c e=>?_,F.has,F.apart⟩
  ·rw [Udz] at hy;skip;split at hy
   ·rename_i z;subst z;cases hy;exact ⟨u,if_pos rfl,kv hv⟩
   ·rename_i z;refine xEAA (hm y w hy hk) fun u' a b=>?_;exact ⟨u',by rw [if_neg (fun q=>z q.symm)];exact a,kv b⟩
  ·rw [Udz] at hy;split at hy
   ·rename_i z;subst z;exact .inl kx
   ·rcases F.var y w hy with k | ⟨k,c,u',a,b,r⟩
    ·exact .inl k
    ·exact .inr ⟨k,c,u',a,b.sameBut sb (F.cell y c a).2.2.1,kv r⟩
  ·refine xAAAEA (F.cell y c e) fun a b c' u' r=>?_;exact ⟨a,b,c',u',r.sameBut sb c'⟩
 ·have kx:=S.ce x hx;refine xEA (F.has x kx) fun c hc=>?_;refine xAAAEA (F.cell x c hc) fun zc sc' ncl u0 hcell=>?_;refine xEAA F.ns fun m hns hm=>?_;intro p Q E q;refine wpAny_storeName_cell F.kind kx hc hcell fun h' hc' sb=>?_;refine xAA (R.write1 (W:=Wf env) (s':={ s with heap:=h' }) F.own (a:=c) (.inr ⟨x,hc⟩) sb (by obtain ⟨_,q,_⟩:=hc';exact Uae q) rfl rfl) fun t R'=>?_;refine q _ _ g t R' ?_;have kv:∀ {v:V} {u:Value},VR g s.heap v u->VR g h' v u:=fun {v u} h=>VR.trW (s':={ s with heap:=h' }) h R F t;refine ⟨F.kind,F.glob,F.blt,F.dbg,F.zl,F.sl,⟨m,hns.sameBut sb (Ne.symm ncl),fun y w hy hk=>?_⟩,fun y w hy=>?_,fun y c' e=>?_,F.has,F.apart⟩
  ·rw [Udz] at hy;split at hy
   ·rename_i z;subst z;rw [kx] at hk;cases hk
   ·refine xEAA (hm y w hy hk) fun u' a b=>?_;exact ⟨u',a,kv b⟩
  ·rw [Udz] at hy;split at hy
   ·rename_i z;subst z;cases hy;exact .inr ⟨.inl kx,c,u,hc,hc',kv hv⟩
   ·rename_i z;rcases F.var y w hy with k | ⟨k,c',u',a,b,r⟩
    ·exact .inl k
    ·exact .inr ⟨k,c',u',a,b.sameBut sb (fun q=>z (F.apart x y c hc (q▸a))),kv r⟩
  ·refine xAAAEA (F.cell y c' e) fun a b c'' u' r=>?_
   by_cases z:c'=c
   ·subst z;exact ⟨a,b,c'',some u,hc'⟩
   ·exact ⟨a,b,c'',u',r.sameBut sb z⟩
theorem xEE{α β:Type}{p:α->β->Prop}{P:Prop}(h:∃ a b,p a b)(k:∀ a b,p a b->P):P:=h.elim fun a h=>h.elim fun b h=>k a b h
theorem xEEE{α β γ:Type}{p:α->β->γ->Prop}{P:Prop}(h:∃ a b c,p a b c)(k:∀ a b c,p a b c->P):P:=h.elim fun a h=>xEE h fun b c h=>k a b c h
theorem tgt1{v:V}(t:Expr):(∃ x p,t=.Name x p)\/(∃ o x p,t=.Attribute o x p)\/(∃ o i p,t=.Subscript o i p)\/assignE C.P cl sc n fr v t=fail:=by
 have k:∀ t,assignE C.P cl sc n fr v t=fail->(∃ x p,t=.Name x p)\/(∃ o x p,t=.Attribute o x p)\/(∃ o i p,t=.Subscript o i p)\/assignE C.P cl sc n fr v t=fail:=fun t h=>.inr (.inr (.inr h));cases t with
 | Name x p=>exact .inl ⟨_,_,rfl⟩
 | Attribute o x p=>exact .inr (.inl ⟨_,_,_,rfl⟩)
 | Subscript o x p=>exact .inr (.inr (.inl ⟨_,_,_,rfl⟩))
 | _=>exact k _ rfl
theorem Ujx(Fa:Facts C)(cf:CF C)(ih:EvOk C A cl n){t:Expr}{v:V}{u:Value}{fr':Fr}(S:ES sc env)(F:FR g s.heap env fr)(R:Rel C g O s.heap)(hv:VR g s.heap v u)
  (e:assignE C.P cl sc n fr v t O=some (fr',O')):Ex C A (Wf env) (assign t env u) g O' s fun g' h' w0=>FR g' h' env fr':=by
 refine (tgt1 (C:=C) (cl:=cl) (n:=n) (sc:=sc) (fr:=fr) (v:=v) t).elim (fun h=>?_) fun h=>h.elim (fun h=>?_) fun h=>h.elim (fun h=>?_) fun h=>?_
 ·refine xEE h fun x p qz=>?_;subst qz;rw [arm_assign_Name];refine Ex.at_ ?_;intro p' Q E q;exact wpAny_bindName (Ugm S F R hv e p' Q E q)
 ·refine xEEE h fun o x p qz=>?_;subst qz;refine bndE e fun ov O₁ e1 e=>?_;refine bndE e fun w0 O₂ e2 e=>?_;cases e;rw [arm_assign_Attribute];refine Ex.of (Ev.bind (Ev.hold (ih.ev sc fr o env g O O₁ s ov S F R e1)) fun uo s₁ g₁ t₁ R1 huo=>Ev.at_ ?_);refine Ev.bind (Ev.hold (Uf5 Fa cf R1 huo (hv.tr' R t₁) e2)) fun w0 s₂ g₂ t₂ R2 w0=>?_;intro p' Q E q;exact wpAny_release' (q () s₂ g₂ (Tr.refl _ _ _) R2 ((F.tr R t₁).tr R1 t₂))
 ·refine xEEE h fun o i p qz=>?_;subst qz;refine bndE e fun ov O₁ e1 e=>?_;refine bndE e fun iv O₂ e2 e=>?_;refine bndE e fun w0 O₃ e3 e=>?_;cases e;rw [arm_assign_Subscript];refine Ex.of (Ev.bind (Ev.hold (ih.ev sc fr o env g O O₁ s ov S F R e1)) fun uo s₁ g₁ t₁ R1 huo=>?_);refine Ev.bind (Ev.hold (ih.ev sc fr i env g₁ O₁ O₂ s₁ iv S (F.tr R t₁) R1 e2)) fun ui s₂ g₂ t₂ R2 hui=>Ev.at_ ?_;refine Ev.bind (Ev.hold (Ukd R2 (huo.tr' R1 t₂) hui ((hv.tr' R t₁).tr' R1 t₂) e3)) fun w0 s₃ g₃ t₃ R3 w0=>?_;intro p' Q E q;exact wpAny_release' (q () s₃ g₃ (Tr.refl _ _ _) R3 (((F.tr R t₁).tr R1 t₂).tr R2 t₃))
 ·rw [h] at e;exact (Uaa e).elim
end
noncomputable def FlR(g:Gh)(h:Heap)(env:Env):Fl->Flow->Prop
 | .next fr',f=>f=.next/\FR g h env fr'
 | .ret v,f=>∃ u,f=.ret u/\VR g h v u
section
variable {C:Cx}{A:Around}{cl:CC}{g g':Gh}{O O₁ O':Store}{s s':Shared}{n d:Nat}{sc:Scope}{fr:Fr}{env:Env}{h h':Heap}{W:Addr->Prop}
theorem FR.lk{fr':Fr}(F:FR g h env fr)(e:∀ x v,lk x fr'=some v->lk x fr=some v):FR g h env fr':=by
 refine xEAA F.ns fun m hns hm=>?_;exact ⟨F.kind,F.glob,F.blt,F.dbg,F.zl,F.sl,⟨m,hns,fun x v hx hk=>hm x v (e x v hx) hk⟩,fun x v hx=>F.var x v (e x v hx),F.cell,F.has,F.apart⟩
noncomputable def putAll(ps:List (Str×V))(fr:Fr):Fr:=ps.foldl (fun fr p=>setK p.1 p.2 fr) fr
theorem Ugy:∀ (ps:List (Str×V)) (fr:Fr) (x:Str),(ps.map (·.1)).Nodup->lk x (putAll ps fr)=match lk x ps with | some v=>some v | none=>lk x fr
 | [],fr,x,_=>rfl
 | (y,v)::ps,fr,x,hn=>by
  rw [List.map_cons,List.nodup_cons] at hn;have ih:=Ugy ps (setK y v fr) x hn.2;show lk x (putAll ps (setK y v fr))=_;rw [ih,Udz]
  by_cases q:y=x
  ·subst q;have:lk y ps=none:=by
    cases e:lk y ps with
    | none=>rfl
    | some w=>exact absurd (List.mem_map.mpr ⟨_,lk_mem e,rfl⟩) hn.1
   simp only [this,lk,beq_self_eq_true,if_true]
  ·have e:(y==x)=false:=beq_eq_false_iff_ne.mpr q;simp only [lk,e,Bool.false_eq_true,if_false,q]
theorem lk_iff:∀ {ps:List (Str×V)},(ps.map (·.1)).Nodup->∀ (x:Str) (v:V),lk x ps=some v ↔ (x,v) ∈ ps
 | [],_,x,v=>by simp [lk]
 | (y,w)::ps,hn,x,v=>by
  rw [List.map_cons,List.nodup_cons] at hn;constructor
  ·exact lk_mem
  ·intro hm;rcases List.mem_cons.mp hm with e | hm
   ·cases e;simp [lk]
   ·have:¬ y=x:=fun e=>hn.1 (List.mem_map.mpr ⟨_,hm,e.symm⟩);have e:(y==x)=false:=beq_eq_false_iff_ne.mpr this;simp only [lk,e,Bool.false_eq_true,if_false];exact (lk_iff hn.2 x v).mpr hm
theorem lk_rev{ps:List (Str×V)}(hn:(ps.map (·.1)).Nodup)(x:Str):lk x ps.reverse=lk x ps:=by
 have hr:(ps.reverse.map (·.1)).Nodup:=by rw [List.map_reverse];exact (List.reverse_perm _).nodup_iff.mpr hn
 cases e:lk x ps with
 | some v=>exact (lk_iff hr x v).mpr (List.mem_reverse.mpr ((lk_iff hn x v).mp e))
 | none =>
  cases e':lk x ps.reverse with
  | none=>rfl
  | some v =>
   have:=(lk_iff hn x v).mpr (List.mem_reverse.mp ((lk_iff hr x v).mp e'));rw [e] at this;cases this
theorem Ujp(S:ES sc env):∀ (ps:List (Str×V)) (us:List Value) {fr:Fr} {g:Gh} {s:Shared},FR g s.heap env fr->Rel C g O s.heap->VRs g s.heap (ps.map (·.2)) us ->
  (∀ p ∈ ps,sc.names.lookup p.1=some .local)->Ex C A (Wf env) (assignInOrder (ps.map fun p=>bindName env p.1) us) g O s fun g' h' w0=>FR g' h' env (putAll ps fr)
 | [],us,fr,g,s,F,R,hv,hl=>by
  show Ex C A (Wf env) (assignInOrder [] us) g O s _;have:assignInOrder [] us=pure ():=by delta assignInOrder;rfl
  rw [this];exact Ex.ret R F
 | (x,v)::ps,us,fr,g,s,F,R,hv,hl=>by
  simp only [List.map_cons,VRs] at hv;refine xEEAAA hv fun u r qz1 h1 h2=>?_;subst qz1;have hx:=hl (x,v) List.mem_cons_self;have:assignInOrder (((x,v)::ps).map fun p=>bindName env p.1) (u::r)=(holding r (bindName env x u) >>= fun w0=>assignInOrder (ps.map fun p=>bindName env p.1) r):=by
   rw [List.map_cons];rfl
  rw [this];have st:Ex C A (Wf env) (bindName env x u) g O s (fun g' h' w0=>FR g' h' env (setK x v fr)):=fun p Q E q =>
   wpAny_bindName (Ugm S F R h1 (by delta setVar setOk;rw [hx];rfl) p Q E q)
  refine Ex.bind (Ex.hold (Ex.frame st (T':=fun g' h' w0=>FR g' h' env (setK x v fr)/\VRs g' h' (ps.map (·.2)) r) fun g' s' w0 t f=>⟨f,VRs.trW h2 R F t⟩)) fun w0 s₁ g₁ t₁ R1 hf=>?_;exact Ujp S ps r hf.1 R1 hf.2 fun p hp=>hl p (List.mem_cons_of_mem _ hp)
set_option tactic.hygienic true in
theorem Ujo(f:Expr->Option Str)(hf:∀ t x,f t=some x->nameT t=true/\(∀ r,names (t::r)=x::names r)/\env.kindOf x=some .local):∀ {ts:List Expr},(ts.filterMap f).length=ts.length ->
  ts.filterMap f=names ts/\(∀ x ∈ names ts,env.kindOf x=some .local)/\(ts.map nameT).all id=true
 | [],_=>⟨rfl,by simp [names],rfl⟩
 | t::ts,h=>by
  rw [List.filterMap_cons] at h ⊢;have hle:(ts.filterMap f).length<=ts.length:=List.length_filterMap_le ..;split at h
  ·rw [List.length_cons] at h;omega
  ·rename_i x hx;simp only [List.length_cons,Nat.add_right_cancel_iff] at h;refine xAAA (Ujo f hf h) fun a b c=>?_;refine xAAA (hf t x hx) fun h1 h2 h3=>?_;refine ⟨by rw [h2,a],fun y hy=>?_,by simp only [List.map_cons,List.all_cons,h1,id,Bool.true_and];exact c⟩;rw [h2] at hy;rcases List.mem_cons.mp hy with rfl | hy
   ·exact h3
   ·exact b y hy
set_option tactic.hygienic true in
theorem Uhd{ts:List Expr}{k:Nat}{p:Pos}{e:Expr}(ok:tupOk e=true):swappedStores [.Tuple ts k p] e env=pure none \/
  (swappedStores [.Tuple ts k p] e env=pure (some (names ts))/\(∀ x ∈ names ts,env.kindOf x=some .local)/\(ts.map nameT).all id=true):=by
 delta swappedStores;cases e with
 | Tuple vs k2 p2 =>
  dsimp only;simp only [tupOk,Bool.or_eq_true,Bool.not_eq_true'] at ok;split
  ·exact .inl rfl
  split
  ·exact .inl rfl
  split
  ·exact .inl rfl
  ·rename_i h1 h2 h3;rw [Bool.not_eq_true,Bool.or_eq_false_iff] at h3;have hl:=h3.1;rw [bne_eq_false_iff_eq] at hl;obtain ⟨a,b,c⟩:=Ujo (env:=env) _ (fun t x hx=>by
    split at hx
    ·split at hx
     ·rename_i hk;cases hx;rw [Bool.and_eq_true,beq_iff_eq] at hk;exact ⟨rfl,fun w0=>rfl,hk.1⟩
     ·cases hx
    ·cases hx) hl
   split
   ·exact .inl rfl
   ·rename_i h4;split
    ·rename_i h5;rcases ok with ok | ok
     ·rw [h5] at ok;cases ok
     ·exact absurd ok h4
    ·exact .inr ⟨by rw [a],b,c⟩
 | _=>exact .inl rfl
end
section
variable {C:Cx}{A:Around}{cl:CC}{g g':Gh}{O O₁ O':Store}{s s':Shared}{n d:Nat}{sc:Scope}{fr:Fr}{env:Env}{h h':Heap}{W:Addr->Prop}
theorem FR.giveUp{L:Addr}{hh:Heap}(F:FR g h env fr)(kp:Kp g h (g.zdel (·=L)) hh)(hL:¬ Wf env L)(kk:∀ b o,b≠L->h.get? b=some o->hh.get? b=some o):FR (g.zdel (·=L)) hh env fr :=
 F.kp kp fun a q=>⟨⟨(F.own a q).1,fun e=>hL (e▸q)⟩,(F.own a q).2,fun o e=>kk a o (fun e=>hL (e▸q)) e⟩
theorem FR.dead{b:Addr}(F:FR g s.heap env fr)(R:Rel C g O s.heap)(d:s.heap.get? b=none):¬ Wf env b:=fun w=>R.zh b (F.own b w).1 d
theorem Uj8(hh:A.handled=none)(ih:EvOk C A cl n){elt:Expr}{gens:List Comprehension}{scope:Scope}{cpos py pos:Pos}{y:Str}{v:V}{fr':Fr}(S:ES sc env)(F:FR g s.heap env fr)(R:Rel C g O s.heap)
  (q:evalE C.P cl (n+1) sc fr (.ListComp elt gens scope cpos) O=some (v,O₁)) (e3:setVar sc y v fr O₁=some (fr',O'))
  (hs:swapsWith (.ListComp elt gens scope cpos) (some (.Name y py)) pos.line env=pure true) :
  Ex C A (Wf env) (exec (.Assign [.Name y py] (.ListComp elt gens scope cpos) pos) env) g O' s fun g' h' f=>FlR g' h' env (.next fr') f:=by
 refine Ug2 q fun x px iter ifs o O₂ qz1 ns K e1 e2=>?_;subst qz1;intro pt Q E qq;rw [exec_Assign_Name_used _ _ _ _ hs];refine wpAny_bind (wpAny_standAt (wpAny_bind ?_));show wpAny _ A (do let _ <- comprehension (.ListComp elt [⟨.Name x px,iter,ifs,0⟩] scope cpos) scope env _ (newList []) false (eval iter env) (some (assign (.Name y py) env))) _ _ s;refine wpAny_bind (wpAny_mono (Uhv (Q:=fun w0 s'=>Q .next s') hh ih S F R ns K e1 e2 (some (assign (.Name y py) env)) pt fun D L s' g' t' R' zL sL dL hv hn hne p'=>?_) (fun w0 s' hq=>wpAny_pure (wpAny_pure hq)) fun w0 w0 e=>e);show wpAny _ A (assign (.Name y py) env (.ref D)) _ E s';rw [arm_assign_Name];refine wpAny_bind (wpAny_standAt (wpAny_bindName (Ugm S (F.tr R t') R' hv e3 p' _ E fun w0 s'' g'' t'' R'' F''=>?_)));have wL:=F.dead R dL;refine xEEEEAA hn fun m ol es ep ho rest=>?_;refine ⟨m,⟨ol,es,ep,t''.keep _ _ ho sL wL,rest⟩,fun h₃ sb=>?_⟩;refine xAAA (Ui1 (k:=s''.toks) (t'.none.trans t'') R R'' (t''.zk _ zL) (t''.notSt (Uae ho) sL wL) dL wL sb.extBut) fun t Rf kp=>?_;exact qq _ _ _ t Rf ⟨rfl,F''.giveUp kp wL sb.extBut⟩
theorem Uaw{t:Expr}{v:V}{fr':Fr}(e:assignE C.P cl sc n fr v t O=some (fr',O')):(∃ x p,t=.Name x p)\/(∃ o x p,t=.Attribute o x p)\/(∃ o i p,t=.Subscript o i p):=by
 delta assignE at e;split at e
 ·exact .inl ⟨_,_,rfl⟩
 ·exact .inr (.inl ⟨_,_,_,rfl⟩)
 ·exact .inr (.inr ⟨_,_,_,rfl⟩)
 ·exact (Uaa e).elim
theorem Ug9{P:Prog}{e:Expr}{r:V×Store}(q:evalE P cl n sc fr e O=some r):(∃ a b c d,e=.ListComp a b c d)\/notComp e=true:=by
 cases e with
 | ListComp a b c d=>exact .inl ⟨_,_,_,_,rfl⟩
 | SetComp a b c d=>cases n <;> exact (Uaa q).elim
 | DictComp a b c d=>cases n <;> exact (Uaa q).elim
 | _=>exact .inr rfl
theorem Ugb{e:Expr}{t:Option Expr}{k:Nat}(h:notComp e=true):swapsWith e t k env=pure false:=by
 cases e <;> first | rfl | cases h
theorem Uk1(Fa:Facts C)(cf:CF C)(hh:A.handled=none)(ev:∀ m,EvOk C A cl m){t e:Expr}{pos:Pos}{v:V}{fr':Fr}(S:ES sc env)(F:FR g s.heap env fr)(R:Rel C g O s.heap)
  (q:evalE C.P cl n sc fr e O=some (v,O₁)) (e3:assignE C.P cl sc n fr v t O₁=some (fr',O')) :
  Ex C A (Wf env) (exec (.Assign [t] e pos) env) g O' s fun g' h' f=>FlR g' h' env (.next fr') f:=by
 have plain:swapsWithSole [t] e pos.line env=pure false->Ex C A (Wf env) (exec (.Assign [t] e pos) env) g O' s fun g' h' f=>FlR g' h' env (.next fr') f:=fun hs=>by
  have hw:swappedStores [t] e env=pure none:=by
   rcases Uaw e3 with ⟨x,p,rfl⟩ | ⟨o,x,p,rfl⟩ | ⟨o,i,p,rfl⟩ <;> rfl
  have ha:∀ u,assignAll u ((assignEach [t] env).map (·.2))=assign t env u:=fun u=>by
   rcases Uaw e3 with ⟨x,p,rfl⟩ | ⟨o,x,p,rfl⟩ | ⟨o,i,p,rfl⟩ <;> rfl
  intro pt Q E qq;refine wpAny_Assign_stores ?_ hs hw;refine wpAny_mono (wpAny_toks_of pt ((ev n).ev sc fr e env g O O₁ s v S F R q pt (fun u s₁=>0 < s₁.toks->wpAny (model C.prog C.w) A (assignAll u ((assignEach [t] env).map (·.2))) (fun w0=>Q .next) E s₁) E fun u s₁ g₁ t₁ R1 hu p₁=>?_)) (fun w0 w0 x=>x.2 x.1) fun w0 w0 x=>x.2;rw [ha];exact Ujx Fa cf (ev n) S (F.tr R t₁) R1 hu e3 p₁ (fun w0=>Q .next) E fun w0 s₂ g₂ t₂ R2 F2=>qq _ _ _ (t₁.none.trans t₂) R2 ⟨rfl,F2⟩
 rcases Ug9 q with ⟨elt,gens,scope,cpos,rfl⟩ | hn
 ·rcases Uaw e3 with ⟨x,p,rfl⟩ | ⟨o,x,p,rfl⟩ | ⟨o,i,p,rfl⟩
  ·obtain ⟨b,hb⟩:∃ b,swapsWith (.ListComp elt gens scope cpos) (some (.Name x p)) pos.line env=pure b:=⟨_,rfl⟩
   cases b with
   | false=>exact plain hb
   | true =>
    cases n with
    | zero=>exact (Uaa q).elim
    | succ n=>exact Uj8 hh (ev n) S F R q (by delta assignE at e3;exact e3) hb
  ·exact plain rfl
  ·exact plain rfl
 ·exact plain (Ugb hn)
theorem Umm:∀ {ts:List Expr} {vs:List V} {fr fr':Fr} {O:Store},assignEs C.P cl sc n fr vs ts O=some (fr',O')->(∀ x ∈ assignEach ts env,x.1=false)/\(assignEach ts env).length=vs.length
 | [],[],_,_,_,_=>by simp [arm_assignEach_nil]
 | t::ts,v::vs,fr,fr',O,e=>by
  unfold assignEs at e;refine bndE e fun fr2 O₂ e1' e=>?_;have he:assignEach (t::ts) env=(false,assign t env)::assignEach ts env:=by
   rcases Uaw e1' with ⟨x,p,rfl⟩ | ⟨o,x,p,rfl⟩ | ⟨o,i,p,rfl⟩ <;> rfl
  refine xAA (Umm e) fun a b=>?_;rw [he];exact ⟨fun x hx=>by rcases List.mem_cons.mp hx with rfl | hx;exact rfl;exact a x hx,by simp [b]⟩
 | [],_::_,_,_,_,e=>by unfold assignEs at e;exact (Uaa e).elim
 | _::_,[],_,_,_,e=>by unfold assignEs at e;exact (Uaa e).elim
theorem Ulo(Fa:Facts C)(cf:CF C)(ev:EvOk C A cl n)(S:ES sc env):∀ (ts:List Expr) (vs:List V) (us:List Value) {fr fr':Fr} {g:Gh} {s:Shared} {O:Store},FR g s.heap env fr->Rel C g O s.heap->VRs g s.heap vs us ->
  assignEs C.P cl sc n fr vs ts O=some (fr',O')->Ex C A (Wf env) (assignInOrder ((assignEach ts env).map (·.2)) us) g O' s (fun g' h' w0=>FR g' h' env fr')/\(∀ x ∈ assignEach ts env,x.1=false)/\(assignEach ts env).length=vs.length
 | [],[],us,fr,fr',g,s,O,F,R,hv,e=>by
  delta assignEs at e;cases e;refine ⟨?_,by simp [arm_assignEach_nil],by simp [arm_assignEach_nil]⟩;have:assignInOrder ((assignEach [] env).map (·.2)) us=pure ():=by unfold assignInOrder;rfl
  rw [this];exact Ex.ret R F
 | t::ts,v::vs,us,fr,fr',g,s,O,F,R,hv,e=>by
  unfold assignEs at e;refine bndE e fun fr₁ O₁ e1 e=>?_;dsimp only [VRs] at hv;refine xEEAAA hv fun u r qz1 h1 h2=>?_;subst qz1;have he:assignEach (t::ts) env=(false,assign t env)::assignEach ts env:=by
   rcases Uaw e1 with ⟨x,p,rfl⟩ | ⟨o,x,p,rfl⟩ | ⟨o,i,p,rfl⟩ <;> rfl
  have st:=Ex.frame (Ujx Fa cf ev S F R h1 e1) (T':=fun g' h' w0=>FR g' h' env fr₁/\VRs g' h' vs r) fun g' s' w0 t f=>⟨f,VRs.trW h2 R F t⟩
  have rest:=fun (g₁:Gh) (s₁:Shared) (F₁:FR g₁ s₁.heap env fr₁) (R1:Rel C g₁ O₁ s₁.heap) (h₁:VRs g₁ s₁.heap vs r)=>Ulo Fa cf ev S ts vs r F₁ R1 h₁ e;rw [he];have len:=Umm (env:=env) e;refine ⟨?_,fun x hx=>by rcases List.mem_cons.mp hx with rfl | hx;exact rfl;exact len.1 x hx,by simp [len.2]⟩;show Ex C A (Wf env) (holding r (assign t env u) >>= fun w0=>assignInOrder ((assignEach ts env).map (·.2)) r) g O' s _;exact Ex.bind (Ex.hold st) fun w0 s₁ g₁ t₁ R1 hf=>(rest g₁ s₁ hf.1 R1 hf.2).1
 | [],_::_,us,fr,fr',g,s,O,F,R,hv,e=>by delta assignEs at e;exact (Uaa e).elim
 | _::_,[],us,fr,fr',g,s,O,F,R,hv,e=>by delta assignEs at e;exact (Uaa e).elim
theorem Ujs(S:ES sc env):∀ {ts:List Expr} {vs:List V} {fr fr':Fr},(ts.map nameT).all id=true->(∀ x ∈ names ts,env.kindOf x=some .local)->assignEs C.P cl sc n fr vs ts O=some (fr',O') ->
  O'=O/\vs.length=(names ts).length/\fr'=putAll ((names ts).zip vs) fr/\(∀ x ∈ names ts,sc.names.lookup x=some .local)/\ts.length=(names ts).length
 | [],[],fr,fr',_,_,e=>by delta assignEs at e;cases e;exact ⟨rfl,rfl,rfl,by simp [names],rfl⟩
 | t::ts,v::vs,fr,fr',ha,hk,e=>by
  unfold assignEs at e;refine bndE e fun fr₁ O₁ e1 e=>?_;rw [List.map_cons,List.all_cons,Bool.and_eq_true] at ha;cases t with
  | Name x p =>
   refine xAA (Uhb e1) fun ho e1=>?_;have kx:=hk x (by simp [names]);have hx:sc.names.lookup x=some .local:=ho.elim id fun ho=>by rw [S.ce x ho] at kx;cases kx
   cases e1;refine xAAAAA (Ujs S ha.2 (fun y hy=>hk y (by simp [names,hy])) e) fun a b c d e'=>?_;refine ⟨a,by simp [names,b],c,fun y hy=>?_,by simp [names,e']⟩;simp only [names,List.mem_cons] at hy;rcases hy with rfl | hy
   ·exact hx
   ·exact d y hy
  | _=>exact absurd ha.1 (by simp [nameT])
 | [],_::_,_,_,_,_,e=>by delta assignEs at e;exact (Uaa e).elim
 | _::_,[],_,_,_,_,e=>by delta assignEs at e;exact (Uaa e).elim
theorem Uim:∀ {l:List Str},nodupB l=true->l.Nodup
 | [],_=>List.nodup_nil
 | x::r,h=>by
  simp only [nodupB,Bool.and_eq_true,Bool.not_eq_true',List.any_eq_false,beq_iff_eq] at h;exact List.nodup_cons.mpr ⟨fun hm=>h.1 x hm rfl,Uim h.2⟩
theorem Ulx:∀ {l:List Str} {vs:List V},vs.length=l.length->(l.zip vs).map (·.1)=l/\(l.zip vs).map (·.2)=vs
 | [],[],_=>⟨rfl,rfl⟩
 | x::l,v::vs,h=>by
  refine xAA (Ulx (l:=l) (vs:=vs) (by simpa using h)) fun a b=>?_;exact ⟨by simp [a],by simp [b]⟩
 | [],_::_,h=>by simp at h
 | _::_,[],h=>by simp at h
theorem VRs.rev:∀ {vs:List V} {us:List Value},VRs g h vs us->VRs g h vs.reverse us.reverse
 | [],_,e=>by dsimp only [VRs] at e;subst e;simp [VRs]
 | v::vs,_,e=>by
  dsimp only [VRs] at e;refine xEEAAA e fun u r qz1 a b=>?_;subst qz1;rw [List.reverse_cons,List.reverse_cons];exact VRs.app (VRs.rev b) (VRs.one a)
theorem Uq0(Fa:Facts C)(cf:CF C)(hh:A.handled=none)(ev:∀ m,EvOk C A cl m){ts:List Expr}{k:Nat}{tp pos:Pos}{e:Expr}{v:V}{vs:List V}{fr':Fr}(S:ES sc env)(F:FR g s.heap env fr)(R:Rel C g O s.heap)
  (ok:tupOk e=true) (nd:nodupB (names ts)=true) (q:evalE C.P cl n sc fr e O=some (v,O₁)) (hv:tupV v=some vs) (e3:assignEs C.P cl sc n fr vs ts O₁=some (fr',O')) :
  Ex C A (Wf env) (exec (.Assign [.Tuple ts k tp] e pos) env) g O' s fun g' h' f=>FlR g' h' env (.next fr') f:=by
 have hs:swapsWithSole [.Tuple ts k tp] e pos.line env=pure false:=by
  cases e <;> rfl
 have vt:v=.tup vs:=by delta tupV at hv;split at hv <;> cases hv;rfl
 subst vt;intro pt Q E qq;have up:∀ {s₁:Shared} {g₁:Gh} {h':Heap},Rel C g₁ O₁ s₁.heap->Heap.ExtBut s₁.heap.objs.size s₁.heap h'->Tr (fun w0=>False) g₁ s₁ g₁ { s₁ with heap:=h' }/\Rel C g₁ O₁ h':=fun {s₁ g₁ h'} R1 hb=>by
  have kk:∀ b o,s₁.heap.get? b=some o->h'.get? b=some o:=fun b o e=>hb b o (Nat.ne_of_lt (Heap.lt_size e)) e;exact ⟨Tr.grown kk rfl rfl,R1.grown (s':={ s₁ with heap:=h' }) kk rfl rfl⟩
 rcases Uhd (env:=env) (ts:=ts) (k:=k) (p:=tp) ok with hw | ⟨hw,hk,ha⟩
 ·refine Assign_Tuple ?_ hs hw;refine wpAny_mono (wpAny_toks_of pt ((ev n).ev sc fr e env g O O₁ s _ S F R q pt (fun u s₁=>0 < s₁.toks->wpAny (model C.prog C.w) A (assign (.Tuple ts k tp) env u) (fun w0=>Q .next) E s₁) E fun u s₁ g₁ t₁ R1 hu p₁=>?_)) (fun w0 w0 x=>x.2 x.1) fun w0 w0 x=>x.2;dsimp only [VR] at hu;refine xEEEAAAAA hu fun a its m qz1 hg hz hr hl=>?_;subst qz1;have eo:=Ulo Fa cf (ev n) S ts vs its.toList (F.tr R t₁) R1 hr e3;have hlen:=hr.len;rw [Array.length_toList] at hlen;rw [arm_assign_Tuple];refine wpAny_bind (wpAny_standAt (wpAny_unpack_tuple hh (VR.isTup hg) (by rw [eo.2.2,hlen]) (by rw [List.findIdx?_eq_none_iff];exact eo.2.1) fun h' hb=>?_));refine xAA (up R1 hb) fun t₂ R2=>?_;have eo2:=Ulo Fa cf (ev n) S ts vs its.toList (s:={ s₁ with heap:=h' }) ((F.tr R t₁).tr R1 t₂) R2 (VRs.tr' hr R1 t₂) e3;exact eo2.1 p₁ (fun w0=>Q .next) E fun w0 s₃ g₃ t₃ R3 F3=>qq _ _ _ ((t₁.trans t₂).none.trans t₃) R3 ⟨rfl,F3⟩
 ·refine Assign_Tuple_swapped ?_ hs hw;refine wpAny_mono (wpAny_toks_of pt ((ev n).ev sc fr e env g O O₁ s _ S F R q pt (fun u s₁=>0 < s₁.toks->wpAny (model C.prog C.w) A (unpackItems u (names ts).length none) (fun items s₂ =>
   wpAny (model C.prog C.w) A (assignInOrder ((names ts).reverse.map fun n=>bindName env n) items.reverse) (fun w0=>Q .next) E s₂) E s₁) E fun u s₁ g₁ t₁ R1 hu p₁=>?_)) (fun w0 w0 x=>x.2 x.1) fun w0 w0 x=>x.2
  dsimp only [VR] at hu;refine xEEEAAAAA hu fun a its m qz1 hg hz hr hl=>?_;subst qz1;refine xAAAAA (Ujs S ha hk e3) fun qz1 b qz2 hsc d=>?_;subst qz1;subst qz2;have hlen:=hr.len;rw [Array.length_toList] at hlen;rw [show (names ts).length=its.size by omega];refine wpAny_unpackItems_tuple hh (VR.isTup hg) fun h' hb=>?_;refine xAA (up R1 hb) fun t₂ R2=>?_;refine xAA (Ulx (l:=names ts) (vs:=vs) b) fun z1 z2=>?_;have so:=Ujp (C:=C) (A:=A) S ((names ts).zip vs).reverse its.toList.reverse (s:={ s₁ with heap:=h' }) ((F.tr R t₁).tr R1 t₂) R2
   (by rw [List.map_reverse,z2];exact VRs.rev (VRs.tr' hr R1 t₂)) fun p hp=>hsc _ (by rw [<- z1];exact List.mem_map.mpr ⟨p,List.mem_reverse.mp hp,rfl⟩)
  have em:(((names ts).zip vs).reverse.map fun p=>bindName env p.1)=(names ts).reverse.map fun n=>bindName env n:=by
   rw [List.map_reverse,List.map_reverse]
   congr 1
   conv=>rhs;rw [<- z1]
   rw [List.map_map];rfl
  rw [em] at so;refine so p₁ (fun w0=>Q .next) E fun w0 s₃ g₃ t₃ R3 F3=>qq _ _ _ ((t₁.trans t₂).none.trans t₃) R3 ⟨rfl,F3.lk fun x v hx=>?_⟩;have n1:(((names ts).zip vs).map (·.1)).Nodup:=by rw [z1];exact Uim nd
  have n2:((((names ts).zip vs).reverse).map (·.1)).Nodup:=by rw [List.map_reverse];exact (List.reverse_perm _).nodup_iff.mpr n1
  rw [Ugy _ _ _ n2,lk_rev n1];rw [Ugy _ _ _ n1] at hx;exact hx
end
structure StOk(C:Cx)(A:Around)(cl:CC)(sc:Scope)(n:Nat):Prop where
 st:∀ (fr:Fr) (t:Stmt) (env:Env) (g:Gh) (O O':Store) (s:Shared) (fl:Fl),ES sc env->FR g s.heap env fr->Rel C g O s.heap->execS C.P cl sc n fr t O=some (fl,O') ->
  Ex C A (Wf env) (exec t env) g O' s fun g' h' f=>FlR g' h' env fl f
 sts:∀ (fr:Fr) (ts:List Stmt) (env:Env) (g:Gh) (O O':Store) (s:Shared) (fl:Fl),ES sc env->FR g s.heap env fr->Rel C g O s.heap->execSs C.P cl sc n fr ts O=some (fl,O') ->
  Ex C A (Wf env) (execs ts env) g O' s fun g' h' f=>FlR g' h' env fl f
section
variable {C:Cx}{A:Around}{cl:CC}{g g':Gh}{O O₁ O':Store}{s s':Shared}{n d:Nat}{sc:Scope}{fr:Fr}{env:Env}{h h':Heap}{W:Addr->Prop}
theorem Ex.toks{α:Type}{t:Sem α}{T:Gh->Heap->α->Prop}(h:Ex C A W t g O s T)(p:0 < s.toks){Q:α->Shared->Prop}{E:Value->Shared->Prop}
  (q:∀ a s' g',0 < s'.toks->Tr W g s g' s'->Rel C g' O s'.heap->T g' s'.heap a->Q a s'):wpAny (model C.prog C.w) A t Q E s :=
 wpAny_mono (wpAny_toks_of p (h p (fun a s₁=>0 < s₁.toks->Q a s₁) E fun a s₁ g₁ x R t' p'=>q a s₁ g₁ p' x R t')) (fun w0 w0 x=>x.2 x.1) fun w0 w0 x=>x.2
set_option tactic.hygienic true in
theorem Uqa(ih:StOk C A cl sc n){ts:List Stmt}{fl:Fl}(S:ES sc env)(F:FR g s.heap env fr)(R:Rel C g O s.heap)(q:execSs C.P cl sc (n+1) fr ts O=some (fl,O')) :
  Ex C A (Wf env) (execs ts env) g O' s fun g' h' f=>FlR g' h' env fl f:=by
 cases ts with
 | nil =>
  cases q;rw [arm_execs_nil];exact Ex.ret R ⟨rfl,F⟩
 | cons t r =>
  refine bndE q fun fl1 O₁ e1 q=>?_;rw [arm_execs_cons];refine Ex.bind (ih.st fr t env g O O₁ s fl1 S F R e1) fun f s₁ g₁ t₁ R1 hf=>?_;cases fl1 with
  | next fr₁ =>
   obtain ⟨rfl,F₁⟩:=hf;exact ih.sts fr₁ r env g₁ O₁ O' s₁ fl S F₁ R1 q
  | ret v =>
   obtain ⟨u,rfl,hu⟩:=hf;cases q;exact Ex.ret R1 ⟨u,rfl,hu⟩
noncomputable abbrev BdOk(C:Cx)(A:Around)(env:Env)(body:List Stmt)(bd:Fr->M Fl):Prop:=∀ {g:Gh} {O O':Store} {s:Shared} {fr:Fr} {fl:Fl},FR g s.heap env fr->Rel C g O s.heap->bd fr O=some (fl,O') ->
 Ex C A (Wf env) (execs body env) g O' s fun g' h' f=>FlR g' h' env fl f
noncomputable abbrev SvOk(C:Cx)(A:Around)(env:Env)(x:Str)(sv:V->Fr->M Fr):Prop:=∀ {g:Gh} {O O':Store} {s:Shared} {fr fr':Fr} {v:V} {u:Value},FR g s.heap env fr->Rel C g O s.heap->VR g s.heap v u->sv v fr O=some (fr',O') ->
 Ex C A (Wf env) (storeName env x u) g O' s fun g' h' w0=>FR g' h' env fr'
noncomputable abbrev TsOk(C:Cx)(A:Around)(env:Env)(test:Expr)(ts:Fr->M Bool):Prop:=∀ {g:Gh} {O O':Store} {s:Shared} {fr:Fr} {b:Bool},FR g s.heap env fr->Rel C g O s.heap->ts fr O=some (b,O') ->
 Ev C A (isTrue test env (eval test env)) g O' s fun w0 w0 c=>c=b
noncomputable def WhI(C:Cx)(env:Env)(lp:Nat->Fr->M Fl)(fl:Fl)(O':Store)(g:Gh)(s:Shared)(m:Nat)(sk:Shared):Prop :=
 ∃ gk Ok frk,0 < sk.toks/\Tr (Wf env) g s gk sk/\Rel C gk Ok sk.heap/\FR gk sk.heap env frk/\lp m frk Ok=some (fl,O')
set_option tactic.hygienic true in
theorem Ukv{test:Expr}{body:List Stmt}{pos:Pos}{ts:Fr->M Bool}{bd:Fr->M Fl}{fl:Fl}{m:Nat}(hts:TsOk C A env test ts)(hbd:BdOk C A env body bd)(F:FR g s.heap env fr)(R:Rel C g O s.heap)
  (q:loopW ts bd m fr O=some (fl,O')):Ex C A (Wf env) (exec (.While test body [] pos) env) g O' s fun g' h' f=>FlR g' h' env fl f:=by
 intro pt Q E qq;refine wpAny_While (codeAny_whileLoop (WhI C env (loopW ts bd) fl O' g s) (fun m sk hI=>?_) m ⟨g,O,fr,pt,Tr.refl _ _ _,R,F,q⟩);refine xEEEAAAAA hI fun gk Ok frk pk tk Rk Fk qk=>?_;clear hI q F R;cases m with
 | zero=>exact (Uaa qk).elim
 | succ m =>
  refine bndE qk fun b O₁ e1 qk=>Ev.toks (hts Fk Rk e1) pk fun c s₁ g₁ p₁ t₁ R1 hc=>?_;subst hc;have F₁:=Fk.tr Rk t₁;cases c with
  | false=>cases qk;rw [arm_execs_nil];exact wpAny_pure (qq _ _ _ (tk.trans t₁.none) R1 ⟨rfl,F₁⟩)
  | true =>
   refine bndE qk fun fl1 O₂ e2 qk=>Ex.toks (hbd F₁ R1 e2) p₁ fun f s₂ g₂ p₂ t₂ R2 hf=>?_;have t':=tk.trans (t₁.none.trans t₂);cases fl1 with
   | next fr2=>obtain ⟨rfl,F2⟩:=hf;exact ⟨m,Nat.lt_succ_self _,g₂,O₂,fr2,p₂,t',R2,F2,qk⟩
   | ret v=>obtain ⟨u,rfl,hu⟩:=hf;cases qk;exact qq _ _ _ t' R2 ⟨u,rfl,hu⟩
noncomputable def Wi(env:Env)(I:Addr):Addr->Prop:=fun b=>Wf env b\/b=I
noncomputable def ForI(C:Cx)(env:Env)(lp:Nat->Nat->Fr->M Fl)(o:V)(uo:Value)(I:Addr)(fl:Fl)(O':Store)(g:Gh)(s:Shared)(m:Nat)(sk:Shared):Prop :=
 ∃ gk Ok k frk,0 < sk.toks/\Tr (Wi env I) g s gk sk/\Rel C gk Ok sk.heap/\FR gk sk.heap env frk/\gk.Z I/\¬ gk.St I/\ItAt sk.heap I o uo k/\lp m k frk Ok=some (fl,O')
theorem Unl{I:Addr}{h':Heap}{tk:Nat}{w:V}{u:Value}(R:Rel C g O s.heap)(F:FR g s.heap env fr)(zI:g.Z I)(sI:¬ g.St I)(wI:¬ Wf env I)(hwu:VR g s.heap w u)(sb:Heap.SameBut I s.heap h')(l:h'.get? I≠none) :
  Tr (Wi env I) g s g { s with heap:=h',toks:=tk }/\Rel C g O h'/\FR g h' env fr/\VR g h' w u:=by
 have own:∀ b,b=I->g.Z b/\¬ g.St b:=fun b e=>by cases e;exact ⟨zI,sI⟩
 refine xAA (R.write1 (W:=fun b=>b=I) (s':={ s with heap:=h',toks:=tk }) own (a:=I) rfl sb l rfl rfl) fun ti Ri=>?_;exact ⟨ti.weak fun b w0 e=>.inr e,Ri,F.trW R ti (fun b e=>(own b e).1) fun a q e=>by cases e;exact wI q,VR.tr ti R.st (fun b e=>(own b e).1) w hwu⟩
set_option tactic.hygienic true in
theorem Uq9{x:Str}{px:Pos}{body:List Stmt}{sv:V->Fr->M Fr}{bd:Fr->M Fl}{o:V}{uo:Value}{I:Addr}{fl:Fl}{Rr:Result->Shared->Prop}(hh:A.handled=none)(hsv:SvOk C A env x sv)(hbd:BdOk C A env body bd)
  (wI:¬ Wf env I) (ho:VR g s.heap o uo) (hs:∀ b,g.St b->g.Z b) (hW:∀ b,Wi env I b->g.Z b) (r1:∀ g' s' f,Tr (Wi env I) g s g' s'->Rel C g' O' s'.heap->FlR g' s'.heap env fl f->Rr (.ok f) s')
  (r2:∀ gk sk fr h',Tr (Wi env I) g s gk sk->Rel C gk O' sk.heap->FR gk sk.heap env fr->gk.Z I->¬ gk.St I->fl=.next fr->Heap.ExtBut I sk.heap h'->Rr (.ok .next) { sk with heap:=h' })
  (m:Nat) (h:ForI C env (loopF o sv bd) o uo I fl O' g s m s):codeAny (model C.prog C.w) A (.forLoop (.Name x px) (.ref I) body [] env) Rr s:=by
 refine codeAny_forLoop (ForI C env (loopF o sv bd) o uo I fl O' g s) (fun m sk hI=>?_) m h;refine xEEEEAAAAAAAA hI fun gk Ok k frk pk tk Rk Fk zI sI hitk qk=>?_;clear hI h;cases m with
 | zero=>exact (Uaa qk).elim
 | succ m =>
  refine bndL qk fun r e2 qk=>wpAny_mono (wpAny_toks_of pk (Upb hh Rk (VR.tr tk hs hW o ho) hitk e2 (fun r s₁=>0 < s₁.toks->_) _ (fun w u h' tk' hr hwu hit' sb p'=>?_) fun h' hr hb p'=>?_)) (fun w0 w0 x=>x.2 x.1) fun w0 w0 x=>x.2
  ·cases hr;refine xAAAA (Unl (tk:=tk') Rk Fk zI sI wI hwu sb hit'.live) fun ta Ra Fa hwa=>bndE qk fun fr2 O₂ e3 qk=>bndE qk fun fl1 O₃ e4 qk=>?_;dsimp only;rw [arm_assign_Name];refine wpAny_bind (wpAny_standAt (wpAny_bindName (Ex.toks (hsv (s:={ sk with heap:=h',toks:=tk' }) Fa Ra hwa e3) p' fun w0 s₂ g₂ p₂ t2' R2' F2'=>?_)));refine Ex.toks (hbd F2' R2' e4) p₂ fun f s₃ g₃ p₃ t₃ R3 hf=>?_;have tw:=t2'.trans t₃;have t':=tk.trans (ta.trans (tw.weak fun b w0 w=>.inl w));cases fl1 with
   | next fr3 =>
    obtain ⟨rfl,F3⟩:=hf;exact ⟨m,Nat.lt_succ_self _,g₃,O₃,k+1,fr3,p₃,t',R3,F3,tw.zk _ zI,tw.notSt hit'.live sI wI,hit'.keep fun ob' e=>tw.keep I ob' e sI wI,qk⟩
   | ret v =>
    obtain ⟨u',rfl,hu'⟩:=hf;cases qk;exact r1 _ _ _ t' R3 ⟨u',rfl,hu'⟩
  ·cases hr;cases qk;skip;rw [arm_execs_nil];exact wpAny_pure (r2 gk sk frk h' tk Rk Fk zI sI rfl hb)
theorem Unu{o:V}{uo:Value}{ob:Obj}(R:Rel C g O s.heap)(ho:VR g s.heap o uo)(hit:ItAt (s.heap.push ob) s.heap.objs.size o uo 0):∃ g₂ s₂ I,{ s with heap:=s.heap.push ob }=s₂/\s.heap.objs.size=I/\Tr (fun w0=>False) g s g₂ s₂/\Rel C g₂ O s₂.heap /\
  VR g₂ s₂.heap o uo/\ItAt s₂.heap I o uo 0/\g₂.Z I/\¬ g₂.St I/\s.heap.get? I=none:=by
 have d:=Ube s.heap;refine xAA (R.zadd (s':={ s with heap:=s.heap.push ob }) (fun a=>a=s.heap.objs.size) (fun b o e=>Heap.get?_push_of_some _ e) (fun a e=>by cases e;exact ⟨d,hit.live,R.low⟩) rfl rfl) fun t₂ R2=>?_;exact ⟨_,_,_,rfl,rfl,t₂,R2,VR.tr' ho R t₂,hit,.inr rfl,fun z=>R.zh _ (R.st _ z) d,d⟩
theorem for_ok(hh:A.handled=none)(ev:EvOk C A cl n){iter:Expr}{x:Str}{px pos:Pos}{body:List Stmt}{sv:V->Fr->M Fr}{bd:Fr->M Fl}{fl:Fl}{m:Nat}{o:V}(hsv:SvOk C A env x sv)(hbd:BdOk C A env body bd)(S:ES sc env)(F:FR g s.heap env fr)(R:Rel C g O s.heap)
  (ns:notSet iter=true) (e1:evalE C.P cl n sc fr iter O=some (o,O₁)) (q:loopF o sv bd m 0 fr O₁=some (fl,O')) :
  Ex C A (Wf env) (exec (.For (.Name x px) iter body [] pos) env) g O' s fun g' h' f=>FlR g' h' env fl f:=by
 have hs:∀ y,foldedSetIterable iter env y=pure y:=fun y=>by cases iter <;> first | rfl | cases ns
 intro pt Q E qq;refine wpAny_For (Ev.toks (ev.ev sc fr iter env g O O₁ s o S F R e1) pt fun uo s₁ g₁ p₁ t₁ R1 huo=>?_) hs;have F₁:=F.tr R t₁;have hdraw:∃ k r,drawV o k O₁=some r:=by
  cases m with
  | zero=>exact (Uaa q).elim
  | succ m=>exact bndL q fun r e w0=>⟨0,r,e⟩
 refine Uo4 R1 huo hdraw _ _ fun ob hit w0=>xEEEAAAAAAAAA (Unu R1 huo hit) fun g₂ s₂ I e1 e2 t₂ R2 ho hit zI nst dI=>?_;rw [e1,e2];have F2:=F₁.tr R1 t₂;have p₂:0 < s₂.toks:=e1▸p₁;have wI:¬ Wf env I:=F₁.dead R1 dI;have dI':s.heap.get? I=none:=t₁.dead (fun f=>f) dI;have fin:∀ {g':Gh} {s':Shared},Tr (Wi env I) g₂ s₂ g' s'->Tr (Wf env) g s g' s':=fun {g' s'} t =>
  (t₁.none.trans (t₂.none.trans t)).weak (W':=Wf env) fun b l w=>w.elim id fun e=>by cases e;exact absurd dI' l
 exact Uq9 hh hsv hbd wI ho R2.st (fun b w=>w.elim (fun w=>(F2.own b w).1) fun e=>by cases e;exact zI) (fun g' s' f t Rf hf=>qq _ _ _ (fin t) Rf hf)
  (fun gk sk fr h' t Rk Fk zk sk' e hb=>xAAA (Ui1 (k:=sk.toks) (hh:=h') (fin t) R Rk zk sk' dI' wI hb) fun t Rf kp=>qq _ _ _ t Rf (by cases e;exact ⟨rfl,Fk.giveUp kp wI hb⟩))
  m ⟨g₂,O₁,0,fr,p₂,Tr.refl _ _ _,R2,F2,zI,nst,hit,q⟩
theorem aug_ok(Fa:Facts C)(cf:CF C)(ev:EvOk C A cl n){o e:Expr}{x:Str}{tp p:Pos}{op:Operator}{fl:Fl}(S:ES sc env)(F:FR g s.heap env fr)(R:Rel C g O s.heap)
  (q:bnd (evalE C.P cl n sc fr o) (fun ov=>bnd (attrV C.P ov x) fun a=>bnd (evalE C.P cl n sc fr e) fun b=>bnd (look (augV op a b)) fun v=>bnd (setAttrV C.P ov x v) fun w0=>ret (.next fr)) O=some (fl,O')) :
  Ex C A (Wf env) (exec (.AugAssign (.Attribute o x tp) op e p) env) g O' s fun g' h' f=>FlR g' h' env fl f:=bndE q fun ov O₁ e1 q=>bndE q fun a O₂ e2 q=>bndE q fun b O₃ e3 q=>bndL q fun v e4 q=>bndE q fun w0 O₅ e5 q=>by
 cases q;rw [arm_exec_AugAssign_2];refine Ex.at_ (Ex.bindE (ev.ev sc fr o env g O O₁ s ov S F R e1) fun uo s₁ g₁ t₁ R1 huo=>?_);have F₁:=F.tr R t₁;have new:Ev C A (do standAt tp.atName;let old <- getAttr uo x true;let v <- holding [old] (eval e env);standAt p;operate [old,v] (inplaceOp op old v)) g₁ O₃ s₁ (fun g' h' u=>VR g' h' v u):=by
  refine Ev.at_ (Ev.bind (Umx Fa cf R1 huo e2) fun ua s₂ g₂ t₂ R2 hua=>Ev.bind (Ev.hold (ev.ev sc fr e env g₂ O₂ O₃ s₂ b S (F₁.tr R1 t₂) R2 e3)) fun ub s₃ g₃ t₃ R3 hub=>Ev.at_ (Ev.oper ?_));cases op with
  | Sub=>exact ob2S e4 fun x y q1 q2 e=>int2 (T:=fun u w=>EvV C A (inplaceOp .Sub u w) g₃ O₃ s₃ v) q1 q2 (hua.tr' R2 t₃) hub fun t t'=>Ev.same R3 fun Q E q=>PySem.P.isub_int (q _ _ (VR.oInt e))
  | _=>exact (Uaa e4).elim
 refine Ex.bindE (Ev.hold new) fun uv s₂ g₂ t₂ R2 huv=>Ex.at_ (Ex.bindE (Ev.hold (Uf5 Fa cf R2 (huo.tr' R1 t₂) huv e5)) fun w0 s₃ g₃ t₃ R3 w0=>?_);exact Ex.rel (Ex.ret R3 ⟨rfl,(F₁.tr R1 t₂).tr R2 t₃⟩)
theorem Utn(Fa:Facts C)(cf:CF C)(hh:A.handled=none)(ev:∀ m,EvOk C A cl m)(ih:StOk C A cl sc n){t:Stmt}{fl:Fl}(S:ES sc env)(F:FR g s.heap env fr)(R:Rel C g O s.heap)
  (q:execS C.P cl sc (n+1) fr t O=some (fl,O')):Ex C A (Wf env) (exec t env) g O' s fun g' h' f=>FlR g' h' env fl f:=by
 have hbd:∀ body,BdOk C A env body fun fr=>execSs C.P cl sc n fr body:=fun body {g O O' s fr fl} F R q=>ih.sts fr body env g O O' s fl S F R q;cases t with
 | Expr e p =>
  refine iteM q fun hn q=>bndE q fun v O₁ e1 q=>?_;cases q;intro pt Q E qq;refine wpAny_Expr_any ?_ (by delta interactive;rw [F.kind];rfl) (Ugb hn);exact Ev.toks ((ev n).ev sc fr e env g O _ s v S F R e1) pt fun w0 s₁ g₁ p₁ t₁ R1 w0=>qq _ _ _ t₁.none R1 ⟨rfl,F.tr R t₁⟩
 | Pass p =>
  cases q;rw [arm_exec_Pass];exact Ex.at_ (Ex.ret R ⟨rfl,F⟩)
 | Return e p =>
  rw [arm_exec_Return];cases e with
  | some e =>
   refine bndE q fun v O₁ e1 q=>?_;cases q;refine Ex.at_ (Ex.of_eq (t':=eval e env >>= fun x=>pure (Flow.ret x)) rfl ?_);exact Ex.bindE ((ev n).ev sc fr e env g O _ s v S F R e1) fun u s₁ g₁ t₁ R1 hu=>Ex.ret R1 ⟨u,rfl,hu⟩
  | none =>
   cases q;exact Ex.at_ (Ex.of_eq (t':=pure (Flow.ret .none)) rfl (Ex.ret R ⟨.none,rfl,rfl⟩))
 | Assign ts e p =>
  rcases Unv ts with ⟨ts,k,tp,rfl⟩ | ⟨t,rfl,ht⟩ | hb
  ·refine iteM q fun hc q=>bndE q fun v O₁ e1 q=>bndO q fun vs e2 q=>bndE q fun fr' O₃ e3 q=>?_;cases q;have hc:=Bool.and_eq_true_iff.mp hc;have hd:=Bool.and_eq_true_iff.mp hc.1;exact Uq0 Fa cf hh ev S F R hd.1 hd.2 e1 e2 e3
  ·refine bndE (Usx ht q) fun v O₁ e1 q=>bndE q fun fr' O₂ e2 q=>?_;cases q;exact Uk1 Fa cf hh ev S F R e1 e2
  ·exact (Urv hb q).elim
 | AugAssign t op e p =>
  refine obM q fun z hz q1=>xEA (Uqw hz) fun tp e=>?_;subst e;exact aug_ok Fa cf (ev n) S F R q1
 | If t a b p =>
  refine bndE q fun c O₁ e1 q=>?_;rw [arm_exec_If];refine Ex.at_ (Ex.bindE ((ev n).test sc fr t env g O O₁ s c S F R e1) fun c' s₁ g₁ t₁ R1 hc=>?_);subst hc;cases c' with
  | true=>exact hbd a (F.tr R t₁) R1 q
  | false=>exact hbd b (F.tr R t₁) R1 q
 | While t a b p =>
  cases b with
  | nil=>exact Ukv (fun {g O O' s fr b} F R q=>(ev n).test sc fr t env g O O' s b S F R q) (hbd a) F R q
  | cons _ _=>exact (Uaa q).elim
 | For t it a b p =>
  refine obM q fun x hx q1=>xEAA (Uq1 hx) fun xp e e2=>iteM q1 fun hn q2=>bndE q2 fun o O₁ e1 q3=>?_;subst e;subst e2;exact for_ok hh (ev n) (fun {g O O' s fr fr' v u} F R hv q=>Ugm S F R hv q) (hbd a) S F R hn e1 q3
 | _=>exact (Uaa q).elim
theorem st_all(Fa:Facts C)(cf:CF C)(hh:A.handled=none)(ev:∀ m,EvOk C A cl m):∀ n,StOk C A cl sc n
 | 0=>⟨fun fr t env g O O' s fl S F R q=>(Uaa q).elim,fun fr t env g O O' s fl S F R q=>(Uaa q).elim⟩
 | n+1=>⟨fun w0 w0 w0 w0 w0 w0 w0 w0 S F R q=>Utn Fa cf hh ev (st_all Fa cf hh ev n) S F R q,fun w0 w0 w0 w0 w0 w0 w0 w0 S F R q=>Uqa (st_all Fa cf hh ev n) S F R q⟩
theorem ev_all(Fa:Facts C)(cf:CF C)(Ro:Room A d)(co:CallOk C A cl):∀ n,EvOk C A cl n
 | 0=>Ur3
 | n+1=>Urt Fa cf Ro co (ev_all Fa cf Ro co n) (Usb Ro.handled (ev_all Fa cf Ro co n))
end
noncomputable def fdAt(K:Frag)(a:Addr):Option FuncData:=match K.lookup a with
 | some ⟨_,_,.func fd,_⟩=>some fd
 | _=>none
noncomputable def isStmts:FuncBody->Bool
 | .stmts _=>true
 | _=>false
noncomputable def stmtsOf:FuncBody->List Stmt
 | .stmts b=>b
 | _=>[]
noncomputable def argNames(fd:FuncData):List Str:=fd.params.args.map (·.arg)
noncomputable def fnAt(K:Frag)(ds:List V)(a:Addr):Fn:=match fdAt K a with
 | some fd=>⟨argNames fd,ds,stmtsOf fd.body,fd.scope⟩
 | none=>⟨[],[],[],⟨.function,[],false,false,[]⟩⟩
noncomputable def fdOk(K:Frag)(fd:FuncData):Bool :=
 isStmts fd.body&&fd.closure.isEmpty&&fd.globals==mainGlobals&&fd.builtins==builtinsNs&&codeIn K fd.code fd.qualname&&fd.params.posonlyargs.isEmpty&&fd.params.kwonlyargs.isEmpty&&fd.params.vararg.isNone&&fd.params.kwarg.isNone &&
 nodupB (argNames fd)&&!fd.scope.isCoroutine&&!fd.scope.isGenerator&&fd.scope.kind==.function &&
 fd.scope.names.all (fun p=>p.1 != Qck&&p.1 != Qcl) &&
 (argNames fd).all (fun x=>match fd.scope.names.lookup x with | some .local=>true | some .cell=>true | _=>false)
noncomputable def Binds(K:Frag)(fd:FuncData)(ds:List V):Prop:=(fd.defaults=.none/\ds=[]) \/
 ∃ x t,ds=[.str x]/\sOk x=true/\x.length<=lim/\(∀ us:List Value,us.length=(argNames fd).length->∀ S,peek K S (bindArgs fd ⟨us,[]⟩)=some ((argNames fd).zip us)) /\
  (∀ us:List Value,us.length+1=(argNames fd).length->∀ S,peek K S (bindArgs fd ⟨us,[]⟩)=some ((argNames fd).zip (us++[.str x t])))
structure FnIn(K:Frag)(a:Addr)(f:Fn):Prop where
 ex:∃ fd,fdAt K a=some fd/\fdOk K fd=true/\fd.body=.stmts f.body/\fd.scope=f.scope/\argNames fd=f.params/\Binds K fd f.dflts
theorem FnIn.of{K:Frag}{a:Addr}{ds:List V}(h:(fdAt K a).any (fdOk K)=true)(hb:∀ fd,fdAt K a=some fd->Binds K fd ds):FnIn K a (fnAt K ds a):=by
 cases e:fdAt K a with
 | none=>rw [e] at h;cases h
 | some fd =>
  rw [e] at h;have h:fdOk K fd=true:=h;refine ⟨fd,e,h,?_,?_,?_,?_⟩
  ·delta fnAt;rw [e];delta fdOk at h;simp only [Bool.and_eq_true] at h;have:isStmts fd.body=true:=by rw [h.1.1.1.1.1.1.1.1.1.1.1.1.1.1]
   cases hb:fd.body with
   | stmts b=>simp [stmtsOf,hb]
   | _=>rw [hb] at this;cases this
  ·delta fnAt;rw [e]
  ·delta fnAt;rw [e]
  ·delta fnAt;rw [e];exact hb fd e
theorem Uhl:∀ {ps:List Str} {vs:List Value},vs.length=ps.length->ps.Nodup->(∀ n ∈ ps,((ps.zip vs).lookup n).isSome=true)/\ps.filterMap (fun n=>((ps.zip vs).lookup n).map (n,·))=ps.zip vs
 | [],[],_,_=>by simp
 | p::ps,v::vs,hl,hn=>by
  rw [List.nodup_cons] at hn;refine xAA (Uhl (ps:=ps) (vs:=vs) (by simpa using hl) hn.2) fun a b=>?_;have ne:∀ n ∈ ps,(n==p)=false:=fun n hm=>beq_eq_false_iff_ne.mpr fun e=>hn.1 (e▸hm);constructor
  ·intro n hm;rw [List.zip_cons_cons,List.lookup_cons];rcases List.mem_cons.mp hm with rfl | hm
   ·simp
   ·rw [ne n hm];exact a n hm
  ·rw [List.zip_cons_cons,List.filterMap_cons];simp only [List.lookup_cons,beq_self_eq_true,Option.map_some]
   congr 1
   have go:∀ l:List Str,(∀ n ∈ l,(n==p)=false)->l.filterMap (fun n=>(match n==p with | true=>some v | false=>(ps.zip vs).lookup n).map (n,·))=l.filterMap (fun n=>((ps.zip vs).lookup n).map (n,·)):=by
    intro l hl;induction l with
    | nil=>rfl
    | cons x l ih=>rw [List.filterMap_cons,List.filterMap_cons,ih (fun n hm=>hl n (List.mem_cons_of_mem _ hm)),hl x List.mem_cons_self]
   exact (go ps ne).trans b
 | [],_::_,hl,_=>by simp at hl
 | _::_,[],hl,_=>by simp at hl
theorem Usa{α:Type}{c:Bool}{l:List Str}{X Y Z W:α}(h:c=false)(h2:l=[])(z:Z=W):(if (c&&true)=true then X else if (!l.isEmpty)=true then Y else Z)=W:=by subst h h2;exact z
theorem Ul2{fd:FuncData}{vals:List Value}(h1:fd.params.posonlyargs=[])(h2:fd.params.kwonlyargs=[])(h3:fd.params.vararg=none)(h4:fd.params.kwarg=none)(h5:fd.defaults=.none)
  (hl:vals.length=(fd.params.args.map (·.arg)).length) (hn:(fd.params.args.map (·.arg)).Nodup):bindArgs fd ⟨vals,[]⟩=pure ((fd.params.args.map (·.arg)).zip vals):=by
 obtain ⟨nm,qn,⟨po,ar,va,ko,kd,kw,df⟩,bo,sc,gl,cl,dl,kdl,doc,pm,an,co,ct,bu⟩:=fd;cases h1;cases h2;cases h3;cases h4;cases h5;dsimp only at hl hn ⊢;refine xAA (Uhl hl hn) fun a b=>?_;have e1:decide (vals.length > (ar.map (·.arg)).length)=false:=decide_eq_false (Nat.not_lt_of_le (Nat.le_of_eq hl));have e2 (k:Nat):((ar.map (·.arg)).take k).filter (fun n=>(((ar.map (·.arg)).zip vals).lookup n).isNone)=[]:=List.filter_eq_nil_iff.mpr fun n hm=>by
  rw [Option.isNone_eq_false_iff.mpr (a n (List.mem_of_mem_take hm))];exact Bool.false_ne_true
 refine Usa (α:=Sem (List (Str×Value))) e1 (e2 _) ?_;dsimp only [Option.getD_none,List.map_nil,List.nil_append];simp only [List.drop_nil,List.zip_nil_right,List.forIn_nil,pure_bind];exact congrArg Sem.pure ((congrArg (List.filterMap (fun n=>Option.map (fun x=>(n,x)) (List.lookup n ((ar.map (·.arg)).zip vals)))) (List.append_nil (ar.map (·.arg)))).trans b)
set_option tactic.hygienic true in
theorem Ufy:∀ {ps:List Str} {vs:List V} {ds:List V} {fr:Fr},bindP ps vs ds=some fr->ds=[]\/(∃ d,ds=[d])->(vs.length=ps.length/\fr=ps.zip vs)\/∃ d,ds=[d]/\vs.length+1=ps.length/\fr=ps.zip (vs++[d])
 | [],[],ds,fr,e,_=>by rw [bindP] at e;cases e;exact .inl ⟨rfl,rfl⟩
 | p::ps,v::vs,ds,fr,e,hd=>by
  rw [bindP] at e;split at e
  ·rename_i fr' q;cases e;rcases Ufy q hd with ⟨a,rfl⟩ | ⟨d,a,b,rfl⟩
   ·exact .inl ⟨by simp [a],rfl⟩
   ·exact .inr ⟨d,a,by dsimp only [List.length_cons];exact Nat.add_left_inj.mpr b,rfl⟩
  ·cases e
 | p::ps,[],ds,fr,e,hd=>by
  rw [bindP] at e;rcases hd with rfl | ⟨d,rfl⟩
  ·simp at e
  ·have:([d]:List V).drop ([d].length - (ps.length+1))=[d]:=by
    have:[d].length - (ps.length+1)=0:=by simp
    rw [this];rfl
   rw [this] at e;dsimp only at e;split at e
   ·rename_i hl;have:ps=[]:=by
     cases ps with
     | nil=>rfl
     | cons=>dsimp only [List.length_cons,List.length_nil] at hl;omega
    subst this;rw [bindP] at e;cases e;exact .inr ⟨d,rfl,rfl,rfl⟩
   ·cases e
 | [],_::_,ds,fr,e,_=>by rw [bindP] at e;cases e
theorem Ue2{kind:Str->Option NameKind}{g:Gh}{h:Heap}:∀ {ps:List Str} {vs:List V} {us:List Value} {m:Str->Option Value},VRs g h vs us->vs.length=ps.length->ps.Nodup->∀ x v,lk x (ps.zip vs)=some v ->
  ∃ u,VR g h v u/\(kind x=some .local->bindL kind (ps.zip us) m x=some u)/\(¬ kind x=some .local->∀ cm,bindC kind (ps.zip us) cm x=some u)
 | [],[],us,m,hv,_,_,x,v,e=>by simp [lk] at e
 | p::ps,w::vs,us,m,hv,hl,hn,x,v,e=>by
  dsimp only [VRs] at hv;refine xEEAAA hv fun u r qz1 hu hr=>?_;subst qz1;rw [List.nodup_cons] at hn;have stay:∀ {us:List Value} {m:Str->Option Value} {ps:List Str},¬ p ∈ ps->bindL kind (ps.zip us) m p=m p/\∀ cm,bindC kind (ps.zip us) cm p=cm p:=by
   intro us m ps;induction ps generalizing us m with
   | nil=>intro _;exact ⟨rfl,fun w0=>rfl⟩
   | cons q ps ih =>
    intro hm;cases us with
    | nil=>exact ⟨rfl,fun w0=>rfl⟩
    | cons y us =>
     have hq:¬ p=q:=fun e=>hm (e▸List.mem_cons_self);have hp:¬ p ∈ ps:=fun e=>hm (List.mem_cons_of_mem _ e);rw [List.zip_cons_cons];unfold bindL bindC;refine ⟨?_,fun cm=>?_⟩
     ·rw [(ih hp).1];split
      ·exact if_neg hq
      ·rfl
     ·rw [(ih (m:=m) hp).2];split
      ·rfl
      ·exact if_neg hq
  rw [List.zip_cons_cons] at e
  by_cases q:p=x
  ·subst q;simp only [lk,beq_self_eq_true,if_true,Option.some.injEq] at e;subst e;refine ⟨u,hu,fun k=>?_,fun k cm=>?_⟩
   ·rw [List.zip_cons_cons];unfold bindL;rw [(stay hn.1).1,if_pos k,if_pos rfl]
   ·rw [List.zip_cons_cons];unfold bindC;rw [(stay (m:=m) hn.1).2,if_neg k,if_pos rfl]
  ·have e2:(p==x)=false:=beq_eq_false_iff_ne.mpr q;simp only [lk,e2,Bool.false_eq_true,if_false] at e;refine xEAAA (Ue2 (kind:=kind) (m:=if kind p=some .local then (fun y=>if y=p then some u else m y) else m) hr (by simpa using hl) hn.2 x v e) fun u' a b c=>?_;refine ⟨u',a,fun k=>?_,fun k cm=>?_⟩
   ·rw [List.zip_cons_cons];unfold bindL;exact b k
   ·rw [List.zip_cons_cons];unfold bindC;exact c k _
 | [],_::_,_,_,_,hl,_,_,_,_=>by simp at hl
 | _::_,[],_,_,_,hl,_,_,_,_=>by simp at hl
set_option tactic.hygienic true in
theorem Uat:∀ {l:List (Str×NameKind)} {n:Nat} {acc:List (Str×Addr)} {x:Str},((x,NameKind.cell) ∈ l\/(acc.lookup x).isSome=true)->((cellsFrom n l acc).lookup x).isSome=true
 | [],n,acc,x,h=>by
  rcases h with h | h
  ·cases h
  ·exact h
 | (y,k)::r,n,acc,x,h=>by
  unfold cellsFrom;split
  ·rename_i hk;refine Uat ?_;rcases h with h | h
   ·rcases List.mem_cons.mp h with e | h
    ·cases e;right;simp
    ·exact .inl h
   ·right
    rw [List.lookup_cons];split
    ·rfl
    ·exact h
  ·rename_i hk;refine Uat ?_;rcases h with h | h
   ·rcases List.mem_cons.mp h with e | h
    ·cases e;simp at hk
    ·exact .inl h
   ·exact .inr h
section
variable {C:Cx}{A:Around}{g g':Gh}{O O₁ O':Store}{s s':Shared}{d:Nat}
noncomputable abbrev FF(C:Cx):Prop:=∀ a f,lkN a C.P.fns=some f->FnIn C.K a f
theorem Uku{h:Heap}{a:Addr}(e:h.objs.size<=a):h.get? a=none:=by
 cases q:h.get? a with
 | none=>rfl
 | some o=>exact absurd (Heap.lt_size q) (Nat.not_lt.mpr e)
set_option tactic.hygienic true in
theorem Ujh{K:Frag}{a:Addr}{fd:FuncData}(e:fdAt K a=some fd):∃ c d sl,K.lookup a=some ⟨c,d,.func fd,sl⟩:=by
 delta fdAt at e;split at e
 ·rename_i h;cases e;exact ⟨_,_,_,h⟩
 ·cases e
set_option tactic.hygienic true in
theorem Upg(Fa:Facts C)(cf:CF C)(ff:FF C)(hd:A.depth < recursionLimit)(hh:A.handled=none)(Ro:∀ env,Room (A.deeper env) d)(co:∀ env,CallOk C (A.deeper env) (callD C.P d))
  {a:Addr} {args:List V} {us:List Value} {v:V} (R:Rel C g O s.heap) (hv:VRs g s.heap args us) (e:callD C.P (d+1) a args O=some (v,O')) (pt:0 < s.toks) {RR:Result->Shared->Prop}
  (fin:∀ u s' g',Tr (fun w0=>False) g s g' s'->Rel C g' O' s'.heap->VR g' s'.heap v u->RR (.ok (.ret u)) s'):codeAny (model C.prog C.w) A (.call (.ref a) ⟨us,[]⟩) RR s:=by
 rw [callD] at e;obtain ⟨f,hf⟩:∃ f,lkN a C.P.fns=some f:=by
  cases hf:lkN a C.P.fns with
  | none=>rw [hf] at e;exact (Uaa e).elim
  | some f=>exact ⟨f,rfl⟩
 rw [hf] at e;dsimp only at e;obtain ⟨fr,hfr⟩:∃ fr,bindP f.params args f.dflts=some fr:=by
  cases hf:bindP f.params args f.dflts with
  | none=>rw [hf] at e;exact (Uaa e).elim
  | some f=>exact ⟨f,rfl⟩
 rw [hfr] at e;dsimp only at e;refine bndE e fun fl O₁ e1 e=>?_;refine xEAAAAAA ((ff a f hf).ex) fun fd hfd ok hbody hsc hps hbd=>?_;refine xEEEA (Ujh hfd) fun oc od sl hlook=>?_;have X:=Fa.here R;unfold fdOk at ok;simp only [Bool.and_eq_true,beq_iff_eq,Bool.not_eq_true',List.isEmpty_iff,Option.isNone_iff_eq_none,List.all_eq_true] at ok;refine xAA ok fun qz1 hpa=>?_;obtain ⟨⟨⟨⟨⟨⟨⟨⟨⟨⟨⟨⟨⟨_,hclo⟩,hgl⟩,hbi⟩,hcode⟩,hpo⟩,hko⟩,hva⟩,hkw⟩,hnd⟩,hco⟩,hge⟩,hki⟩,hdb⟩:=qz1;have hnd':(argNames fd).Nodup:=Uim hnd;obtain ⟨vs',us',rfl,hvs,hlen,hbind⟩:∃ vs' us',fr=(argNames fd).zip vs'/\VRs g s.heap vs' us'/\vs'.length=(argNames fd).length/\BindsTo s fd ⟨us,[]⟩ ((argNames fd).zip us'):=by
  rw [<- hps] at hfr;have hul:=hv.len;rcases hbd with ⟨b1,b2⟩ | ⟨x,t,b2,b3,b4,b5,b6⟩
  ·rw [b2] at hfr;rcases Ufy hfr (.inl rfl) with ⟨l,rfl⟩ | ⟨d,z,_⟩
   ·refine ⟨args,us,rfl,hv,l,BindsTo.of_eq (Ul2 hpo hko hva hkw b1 (by rw [hul];exact l) hnd')⟩
   ·cases z
  ·rw [b2] at hfr;rcases Ufy hfr (.inr ⟨_,rfl⟩) with ⟨l,rfl⟩ | ⟨d,z,l,rfl⟩
   ·exact ⟨args,us,rfl,hv,l,fun M w0 w0 w0 q=>(Looks.of_peek (M:=M) X (b5 us (by rw [hul];exact l) _)).here q⟩
   ·cases z;exact ⟨args++[.str x],us++[.str x t],rfl,VRs.app hv (VRs.one (VR.mkStr b3 b4)),by simp [l],fun M w0 w0 w0 q=>(Looks.of_peek (M:=M) X (b6 us (by rw [hul];exact l) _)).here q⟩
 refine xAA (Ulx (l:=argNames fd) (vs:=vs') hlen) fun z1 z2=>?_;have hlu:us'.length=(argNames fd).length:=by rw [hvs.len];exact hlen
 have hkind:∀ x ∈ (argNames fd).zip us',fd.scope.names.lookup x.1=some .local\/(fd.scope.names.lookup x.1=some .cell/\((cellsFrom (s.heap.objs.size+1) fd.scope.names []).lookup x.1).isSome=true):=fun x hx=>by
  have hm:x.1 ∈ argNames fd:=(List.of_mem_zip hx).1;have:=hpa _ hm;split at this
  ·rename_i q;exact .inl q
  ·rename_i q;exact .inr ⟨q,Uat (.inl (mem_of_lookup q))⟩
  ·cases this
 refine codeAny_call_function hd (X _ _ hlook) rfl hco hge hbody (codeRec_of X hcode) (hbind _ _ _ _ ?_);rw [hclo];refine wpAny_mono (wpAny_toks_of pt (wpAny_newFunctionEnv_cells (Q:=fun env s₂=>0 < s₂.toks->s₂.heap.NoLimit/\codeAny (model C.prog C.w) A (.func f.body env) RR s₂) hki hkind fun env he s₂ x p₂=>?_)) (fun w0 w0 x=>x.2 x.1) fun w0 w0 x=>x.2;refine ⟨(R.room Fa).keeps x.toInCall.keep,codeAny_func ?_⟩;have hes:env.scope=fd.scope:=by rw [he];rfl
 have heg:env.globals=mainGlobals:=by rw [he];exact hgl
 have heb:env.builtins=builtinsNs:=by rw [he];exact hbi
 have hec:env.cells=cellsFrom (s.heap.objs.size+1) fd.scope.names []:=by rw [he];rfl
 have hel:env.locals=s.heap.objs.size:=by rw [he];rfl
 refine xEEA x.toInCall.same fun h₂ tk qz1=>?_;subst qz1;have dead:∀ b,Wf env b->s.heap.get? b=none:=fun b w=>by
  rcases w with rfl | ⟨n,w⟩
  ·exact Uku (Nat.le_of_eq hel.symm)
  ·have:=x.above n b (mem_of_lookup w);rw [hel] at this;exact Uku (Nat.le_of_lt this)
 obtain ⟨t0,R0⟩:=R.zadd (s':={ s with heap:=h₂,toks:=tk }) (Wf env) x.toInCall.keep (fun b w=>⟨dead b w,by
  rcases w with rfl | ⟨n,w⟩
  ·refine xEEEAA x.toInCall.ns fun w0 w0 w0 q w0=>?_;exact Uae q
  ·refine xEAA (x.cell n b w) fun w0 q w0=>?_;exact Uae q,by
  rcases w with rfl | ⟨n,w⟩
  ·rw [hel];exact R.low
  ·have:=x.above n b (mem_of_lookup w);rw [hel] at this;exact Nat.lt_trans R.low this⟩) rfl rfl
 have nst:∀ b,Wf env b->¬ (g.zadd (Wf env)).St b:=fun b w z=>R.zh b (R.st b z) (dead b w);have hvs':VRs (g.zadd (Wf env)) h₂ vs' us':=VRs.tr' hvs R t0;have S:ES f.scope env:=by
  rw [<- hsc,<- hes];exact ⟨fun w0 h=>h,fun w0 h=>h,fun w0 h=>h⟩
 have F:FR (g.zadd (Wf env)) h₂ env ((argNames fd).zip vs'):=by
  refine ⟨by rw [hes];exact hki,heg,heb,fun p hp=>?_,.inr (.inl rfl),nst _ (.inl rfl),⟨_,x.toInCall.ns,fun y w hy hk=>?_⟩,fun y w hy=>?_,fun y c hc=>?_,fun y hy=>?_,fun y z c h1 h2=>?_⟩
  ·rw [hes] at hp;have:=hdb p hp;simp only [bne_iff_ne,ne_eq] at this;exact ⟨beq_eq_false_iff_ne.mpr this.1,beq_eq_false_iff_ne.mpr this.2⟩
  ·refine xEAAA (Ue2 (kind:=env.kindOf) (m:=fun w0=>none) hvs' hlen hnd' y w hy) fun u a b w0=>?_;exact ⟨u,b hk,a⟩
  ·by_cases hk:env.kindOf y=some .local
   ·exact .inl hk
   ·refine xEAAA (Ue2 (kind:=env.kindOf) (m:=fun w0=>none) hvs' hlen hnd' y w hy) fun u a w0 b=>?_;have hm:y ∈ argNames fd:=by rw [<- z1];exact List.mem_map.mpr ⟨_,lk_mem hy,rfl⟩
    have:=hpa _ hm;have hk':fd.scope.names.lookup y=some .cell:=by
     have e:env.kindOf y=fd.scope.names.lookup y:=by delta Env.kindOf;rw [hes]
     split at this
     ·rename_i q;rw [e,q] at hk;exact absurd rfl hk
     ·rename_i q;exact q
     ·cases this
    refine xEA (Option.isSome_iff_exists.mp (Uat (n:=s.heap.objs.size+1) (acc:=[]) (.inl (mem_of_lookup hk')))) fun c hc=>?_;rw [<- hec] at hc;have:=x.cell y c hc;rw [b hk] at this;refine .inr ⟨.inl (by delta Env.kindOf;rw [hes];exact hk'),c,u,hc,this,a⟩
  ·refine ⟨.inr (.inr ⟨y,hc⟩),nst _ (.inr ⟨y,hc⟩),Nat.ne_of_gt (x.above y c (mem_of_lookup hc)),_,x.cell y c hc⟩
  ·have hk':fd.scope.names.lookup y=some .cell:=by unfold Env.kindOf at hy;rw [hes] at hy;exact hy
   rw [hec];exact Option.isSome_iff_exists.mp (Uat (n:=s.heap.objs.size+1) (acc:=[]) (.inl (mem_of_lookup hk')))
  ·exact name_of_addr x.apart (mem_of_lookup h1) (mem_of_lookup h2)
 refine (st_all Fa cf (Ro env).handled (ev_all Fa cf (Ro env) (co env)) 60).sts _ f.body env _ O O₁ _ fl S F R0 e1 p₂ _ _ fun fl' s' g' t R' hfl=>?_;have tt:Tr (fun w0=>False) g s g' s':=(t0.none.trans t).weak fun b l w=>l (dead b w);cases fl with
 | next fr' =>
  refine xAA hfl fun qz1 w0=>?_;subst qz1;cases e;exact fin .none s' g' tt R' (by rfl)
 | ret w =>
  refine xEAA hfl fun u qz1 hu=>?_;subst qz1;cases e;exact fin u s' g' tt R' hu
theorem Urw{K:Frag}{a:Addr}{f:Fn}(h:FnIn K a f):keepIn K (.ref a)=true:=by
 refine xEAA h.ex fun fd hfd w0=>?_;refine xEEEA (Ujh hfd) fun oc od sl hlook=>?_;delta keepIn;dsimp only;rw [hlook]
theorem Ukg(A:Around)(C:Addr)(us:List Value):(A.under (.builtin "type.__call__" ⟨.ref C::us,[]⟩)).units<=A.units+5/\(A.under (.builtin "type.__call__" ⟨.ref C::us,[]⟩)).handled=A.handled:=⟨Nat.add_le_add_left (by show _<=5;exact Nat.le_of_ble_eq_true rfl) _,rfl⟩
set_option tactic.hygienic true in
theorem cls_ok(Fa:Facts C)(cf:CF C)(ff:FF C)(Ro:Room A (d+1))(co:∀ (A':Around) (env:Env),Room (A'.deeper env) d->CallOk C (A'.deeper env) (callD C.P d)){a:Addr}{k:Cls}{args:List V}{us:List Value}{v:V}(hk:lkN a C.P.clss=some k)(R:Rel C g O s.heap)(hv:VRs g s.heap args us)
  (e:applyV C.P (callD C.P (d+1)) (.fn a) args O=some (v,O')):EvV C A (call (.ref a) us) g O' s v:=by
 delta applyV at e;dsimp only at e;rw [hk] at e;dsimp only at e;split at e
 case h_2=>cases e
 rename_i l hl;refine bndE e fun w O₁ e1 e=>?_;split at e
 case h_2=>exact (Uaa e).elim
 cases e;have f:=cf a k hk;have X:=Fa.here R;intro pt Q E q;refine wpAny_call ?_;obtain ⟨hh,gg,dd,t,os⟩:=s;refine make_core (makes_of X f.makes) (looks_findIn X f.init) (fun self=>bind_fn X self f.ifn) (.inl rfl) ?_;have hd:hh.get? hh.objs.size=none:=Ube hh;have gx:((hh.push emptyDict).push (instObj a hh.objs.size)).get? (hh.objs.size+1)=some (instObj a hh.objs.size):=by
  have:=Heap.get?_push_size (hh.push emptyDict) (o:=instObj a hh.objs.size) rfl;rw [Heap.size_push] at this;exact this
 have gd:((hh.push emptyDict).push (instObj a hh.objs.size)).get? hh.objs.size=some emptyDict:=Heap.get?_push_of_some _ (Heap.get?_push_size _ rfl);obtain ⟨t₁,R1⟩:=R.add (s:=⟨hh,gg,dd,t,os⟩) (s':=⟨(hh.push emptyDict).push (instObj a hh.objs.size),gg,dd,t,os⟩) (r:=k.region) (o:=.inst a []) (a:=hh.objs.size+1) (d:=hh.objs.size) hl
  (fun b ob e=>Heap.get?_push_of_some _ (Heap.get?_push_of_some _ e)) hd (Uae gd) R.low rfl rfl fun t=>by
   refine ⟨gx,fun z=>?_,[],0,gd,by rfl,Nat.zero_le _⟩;rcases z with z | z
   ·have:=R.zh _ z;exact this (Uku (Nat.le_succ _))
   ·exact absurd z (Nat.succ_ne_self _)
 refine xAA (Ukg A a us) fun u1 u2=>?_;have u3:(A.under (.builtin "type.__call__" ⟨.ref a::us,[]⟩)).depth=A.depth+1:=depth_under_make A a us;have Ro':∀ env,Room ((A.under (.builtin "type.__call__" ⟨.ref a::us,[]⟩)).deeper env) d:=fun env=>by
  have r1:=Ro.depth;have r2:=Ro.units;refine ⟨Ro.handled,?_,?_⟩
  ·show (A.under (.builtin "type.__call__" ⟨.ref a::us,[]⟩)).depth+1+2*d+2 < 1000;exact om306 u3 r1
  ·show (A.under (.builtin "type.__call__" ⟨.ref a::us,[]⟩)).units+3+8*d+200 < 9900;exact om305 u1 r2
 refine Upg (A:=A.under (.builtin "type.__call__" ⟨.ref a::us,[]⟩)) (s:=⟨(hh.push emptyDict).push (instObj a hh.objs.size),gg,dd,t,os⟩) Fa cf ff (by have:=Ro.depth;rw [u3];show _ < 1000;exact om316 this) Ro.handled Ro' (fun env=>co _ env (Ro' env)) (args:=.ref k.region l.length::args) (us:=.ref (hh.objs.size+1)::us) R1 ?_ e1 pt fun u s' g' t' R' hu=>?_
 ·skip;refine ⟨_,_,rfl,?_,VRs.tr' hv R t₁⟩;skip;exact ⟨_,_,rfl,by show (if _ then _ else _)=_;rw [if_pos ⟨rfl,rfl⟩]⟩
 ·dsimp only [VR] at hu;subst hu;refine ⟨rfl,q _ _ _ (t₁.trans t') R' ?_⟩;skip;exact ⟨_,_,rfl,t'.grow _ _ _ (by show (if _ then _ else _)=_;rw [if_pos ⟨rfl,rfl⟩])⟩
theorem Umo(Fa:Facts C)(cf:CF C)(ff:FF C):∀ (d:Nat) (A:Around),Room A d->CallOk C A (callD C.P d)
 | 0,A,Ro=>by
  refine ⟨fun a args us g O O' s v R hv e=>?_,fun a k args us g O O' s v hk R hv e=>?_,fun a args O r e=>?_⟩
  ·rw [callD] at e;exact (Uaa e).elim
  ·unfold applyV at e;dsimp only at e;rw [hk] at e;dsimp only at e;split at e
   ·refine bndE e fun w O₁ e1 e=>?_;rw [callD] at e1;exact (Uaa e1).elim
   ·cases e
  ·rw [callD] at e;exact (Uaa e).elim
 | d+1,A,Ro=>by
  have co:∀ (A':Around) (env:Env),Room (A'.deeper env) d->CallOk C (A'.deeper env) (callD C.P d):=fun A' env r=>Umo Fa cf ff d _ r;have Ro':∀ env,Room (A.deeper env) d:=fun env=>by
   have r1:=Ro.depth;have r2:=Ro.units;refine ⟨Ro.handled,?_,?_⟩
   ·show A.depth+1+2*d+2 < 1000;exact om318 r1
   ·show A.units+3+8*d+200 < 9900;exact om314 r2
  refine ⟨fun a args us g O O' s v R hv e pt Q E q=>?_,fun a k args us g O O' s v hk R hv e=>cls_ok Fa cf ff Ro co hk R hv e,fun a args O r e=>?_⟩
  ·exact wpAny_call (Upg Fa cf ff (by have:=Ro.depth;show _ < 1000;exact om325 this) Ro.handled Ro' (fun env=>co A env (Ro' env)) R hv e pt fun u s' g' t R' hu=>q _ _ _ t R' hu)
  ·rw [callD] at e;cases hf:lkN a C.P.fns with
   | none=>rw [hf] at e;exact (Uaa e).elim
   | some f=>exact Urw (ff a f hf)
end
noncomputable def globOk(K:Frag)(P:Prog):Bool:=P.globs.all (fun p=>nsIn K mainGlobals p.1==some (some (.ref p.2))) &&
 ([(Y "len"),"ord","chr","range","list","tuple"]:List Str).all fun x=>nsIn K mainGlobals x==some none
theorem lk_all{α:Type}{p:Str×α->Bool}{x:Str}{v:α}{l:List (Str×α)}(h:l.all p=true)(e:lk x l=some v):p (x,v)=true:=List.all_eq_true.mp h _ (lk_mem e)
theorem boots:bootBuiltins "len"=some (.builtin "len")/\bootBuiltins "ord"=some (.builtin "ord")/\bootBuiltins "chr"=some (.builtin "chr")/\bootBuiltins "range"=some (.type "range")/\bootBuiltins "list"=some (.type "list")/\bootBuiltins "tuple"=some (.type "tuple"):=by
 refine ⟨?_,?_,?_,?_,?_,?_⟩ <;> decide +kernel
theorem Uq4{p:Program}{loose:List Str}{mean:ExcName->Option Value}{mg mb:Str->Option Value}{prog:Program}{w:World}{h:Heap}{K:Frag}{P:Prog}(big:∃ b,sysModules < b/\h.get? b≠none)
  (T:Top p loose mean mg mb h) (X:K.In h) (hg:globOk K P=true):Facts ⟨prog,w,h,K,P,big⟩:=by
 delta globOk at hg;rw [Bool.and_eq_true] at hg;refine xAAAAAA boots fun b1 b2 b3 b4 b5 b6=>?_;have nn:∀ x ∈ ([(Y "len"),"ord","chr","range","list","tuple"]:List Str),mg x=none:=fun x hx=>mg_none_of X T.g (beq_iff_eq.mp (List.all_eq_true.mp hg.2 x hx));refine ⟨X,T.nolimit,mg,mb,T.g,T.b,fun x a e=>mg_of X T.g (beq_iff_eq.mp (lk_all hg.1 e)),fun x hx w0=>?_,fun x hx w0=>?_⟩
 ·rcases hx with rfl | rfl | rfl
  ·exact ⟨nn _ (by simp),(T.builtins _ (by decide)).trans (b1.trans (by decide +kernel))⟩
  ·exact ⟨nn _ (by simp),(T.builtins _ (by decide)).trans (b2.trans (by decide +kernel))⟩
  ·exact ⟨nn _ (by simp),(T.builtins _ (by decide)).trans (b3.trans (by decide +kernel))⟩
 ·rcases hx with rfl | rfl | rfl
  ·exact ⟨nn _ (by simp),(T.builtins _ (by decide)).trans (b4.trans (by decide +kernel))⟩
  ·exact ⟨nn _ (by simp),(T.builtins _ (by decide)).trans (b5.trans (by decide +kernel))⟩
  ·exact ⟨nn _ (by simp),(T.builtins _ (by decide)).trans (b6.trans (by decide +kernel))⟩
theorem VRs.ints{g:Gh}{h:Heap}:∀ {vs:List Value} {ns:List Int},IntsAre vs ns->VRs g h (ns.map .int) vs
 | _,_,.nil=>by rfl
 | _,_,.cons n t r=>by simp only [List.map_cons,VRs];exact ⟨_,_,rfl,VR.mkInt,VRs.ints r⟩
set_option tactic.hygienic true in
theorem Urb{p:Program}{loose:List Str}{mean:ExcName->Option Value}{mg mb:Str->Option Value}{prog:Program}{w:World}{K:Frag}{P:Prog}{A:Around}{B:Heap}{s:Shared}{d N:Nat}{a fa:Addr}{vs:List Value}{ns:List Int}{x:Str}
  {name:Str} {scope:Scope} {faV:Addr} {cd:Value} {body:List Stmt} {m:Str->Option Value} {E:Value->Shared->Prop} {Q:Flow->Shared->Prop} {wd:List WData}
  (T:Top p loose mean mg mb B) (X:K.In B) (hg:globOk K P=true) (cf:∀ c k,lkN c P.clss=some k->ClsFacts K c k) (ff:∀ a f,lkN a P.fns=some f->FnIn K a f)
  (hA:A.handled=none) (hAd:A.depth+2*d+2 < 1000) (hAu:A.units+8*d+200 < 9900)
  (hl:B.IsList a vs.toArray) (hwl:Well w.params B (.ref a) (.list wd)) (hI:IntsAre vs ns) (h63:¬ ((63:Nat):Int) < (ns.length:Int)) (F:PyProof.Rows.Fr B B.objs.size s.heap m) (hm:m x=some (.ref a))
  (hfn:lkN fa P.fns=some ⟨[x],[],body,scope⟩) (hkind:scope.kind=.function) (hdb:∀ q ∈ scope.names,(q.1==Qck)=false/\(q.1==Qcl)=false) (hcell:∀ q ∈ scope.names,q.2≠.cell)
  (hx:scope.names.lookup x=some .local) (pt:0 < s.toks)
  (hlaw:∀ ns:List Int,ns.length<=63->∃ O',callD P (d+1) fa [.lst (ns.map .int)] (List.replicate N [])=some (.bool true,O'))
  (q:∀ s',(∀ b o,B.get? b=some o->s'.heap.get? b=some o)->s'.os=s.os->s'.gens=s.gens->Q (.ret (.bool true)) s') :
  wpAny (model prog w) A (execs body (envOf name scope B.objs.size faV cd)) Q E s:=by
 refine xEA (hlaw ns (by omega)) fun O' e=>?_;have big:∃ b,sysModules < b/\B.get? b≠none:=⟨mainGlobals,by decide,by refine xEEEAA T.g fun w0 w0 w0 q w0=>?_;exact Uae q⟩
 have Fa:Facts ⟨prog,w,B,K,P,big⟩:=Uq4 big T X hg;have Ro:Room A d:=⟨hA,hAd,hAu⟩
 rw [callD,hfn] at e;dsimp only at e;have hb:bindP [x] [V.lst (ns.map .int)] []=some [(x,.lst (ns.map .int))]:=rfl;rw [hb] at e;dsimp only at e;refine bndE e fun fl O₁ e1 e=>?_;have hga:∃ n,B.get? a=some (lo vs.toArray n):=by
  refine xEAAEA hl fun o ho hc n hd=>?_;cases hwl with
  | list h1 h2=>rw [h1] at ho;cases ho;cases hd;exact ⟨0,h1⟩
 refine xEA hga fun n hga=>?_;have dL:B.get? B.objs.size=none:=Ube B;have ns0:=F.ns;have R:Rel ⟨prog,w,B,K,P,big⟩ ⟨fun w0 w0=>none,fun b=>b=B.objs.size⟩ (List.replicate N []) s.heap:=by
  refine ⟨F.keep,fun b z=>?_,fun b z=>?_,fun b qq=>xEEEA qq fun r i a p=>(nomatch p),fun r i w0=>rfl,fun r i o h=>?_,fun r i r' i' a a' d p w0=>nomatch p⟩
  ·subst z;exact ⟨dL,modules_low T.nolimit⟩
  ·subst z;refine xEEEAA ns0 fun w0 w0 w0 q w0=>?_;exact Uae q
  ·unfold Store.get at h;split at h
   ·rename_i l hl;rw [List.getElem?_replicate] at hl;split at hl
    ·cases hl;simp at h
    ·cases hl
   ·cases h
 have hv:VR ⟨fun w0 w0=>none,fun b=>b=B.objs.size⟩ s.heap (.lst (ns.map .int)) (.ref a):=by
  skip;exact ⟨a,vs.toArray,n,rfl,F.keep _ _ hga,(fun z=>by rw [z,dL] at hga;cases hga),VRs.ints hI,by rw [List.length_map];delta lim;omega⟩
 have S:ES scope (envOf name scope B.objs.size faV cd):=⟨fun w0 h=>h,fun w0 h=>h,fun w0 h=>h⟩
 have Fr:FR ⟨fun w0 w0=>none,fun b=>b=B.objs.size⟩ s.heap (envOf name scope B.objs.size faV cd) [(x,.lst (ns.map .int))]:=by
  have only:∀ y v,lk y [(x,V.lst (ns.map .int))]=some v->y=x/\v=.lst (ns.map .int):=fun y v h=>by
   dsimp only [lk] at h;split at h
   ·rename_i hb;cases h;exact ⟨(beq_iff_eq.mp hb).symm,rfl⟩
   ·cases h
  refine ⟨hkind,rfl,rfl,hdb,rfl,fun qq=>xEEEA qq fun r i a p=>(nomatch p),⟨m,ns0,fun y v h w0=>?_⟩,fun y v h=>?_,fun y c h=>(nomatch h),fun y h=>absurd rfl (hcell _ (mem_of_lookup h)),fun y z c h=>nomatch h⟩
  ·refine xAA (only y v h) fun qz1 qz2=>?_;subst qz1;subst qz2;exact ⟨_,hm,hv⟩
  ·refine xAA (only y v h) fun qz1 qz2=>?_;subst qz1;subst qz2;exact .inl hx
 refine (st_all Fa cf hA (ev_all Fa cf Ro (Umo Fa cf ff d A Ro)) 60).sts _ body _ _ _ O₁ s fl S Fr R e1 pt Q E fun f s' g' t R' hf=>?_;cases fl with
 | next fr'=>cases e
 | ret v =>
  refine xEAA hf fun u qz1 hu=>?_;subst qz1;cases e;dsimp only [VR] at hu;subst hu;exact q s' R'.base t.os t.gens
noncomputable def noDflt(fd:FuncData):Bool:=match fd.defaults with
 | .none=>true
 | _=>false
noncomputable def fnsOk(K:Frag)(as:List Addr):Bool:=as.all fun a=>(fdAt K a).any fun fd=>fdOk K fd&&noDflt fd
set_option tactic.hygienic true in
theorem FnIn.plain{K:Frag}{a:Addr}(h:(fdAt K a).any (fun fd=>fdOk K fd&&noDflt fd)=true):FnIn K a (fnAt K [] a):=by
 refine FnIn.of ?_ fun fd e=>?_
 ·cases e:fdAt K a with
  | none=>rw [e] at h;cases h
  | some fd=>rw [e] at h;exact (Bool.and_eq_true _ _▸h:_/\_).1
 ·rw [e] at h;have h:=(Bool.and_eq_true _ _▸h:fdOk K fd=true/\noDflt fd=true).2;unfold noDflt at h;split at h
  ·rename_i hd;exact .inl ⟨hd,rfl⟩
  ·cases h
set_option tactic.hygienic true in
theorem Ups{K:Frag}{a:Addr}{f:Fn}:∀ {as:List Addr},lkN a (as.map fun a=>(a,fnAt K [] a))=some f->a ∈ as/\f=fnAt K [] a
 | [],e=>by simp [lkN] at e
 | b::as,e=>by
  rw [List.map_cons,lkN] at e;split at e
  ·rename_i h;cases e;have:b=a:=Nat.eq_of_beq_eq_true h;subst this;exact ⟨List.mem_cons_self,rfl⟩
  ·refine xAA (Ups e) fun x y=>?_;exact ⟨List.mem_cons_of_mem _ x,y⟩
set_option tactic.hygienic true in
theorem fns_in{K:Frag}{i:Addr}{fi:Fn}{as:List Addr}(h:fnsOk K as=true)(hi:FnIn K i fi):∀ a f,lkN a ((i,fi)::as.map fun a=>(a,fnAt K [] a))=some f->FnIn K a f:=fun a f e=>by
 rw [lkN] at e;split at e
 ·rename_i q;cases e;have:i=a:=Nat.eq_of_beq_eq_true q;subst this;exact hi
 ·refine xAA (Ups e) fun x qz1=>?_;subst qz1;exact FnIn.plain (List.all_eq_true.mp h _ x)
set_option tactic.hygienic true in
theorem Upq{α:Type}{a:Nat}{v:α}:∀ {l:List (Nat×α)},lkN a l=some v->(a,v) ∈ l
 | (b,w)::r,e=>by
  rw [lkN] at e;split at e
  ·rename_i q;cases e;have:b=a:=Nat.eq_of_beq_eq_true q;subst this;exact List.mem_cons_self
  ·exact List.mem_cons_of_mem _ (Upq e)
theorem cls_in{K:Frag}{l:List (Addr×Cls)}(h:l.all (fun p=>clsOk K p.1 p.2)=true):∀ c k,lkN c l=some k->ClsFacts K c k:=fun c k e=>by
 have q:clsOk K c k=true:=List.all_eq_true.mp h (c,k) (Upq e);exact Uka q
theorem FnIn.last{K:Frag}{a:Addr}{x:Str}{t:Tok}{fd:FuncData}(e:fdAt K a=some fd)(h:fdOk K fd=true)(o:sOk x=true)(l:x.length<=lim)
  (h1:∀ us:List Value,us.length=(argNames fd).length->∀ S,peek K S (bindArgs fd ⟨us,[]⟩)=some ((argNames fd).zip us))
  (h2:∀ us:List Value,us.length+1=(argNames fd).length->∀ S,peek K S (bindArgs fd ⟨us,[]⟩)=some ((argNames fd).zip (us++[.str x t]))):FnIn K a (fnAt K [.str x] a):=by
 refine FnIn.of (by rw [e];exact h) fun fd' e'=>?_;rw [e] at e';cases e';exact .inr ⟨x,t,rfl,o,l,h1,h2⟩
theorem len1{us:List Value}{n:Nat}(h:us.length=n+1):∃ a r,us=a::r/\r.length=n:=by
 cases us with
 | nil=>cases h
 | cons a r=>exact ⟨a,r,rfl,Nat.succ.inj h⟩
theorem len3'{us:List Value}(h:us.length=3):∃ a b c,us=[a,b,c]:=by
 refine xEEAA (len1 h) fun a r1 qz1 h1=>?_;subst qz1;refine xEEAA (len1 h1) fun b r2 qz1 h2=>?_;subst qz1;refine xEEAA (len1 h2) fun c r3 qz1 h3=>?_;subst qz1;exact ⟨a,b,c,by rw [List.eq_nil_of_length_eq_zero h3]⟩
theorem len4{us:List Value}(h:us.length=4):∃ a b c d,us=[a,b,c,d]:=by
 refine xEEAA (len1 h) fun a r1 qz1 h1=>?_;subst qz1;refine xEEEA (len3' h1) fun b c d qz1=>?_;subst qz1;exact ⟨a,b,c,d,rfl⟩
theorem len3{us:List Value}(h:us.length+1=4):∃ a b c,us=[a,b,c]:=len3' (Nat.succ.inj h)
theorem Urh{r:RowW}{cl:Str->Option Addr}{mean:ExcName->Option Value}{args:List WData}{s₁ s':Shared}(hr:r.raises=[])(hp:r.claim.post args (.bool true) args=true)
  (hk:∀ b o,s₁.heap.get? b=some o->s'.heap.get? b=some o) (ho:s'.os=s₁.os) (hg:s'.gens=#[]):GoodW r.claim cl mean args s₁ (.ok (.ret (.bool true))) s' :=
 ⟨.inl ⟨_,.bool true,[],rfl,raisesW_false (fun ct h=>by rw [hr] at h;cases h),.bool true,hp,unshared_nil⟩,hk,ho,hg⟩
end Mine
end
section
open PySem
namespace Mine
noncomputable def constO:Const->Option V
 | .none=>some .none
 | .bool b=>some (.bool b)
 | .int i=>some (.int i)
 | .str s=>if s.cps.all (· < 0x110000)/\s.length<=lim then some (.str s) else none
 | _=>none
set_option tactic.hygienic true in
noncomputable def unFl:Fl->M V
 | .ret v=>ret v
 | .next _=>ret .none
noncomputable def unB:Fl->M Bool
 | .ret (.bool b)=>ret b
 | _=>fail
section
variable (P:Prog)(call:CC)
mutual
noncomputable def evalK:Nat->Scope->Fr->Expr->(V->M Fl)->M Fl
 | 0,_,_,_,_=>fail
 | n+1,sc,fr,e,k=>match e with
  | .Constant c _ _=>ob (constO c) k fail
  | .Name x _=>ob (nameO P sc fr x) k fail
  | .BoolOp op es _=>boolK n sc fr op es k
  | .BinOp l op r _=>evalK n sc fr l fun a=>evalK n sc fr r fun b=>bnd (look (binV op a b)) k
  | .UnaryOp op e _=>match op with
   | .Not=>evalK n sc fr e fun a=>ob (isT a) (fun b=>k (.bool (!b))) fail
   | .USub=>evalK n sc fr e fun a=>ob (negV a) k fail
   | _=>fail
  | .IfExp t a b _=>testK n sc fr t fun c=>if c then evalK n sc fr a k else evalK n sc fr b k
  | .Dict ks vs pos=>if ks.length<=15/\0 < ks.length then pairsK n sc fr ks vs fun es=>bnd (mkDict P pos es) k else fail
  | .List es pos=>evalEsK n sc fr es fun vs=>bnd (mkList P pos vs) k
  | .Tuple es _ _=>evalEsK n sc fr es fun vs=>if vs.length<=lim then k (.tup vs) else fail
  | .ListComp elt gens scope _=>ob (genV gens) (fun d=>if notSet d.2.1&&compOk sc scope d.1 then evalK n sc fr d.2.1 fun o =>
    bnd (compK o (fun v=>bnd (evalK n scope (setK d.1 v (compFr scope fr)) elt fun w=>ret (.ret w)) unFl) (fun v=>ifsE (fun fr' c=>bnd (testK n scope fr' c fun b=>ret (.ret (.bool b))) unB) d.2.2 (setK d.1 v (compFr scope fr))) 200 0 []) k else fail) fail
  | .Compare l ops rs _=>ob (shpV ops rs) (fun s=>ob s.2.2
    (fun t=>if notSet t.2 then evalK n sc fr l fun a=>evalK n sc fr s.2.1 fun b=>bnd (look (cmpV s.1 a b)) fun c =>
     if c then evalK n sc fr t.2 fun d=>bnd (look (cmpV t.1 b d)) fun e=>k (.bool e) else k (.bool false) else fail)
    (evalK n sc fr l fun a=>evalK n sc fr s.2.1 fun b=>bnd (look (cmpV s.1 a b)) fun c=>k (.bool c))) fail
  | .Call f args kws p=>calB (calV f kws)
   (fun o x ap=>if callOk o args ap p then
     (if x==(Y "replace") then evalK n sc fr o fun ov=>bnd (look (methK P ov x)) fun k'=>if isRepl k' then bnd (replV ov args) k else fail
      else evalK n sc fr o fun ov=>bnd (look (methK P ov x)) fun k'=>if isRepl k' then fail else evalEsK n sc fr args fun as=>bnd (methodV call k' ov as) k) else fail)
   (fun f q=>if decide (args.length < 20) then evalK n sc fr (.Name f q) fun fv=>evalEsK n sc fr args fun as=>bnd (applyV P call fv as) k else fail) fail
  | .Attribute o x _=>if plainBase o then evalK n sc fr o fun ov=>bnd (attrV P ov x) k else fail
  | .Subscript o i _=>ob (slcV i) (fun s=>evalK n sc fr o fun ov=>optK n sc fr s.1 fun a=>optK n sc fr s.2.1 fun b=>ob s.2.2
    (fun st=>evalK n sc fr st fun c=>bnd (look (stepV ov a b c)) k) (bnd (look (sliceV ov a b)) k))
   (evalK n sc fr o fun ov=>evalK n sc fr i fun iv=>bnd (look (itemV ov iv)) k)
  | _=>fail

noncomputable def optK:Nat->Scope->Fr->Option Expr->(Option V->M Fl)->M Fl
 | 0,_,_,_,_=>fail
 | _+1,_,_,none,k=>k none
 | n+1,sc,fr,some e,k=>evalK n sc fr e fun v=>k (some v)

noncomputable def evalEsK:Nat->Scope->Fr->List Expr->(List V->M Fl)->M Fl
 | 0,_,_,_,_=>fail
 | _+1,_,_,[],k=>k []
 | n+1,sc,fr,e::r,k=>evalK n sc fr e fun v=>evalEsK n sc fr r fun vs=>k (v::vs)

noncomputable def pairsK:Nat->Scope->Fr->List (Option Expr)->List Expr->(List (Str×V)->M Fl)->M Fl
 | 0,_,_,_,_,_=>fail
 | _+1,_,_,[],[],k=>k []
 | n+1,sc,fr,some q::ks,e::r,k=>evalK n sc fr q fun
  | .str x=>evalK n sc fr e fun v=>pairsK n sc fr ks r fun vs=>k ((x,v)::vs)
  | _=>fail
 | _+1,_,_,_,_,_=>fail

noncomputable def boolK:Nat->Scope->Fr->BoolOp->List Expr->(V->M Fl)->M Fl
 | 0,_,_,_,_,_=>fail
 | n+1,sc,fr,_,[e],k=>evalK n sc fr e k
 | n+1,sc,fr,op,e::r,k=>evalK n sc fr e fun v=>ob (isT v) (fun b=>match op with
   | .And=>cond b (boolK n sc fr op r k) (k v)
   | .Or=>cond b (k v) (boolK n sc fr op r k)) fail
 | _+1,_,_,_,_,_=>fail

noncomputable def testK:Nat->Scope->Fr->Expr->(Bool->M Fl)->M Fl
 | 0,_,_,_,_=>fail
 | n+1,sc,fr,e,k=>tstB (tstV e) (fun e=>testK n sc fr e fun b=>k (!b)) (fun op es=>testsK n sc fr op es k)
  (fun l s=>ob s.2.2
   (fun t=>if notSet t.2 then evalK n sc fr l fun a=>evalK n sc fr s.2.1 fun b=>bnd (look (cmpV s.1 a b)) fun c =>
    if c then evalK n sc fr t.2 fun d=>bnd (look (cmpV t.1 b d)) k else k false else fail)
   (evalK n sc fr l fun a=>evalK n sc fr s.2.1 fun b=>bnd (look (cmpV s.1 a b)) k))
  (evalK n sc fr e fun v=>ob (isT v) k fail) fail

noncomputable def testsK:Nat->Scope->Fr->BoolOp->List Expr->(Bool->M Fl)->M Fl
 | 0,_,_,_,_,_=>fail
 | _+1,_,_,op,[],k=>k (op==.And)
 | n+1,sc,fr,op,e::r,k=>testK n sc fr e fun b=>match op with
  | .And=>cond b (testsK n sc fr op r k) (k false)
  | .Or=>cond b (k true) (testsK n sc fr op r k)
end
variable (sc:Scope)
noncomputable def storeK(n:Nat)(fr:Fr)(v:V)(t:Expr)(k:Fr->M Fl):M Fl:=match t with
 | .Name x _=>if setOk sc x then k (setK x v fr) else fail
 | .Attribute o x _=>evalK P call n sc fr o fun ov=>bnd (setAttrV P ov x v) fun w0=>k fr
 | .Subscript o i _=>evalK P call n sc fr o fun ov=>evalK P call n sc fr i fun iv=>bnd (setItemV ov iv v) fun w0=>k fr
 | _=>fail
noncomputable def storesK(n:Nat):Fr->List V->List Expr->(Fr->M Fl)->M Fl
 | fr,vs,[],k=>match vs with
  | []=>k fr
  | _::_=>fail
 | fr,vs,t::ts,k=>match vs with
  | v::vs=>storeK P call sc n fr v t fun fr'=>storesK n fr' vs ts k
  | []=>fail
termination_by structural _ _ ts=>ts
noncomputable def execK:Nat->Fr->List Stmt->(Fr->M Fl)->M Fl
 | 0,_,_,_=>fail
 | _+1,fr,[],k=>k fr
 | 1,_,_::_,_=>fail
 | n+2,fr,s::r,k=>match s with
  | .Expr e _=>if notComp e then evalK P call n sc fr e fun w0=>execK (n+1) fr r k else fail
  | .Pass _=>execK (n+1) fr r k
  | .Return e _=>match e with
   | some e=>evalK P call n sc fr e fun v=>ret (.ret v)
   | none=>ret (.ret .none)
  | .Assign ts e _=>tgtB (tgtV ts)
   (fun ts=>if tupOk e&&nodupB (names ts)&&decide (ts.length < 20) then evalK P call n sc fr e fun v=>ob (tupV v) (fun vs=>storesK P call sc n fr vs ts fun fr'=>execK (n+1) fr' r k) fail else fail)
   (fun t=>evalK P call n sc fr e fun v=>storeK P call sc n fr v t fun fr'=>execK (n+1) fr' r k) fail
  | .AugAssign t op e _=>ob (augT t) (fun z=>evalK P call n sc fr z.1 fun ov=>bnd (attrV P ov z.2) fun a=>evalK P call n sc fr e fun b =>
    bnd (look (augV op a b)) fun v=>bnd (setAttrV P ov z.2 v) fun w0=>execK (n+1) fr r k) fail
  | .If t a b _=>testK P call n sc fr t fun c=>if c then execK n fr a (fun fr'=>execK (n+1) fr' r k) else execK n fr b (fun fr'=>execK (n+1) fr' r k)
  | .While t a b _=>match b with
   | []=>bnd (loopW (fun fr=>bnd (testK P call n sc fr t fun b=>ret (.ret (.bool b))) unB) (fun fr=>execK n fr a fun fr'=>ret (.next fr')) 5000 fr) (goOn fun fr'=>execK (n+1) fr' r k)
   | _=>fail
  | .For t it a b _=>ob (forV t b) (fun x=>if notSet it then evalK P call n sc fr it fun o =>
    bnd (loopF o (fun v fr=>setVar sc x v fr) (fun fr=>execK n fr a fun fr'=>ret (.next fr')) 5000 0 fr) (goOn fun fr'=>execK (n+1) fr' r k) else fail) fail
  | _=>fail
end
noncomputable def bodyK(P:Prog)(call:CC)(f:Fn)(args:List V):M Fl:=match bindP f.params args f.dflts with
 | some fr=>execK P call f.scope 60 fr f.body fun fr=>ret (.next fr)
 | none=>fail
noncomputable def callK(P:Prog):Nat->CC
 | 0,_,_=>fail
 | d+1,a,args=>match lkN a P.fns with
  | some f=>bnd (bodyK P (callK P d) f args) unFl
  | none=>fail
noncomputable def Le{α:Type}(m m':M α):Prop:=∀ O r,m O=some r->m' O=some r
section
variable {α β γ:Type}
theorem Le.rfl{m:M α}:Le m m:=fun w0 w0 h=>h
theorem Le.trans{a b c:M α}(x:Le a b)(y:Le b c):Le a c:=fun O r h=>y O r (x O r h)
theorem Le.bnd{m m':M α}{k k':α->M β}(x:Le m m')(y:∀ a,Le (k a) (k' a)):Le (bnd m k) (bnd m' k'):=fun O r h=>by
 refine bndE h fun a O₁ h1 h2=>?_;delta Mine.bnd;rw [x O _ h1];exact y a _ _ h2
theorem Le.fail{m:M α}:Le (fail:M α) m:=fun w0 w0 h=>(Und h).elim
theorem Ua3(m:M α)(k:α->M β)(l:β->M γ):bnd (bnd m k) l=bnd m fun a=>bnd (k a) l:=by
 funext O
 delta bnd;cases m O with
 | none=>simp
 | some r=>simp
theorem Uja(m:M α):bnd m ret=m:=by
 funext O
 delta bnd ret;cases m O with
 | none=>simp
 | some r=>simp
theorem Le.ite{c:Prop}[Decidable c]{a b a' b':M α}(x:Le a a')(y:Le b b'):Le (if c then a else b) (if c then a' else b'):=by split <;> assumption
end
section
variable {P:Prog}{call call':CC}(hc:∀ a args,Le (call a args) (call' a args))
include hc
theorem Un6(f:V)(args:List V):Le (applyV P call f args) (applyV P call' f args):=by
 delta applyV;split
 ·exact Le.rfl
 ·split
  ·intro O r h;dsimp only at h ⊢;split at h
   ·exact Le.bnd (hc _ _) (fun w0=>Le.rfl) _ _ h
   ·cases h
  ·exact hc _ _
 ·exact Le.rfl
theorem Ulv(k:MK)(o:V)(args:List V):Le (methodV call k o args) (methodV call' k o args):=by
 delta methodV;split
 ·exact hc _ _
 ·exact Le.rfl
end
section
variable {α β γ:Type}
theorem Le.unFl{X:M Fl}{m:M V}(h:Le X (Mine.bnd m fun w=>ret (.ret w))):Le (Mine.bnd X Mine.unFl) m:=by
 refine (Le.bnd h fun w0=>Le.rfl).trans ?_;rw [Ua3];have:(fun a=>Mine.bnd (ret (Fl.ret a)) Mine.unFl)=(ret:V->M V):=by funext a;rfl
 rw [this,Uja];exact Le.rfl
theorem Le.unB{X:M Fl}{m:M Bool}(h:Le X (Mine.bnd m fun b=>ret (.ret (.bool b)))):Le (Mine.bnd X Mine.unB) m:=by
 refine (Le.bnd h fun w0=>Le.rfl).trans ?_;rw [Ua3];have:(fun a=>Mine.bnd (ret (Fl.ret (.bool a))) Mine.unB)=(ret:Bool->M Bool):=by funext a;rfl
 rw [this,Uja];exact Le.rfl
theorem Le.bb{m:M α}{n:α->M γ}{k:γ->M β}{Z:M β}{Y:α->M β}(h:Le Z (Mine.bnd m Y))(y:∀ a,Le (Y a) (Mine.bnd (n a) k)):Le Z (Mine.bnd (Mine.bnd m n) k):=by
 rw [Ua3];exact h.trans (Le.bnd Le.rfl y)
theorem Le.b1{m:M α}{k k':α->M β}(y:∀ a,Le (k a) (k' a)):Le (Mine.bnd m k) (Mine.bnd m k'):=Le.bnd Le.rfl y
theorem Le.bl{m:M α}{n:α->M γ}{k:γ->M β}{Y:α->M β}(y:∀ a,Le (Y a) (Mine.bnd (n a) k)):Le (Mine.bnd m Y) (Mine.bnd (Mine.bnd m n) k):=Le.bb Le.rfl y
theorem Le.re{a:α}{k:α->M β}:Le (k a) (Mine.bnd (ret a) k):=Le.rfl
theorem Le.it{c:Prop}[Decidable c]{a b:M β}{a' b':M α}{k:α->M β}(x:Le a (Mine.bnd a' k))(y:Le b (Mine.bnd b' k)):Le (if c then a else b) (Mine.bnd (if c then a' else b') k):=by split <;> assumption
theorem Le.itf{c:Prop}[Decidable c]{a:M β}{a':M α}{k:α->M β}(x:c->Le a (Mine.bnd a' k)):Le (if c then a else Mine.fail) (Mine.bnd (if c then a' else Mine.fail) k):=by
 split
 ·exact x (by assumption)
 ·exact Le.fail
theorem Le.li{x:Option α}{k Z:α->M β}(h:∀ a,Le (Z a) (k a)):Le (ob x Z Mine.fail) (Mine.bnd (lift x) k):=by
 cases x with
 | none=>exact Le.fail
 | some a=>exact h a
theorem Uns(c:Const):constV c=lift (constO c):=by
 cases c <;> try rfl
 delta constV constO;dsimp only;split <;> rfl
theorem Ulr{o:V}{elt elt':V->M V}{test test':V->M Bool}(h1:∀ v,Le (elt v) (elt' v))(h2:∀ v,Le (test v) (test' v)):∀ n k acc,Le (compK o elt test n k acc) (compK o elt' test' n k acc)
 | 0,_,_=>Le.rfl
 | n+1,k,acc=>Le.bnd Le.rfl fun r=>by
  cases r with
  | none=>exact Le.rfl
  | some v=>exact Le.bnd (h2 _) fun b=>Le.ite (Le.bnd (h1 _) fun w=>Le.ite (Ulr h1 h2 n _ _) Le.rfl) (Ulr h1 h2 n _ _)
end
section
variable {P:Prog}{call call':CC}
structure EvK(P:Prog)(call call':CC)(n:Nat):Prop where
 ev:∀ sc fr e k,Le (evalK P call n sc fr e k) (bnd (evalE P call' n sc fr e) k)
 opt:∀ sc fr e k,Le (optK P call n sc fr e k) (bnd (optE P call' n sc fr e) k)
 evs:∀ sc fr e k,Le (evalEsK P call n sc fr e k) (bnd (evalEs P call' n sc fr e) k)
 pairs:∀ sc fr ks e k,Le (pairsK P call n sc fr ks e k) (bnd (pairsE P call' n sc fr ks e) k)
 bool:∀ sc fr op e k,Le (boolK P call n sc fr op e k) (bnd (boolE P call' n sc fr op e) k)
 test:∀ sc fr e k,Le (testK P call n sc fr e k) (bnd (testE P call' n sc fr e) k)
 tests:∀ sc fr op e k,Le (testsK P call n sc fr op e k) (bnd (testsE P call' n sc fr op e) k)
variable {n:Nat}{sc:Scope}{fr:Fr}
theorem Utg{c:Const}{k:V->M Fl}:Le (ob (constO c) k Mine.fail) (bnd (constV c) k):=by
 rw [Uns];exact Le.li fun w0=>Le.rfl
theorem k_comp(ih:EvK P call call' n){d:Str×Expr×List Expr}{elt:Expr}{scope:Scope}{k:V->M Fl}:Le (if notSet d.2.1&&compOk sc scope d.1 then evalK P call n sc fr d.2.1 fun o =>
    bnd (compK o (fun v=>bnd (evalK P call n scope (setK d.1 v (compFr scope fr)) elt fun w=>ret (.ret w)) unFl) (fun v=>ifsE (fun fr' c=>bnd (testK P call n scope fr' c fun b=>ret (.ret (.bool b))) unB) d.2.2 (setK d.1 v (compFr scope fr))) 200 0 []) k else fail)
  (bnd (if notSet d.2.1&&compOk sc scope d.1 then bnd (evalE P call' n sc fr d.2.1) fun o =>
    compK o (fun v=>evalE P call' n scope (setK d.1 v (compFr scope fr)) elt) (fun v=>ifsE (fun fr' c=>testE P call' n scope fr' c) d.2.2 (setK d.1 v (compFr scope fr))) 200 0 [] else fail) k):=by
 refine Le.itf fun w0=>Le.bb (ih.ev _ _ _ _) fun o=>Le.bnd (Ulr (fun v=>(ih.ev _ _ _ _).unFl) (fun v=>?_) _ _ _) fun w0=>Le.rfl;delta ifsE;rcases d.2.2 with _ | ⟨c,_ | _⟩
 ·exact Le.rfl
 ·exact (ih.test _ _ _ _).unB
 ·exact Le.fail
theorem k_cmp(ih:EvK P call call' n){s:Shp}{l:Expr}{k:V->M Fl}:Le (ob s.2.2
    (fun t=>if notSet t.2 then evalK P call n sc fr l fun a=>evalK P call n sc fr s.2.1 fun b=>bnd (look (cmpV s.1 a b)) fun c =>
     if c then evalK P call n sc fr t.2 fun d=>bnd (look (cmpV t.1 b d)) fun e=>k (.bool e) else k (.bool false) else fail)
    (evalK P call n sc fr l fun a=>evalK P call n sc fr s.2.1 fun b=>bnd (look (cmpV s.1 a b)) fun c=>k (.bool c)))
  (bnd (bnd (evalE P call' n sc fr l) fun a=>bnd (evalE P call' n sc fr s.2.1) fun b=>bnd (look (cmpV s.1 a b)) fun c=>ob s.2.2
   (fun t=>if c then (if notSet t.2 then bnd (evalE P call' n sc fr t.2) fun d=>bnd (look (cmpV t.1 b d)) fun e=>ret (.bool e) else fail) else (if notSet t.2 then ret (.bool false) else fail)) (ret (.bool c))) k):=by
 rcases s with ⟨op,r,_ | ⟨op2,r2⟩⟩
 ·exact Le.bb (ih.ev _ _ _ _) fun a=>Le.bb (ih.ev _ _ _ _) fun b=>Le.bl fun c=>Le.rfl
 ·show Le (if notSet r2=true then _ else Mine.fail) (bnd (bnd _ fun a=>bnd _ fun b=>bnd _ fun c=>if c=true then (if notSet r2=true then _ else Mine.fail) else (if notSet r2=true then _ else Mine.fail)) k)
  generalize notSet r2=z
  cases z with
  | false=>exact Le.fail
  | true=>exact Le.bb (ih.ev _ _ _ _) fun a=>Le.bb (ih.ev _ _ _ _) fun b=>Le.bl fun c=>Le.it (Le.bb (ih.ev _ _ _ _) fun d=>Le.bl fun e=>Le.rfl) Le.rfl
theorem k_tcmp(ih:EvK P call call' n){s:Shp}{l:Expr}{k:Bool->M Fl}:Le (ob s.2.2
   (fun t=>if notSet t.2 then evalK P call n sc fr l fun a=>evalK P call n sc fr s.2.1 fun b=>bnd (look (cmpV s.1 a b)) fun c =>
    if c then evalK P call n sc fr t.2 fun d=>bnd (look (cmpV t.1 b d)) k else k false else fail)
   (evalK P call n sc fr l fun a=>evalK P call n sc fr s.2.1 fun b=>bnd (look (cmpV s.1 a b)) k))
  (bnd (bnd (evalE P call' n sc fr l) fun a=>bnd (evalE P call' n sc fr s.2.1) fun b=>bnd (look (cmpV s.1 a b)) fun c=>ob s.2.2
   (fun t=>if c then (if notSet t.2 then bnd (evalE P call' n sc fr t.2) fun d=>look (cmpV t.1 b d) else fail) else (if notSet t.2 then ret false else fail)) (ret c)) k):=by
 rcases s with ⟨op,r,_ | ⟨op2,r2⟩⟩
 ·exact Le.bb (ih.ev _ _ _ _) fun a=>Le.bb (ih.ev _ _ _ _) fun b=>Le.bl fun c=>Le.rfl
 ·show Le (if notSet r2=true then _ else Mine.fail) (bnd (bnd _ fun a=>bnd _ fun b=>bnd _ fun c=>if c=true then (if notSet r2=true then _ else Mine.fail) else (if notSet r2=true then _ else Mine.fail)) k)
  generalize notSet r2=z
  cases z with
  | false=>exact Le.fail
  | true=>exact Le.bb (ih.ev _ _ _ _) fun a=>Le.bb (ih.ev _ _ _ _) fun b=>Le.bl fun c=>Le.it (Le.bb (ih.ev _ _ _ _) fun d=>Le.rfl) Le.rfl
theorem k_meth(hc:∀ a args,Le (call a args) (call' a args))(ih:EvK P call call' n){o:Expr}{x:Str}{args:List Expr}{c:Prop}[Decidable c]{k:V->M Fl}:Le (if c then
     (if x==(Y "replace") then evalK P call n sc fr o fun ov=>bnd (look (methK P ov x)) fun k'=>if isRepl k' then bnd (replV ov args) k else fail
      else evalK P call n sc fr o fun ov=>bnd (look (methK P ov x)) fun k'=>if isRepl k' then fail else evalEsK P call n sc fr args fun as=>bnd (methodV call k' ov as) k) else fail)
  (bnd (if c then bnd (evalE P call' n sc fr o) fun ov=>bnd (look (methK P ov x)) fun k=>if isRepl k then replV ov args else bnd (evalEs P call' n sc fr args) fun as=>methodV call' k ov as else fail) k):=by
 refine Le.itf fun w0=>?_;cases x==(Y "replace") with
 | true=>exact Le.bb (ih.ev _ _ _ _) fun ov=>Le.bl fun q=>Le.it Le.rfl Le.fail
 | false=>exact Le.bb (ih.ev _ _ _ _) fun ov=>Le.bl fun q=>Le.it Le.fail (Le.bb (ih.evs _ _ _ _) fun as=>Le.bnd (Ulv hc _ _ _) fun w0=>Le.rfl)
theorem k_name(hc:∀ a args,Le (call a args) (call' a args))(ih:EvK P call call' n){e:Expr}{args:List Expr}{c:Prop}[Decidable c]{k:V->M Fl}:Le (if c then evalK P call n sc fr e fun fv=>evalEsK P call n sc fr args fun as=>bnd (applyV P call fv as) k else fail)
  (bnd (if c then bnd (evalE P call' n sc fr e) fun fv=>bnd (evalEs P call' n sc fr args) fun as=>applyV P call' fv as else fail) k) :=
 Le.itf fun w0=>Le.bb (ih.ev _ _ _ _) fun fv=>Le.bb (ih.evs _ _ _ _) fun as=>Le.bnd (Un6 hc _ _) fun w0=>Le.rfl
theorem k_slc(ih:EvK P call call' n){o:Expr}{s:Option Expr×Option Expr×Option Expr}{k:V->M Fl}:Le (evalK P call n sc fr o fun ov=>optK P call n sc fr s.1 fun a=>optK P call n sc fr s.2.1 fun b=>ob s.2.2
    (fun st=>evalK P call n sc fr st fun c=>bnd (look (stepV ov a b c)) k) (bnd (look (sliceV ov a b)) k))
  (bnd (bnd (evalE P call' n sc fr o) fun ov=>bnd (optE P call' n sc fr s.1) fun a=>bnd (optE P call' n sc fr s.2.1) fun b=>ob s.2.2
    (fun st=>bnd (evalE P call' n sc fr st) fun c=>look (stepV ov a b c)) (look (sliceV ov a b))) k):=by
 refine Le.bb (ih.ev _ _ _ _) fun ov=>Le.bb (ih.opt _ _ _ _) fun a=>Le.bb (ih.opt _ _ _ _) fun b=>?_;cases s.2.2 with
 | none=>exact Le.rfl
 | some st=>exact Le.bb (ih.ev _ _ _ _) fun c=>Le.rfl
theorem k_ev(hc:∀ a args,Le (call a args) (call' a args))(ih:EvK P call call' n)(e:Expr)(k:V->M Fl):Le (evalK P call (n+1) sc fr e k) (bnd (evalE P call' (n+1) sc fr e) k):=by
 cases e with
 | Constant c q p=>exact Utg
 | Name x p=>exact Le.li fun w0=>Le.rfl
 | BoolOp op es p=>exact ih.bool _ _ _ _ _
 | BinOp l op r p=>exact Le.bb (ih.ev _ _ _ _) fun a=>Le.bb (ih.ev _ _ _ _) fun b=>Le.rfl
 | UnaryOp op e p=>cases op with
  | Not=>exact Le.bb (ih.ev _ _ _ _) fun a=>Le.bb (Le.li fun w0=>Le.rfl) fun b=>Le.re
  | USub=>exact Le.bb (ih.ev _ _ _ _) fun a=>Le.li fun w0=>Le.rfl
  | _=>exact Le.fail
 | IfExp t a b p=>exact Le.bb (ih.test _ _ _ _) fun c=>Le.it (ih.ev _ _ _ _) (ih.ev _ _ _ _)
 | Dict ks vs p=>exact Le.itf fun w0=>Le.bb (ih.pairs _ _ _ _ _) fun w0=>Le.rfl
 | List es p=>exact Le.bb (ih.evs _ _ _ _) fun w0=>Le.rfl
 | Tuple es q p=>exact Le.bb (ih.evs _ _ _ _) fun vs=>Le.itf fun w0=>Le.re
 | ListComp elt gens scope p=>exact Le.bb (Le.li fun w0=>Le.rfl) fun d=>k_comp ih
 | Compare l ops rs p=>exact Le.bb (Le.li fun w0=>Le.rfl) fun s=>k_cmp ih
 | Call f args kws p =>
  show Le (calB (calV f kws) _ _ _) (bnd (calB (calV f kws) _ _ _) k);cases calV f kws with
  | m o x ap=>exact k_meth hc ih
  | n f q=>exact k_name hc ih
  | bad=>exact Le.fail
 | Attribute o x p=>exact Le.itf fun w0=>Le.bb (ih.ev _ _ _ _) fun w0=>Le.rfl
 | Subscript o i p =>
  show Le (ob (slcV i) _ _) (bnd (ob (slcV i) _ _) k);cases slcV i with
  | some s=>exact k_slc ih
  | none=>exact Le.bb (ih.ev _ _ _ _) fun w0=>Le.bb (ih.ev _ _ _ _) fun w0=>Le.rfl
 | _=>exact Le.fail
theorem Utq(ih:EvK P call call' n):∀ (ks:List (Option Expr)) (es:List Expr) (k:List (Str×V)->M Fl),Le (pairsK P call (n+1) sc fr ks es k) (bnd (pairsE P call' (n+1) sc fr ks es) k)
 | [],[],k=>Le.re
 | some q::ks,e::r,k=>Le.bb (ih.ev _ _ _ _) fun v=>match v with
  | .str x=>Le.bb (ih.ev _ _ _ _) fun w0=>Le.bb (ih.pairs _ _ _ _ _) fun w0=>Le.re
  | .none=>Le.fail | .bool _=>Le.fail | .int _=>Le.fail | .tup _=>Le.fail | .lst _=>Le.fail | .rng ..=>Le.fail | .ref ..=>Le.fail | .fn _=>Le.fail | .bi _=>Le.fail
 | [],_::_,k=>Le.fail
 | some _::_,[],k=>Le.fail
 | none::_,[],k=>Le.fail
 | none::_,_::_,k=>Le.fail
theorem k_bool(ih:EvK P call call' n)(op:BoolOp):∀ (es:List Expr) (k:V->M Fl),Le (boolK P call (n+1) sc fr op es k) (bnd (boolE P call' (n+1) sc fr op es) k)
 | [],k=>Le.fail
 | [e],k=>ih.ev _ _ _ _
 | e::e2::r,k=>Le.bb (ih.ev _ _ _ _) fun v=>by
  cases h:isT v with
  | none=>exact Le.fail
  | some b =>
   cases op <;> cases b
   ·exact Le.re
   ·exact ih.bool _ _ _ _ _
   ·exact ih.bool _ _ _ _ _
   ·exact Le.re
theorem k_test(ih:EvK P call call' n)(e:Expr)(k:Bool->M Fl):Le (testK P call (n+1) sc fr e k) (bnd (testE P call' (n+1) sc fr e) k):=by
 show Le (tstB (tstV e) _ _ _ _ _) (bnd (tstB (tstV e) _ _ _ _ _) k);cases tstV e with
 | no e=>exact Le.bb (ih.test _ _ _ _) fun w0=>Le.re
 | bool op es=>exact ih.tests _ _ _ _ _
 | bad=>exact Le.fail
 | cmp l s=>exact k_tcmp ih
 | plain=>exact Le.bb (ih.ev _ _ _ _) fun v=>Le.li fun w0=>Le.rfl
theorem Urx(ih:EvK P call call' n)(op:BoolOp):∀ (es:List Expr) (k:Bool->M Fl),Le (testsK P call (n+1) sc fr op es k) (bnd (testsE P call' (n+1) sc fr op es) k)
 | [],k=>Le.re
 | e::r,k=>Le.bb (ih.test _ _ _ _) fun b=>by
  cases op <;> cases b
  ·exact Le.re
  ·exact ih.tests _ _ _ _ _
  ·exact ih.tests _ _ _ _ _
  ·exact Le.re
theorem evK(hc:∀ a args,Le (call a args) (call' a args)):∀ n,EvK P call call' n
 | 0=>⟨fun w0 w0 w0 w0=>Le.fail,fun w0 w0 w0 w0=>Le.fail,fun w0 w0 w0 w0=>Le.fail,fun w0 w0 w0 w0 w0=>Le.fail,fun w0 w0 w0 w0 w0=>Le.fail,fun w0 w0 w0 w0=>Le.fail,fun w0 w0 w0 w0 w0=>Le.fail⟩
 | n+1=>by
  have ih:=evK hc n;refine ⟨fun sc fr e k=>k_ev hc ih e k,fun sc fr e k=>?_,fun sc fr es k=>?_,fun sc fr ks es k=>Utq ih ks es k,fun sc fr op es k=>k_bool ih op es k,fun sc fr e k=>k_test ih e k,fun sc fr op es k=>Urx ih op es k⟩
  ·cases e with
   | none=>exact Le.re
   | some e=>exact Le.bb (ih.ev _ _ _ _) fun w0=>Le.re
  ·cases es with
   | nil=>exact Le.re
   | cons e r=>exact Le.bb (ih.ev _ _ _ _) fun w0=>Le.bb (ih.evs _ _ _ _) fun w0=>Le.re
end
section
variable {P:Prog}{call call':CC}{sc:Scope}
theorem Umn(hc:∀ a args,Le (call a args) (call' a args)){n:Nat}{fr:Fr}{v:V}{t:Expr}{k:Fr->M Fl}:Le (storeK P call sc n fr v t k) (bnd (assignE P call' sc n fr v t) k):=by
 have ih:=evK (P:=P) hc n;cases t with
 | Name x _=>exact Le.itf fun w0=>Le.re
 | Attribute o x _=>exact Le.bb (ih.ev _ _ _ _) fun ov=>Le.bl fun w0=>Le.re
 | Subscript o i _=>exact Le.bb (ih.ev _ _ _ _) fun ov=>Le.bb (ih.ev _ _ _ _) fun iv=>Le.bl fun w0=>Le.re
 | _=>exact Le.fail
theorem Ui6(hc:∀ a args,Le (call a args) (call' a args)){n:Nat}:∀ {ts:List Expr} {fr:Fr} {vs:List V} {k:Fr->M Fl},Le (storesK P call sc n fr vs ts k) (bnd (assignEs P call' sc n fr vs ts) k)
 | [],fr,[],k=>Le.re
 | [],fr,_::_,k=>Le.fail
 | t::ts,fr,[],k=>Le.fail
 | t::ts,fr,v::vs,k=>by
  show Le (storeK P call sc n fr v t fun fr'=>storesK P call sc n fr' vs ts k) _;exact Le.bb (Umn hc) fun fr'=>Ui6 hc
theorem Uk7{t t':Fr->M Bool}{b b':Fr->M Fl}(h1:∀ fr,Le (t fr) (t' fr))(h2:∀ fr,Le (b fr) (b' fr)):∀ n fr,Le (loopW t b n fr) (loopW t' b' n fr)
 | 0,fr=>by exact Le.fail
 | n+1,fr=>by
  show Le (bnd (t fr) fun c=>if c=true then _ else _) (bnd (t' fr) fun c=>if c=true then _ else _);refine Le.bnd (h1 _) fun c=>Le.ite (Le.bnd (h2 _) fun fl=>?_) Le.rfl;cases fl with
  | next fr'=>exact Uk7 h1 h2 n fr'
  | ret v=>exact Le.rfl
theorem Ulw{o:V}{s:V->Fr->M Fr}{b b':Fr->M Fl}(h2:∀ fr,Le (b fr) (b' fr)):∀ n k fr,Le (loopF o s b n k fr) (loopF o s b' n k fr)
 | 0,k,fr=>by exact Le.fail
 | n+1,k,fr=>by
  refine Le.bnd Le.rfl fun r=>?_;cases r with
  | none=>exact Le.rfl
  | some v =>
   refine Le.bnd Le.rfl fun fr₁=>Le.bnd (h2 _) fun fl=>?_;cases fl with
   | next fr'=>exact Ulw h2 n _ fr'
   | ret v=>exact Le.rfl
theorem Le.seq{X m:M Fl}{f k:Fr->M Fl}(h:Le X (Mine.bnd m (goOn fun fr'=>Mine.bnd (f fr') (goOn k)))):Le X (Mine.bnd (Mine.bnd m (goOn f)) (goOn k)):=by
 rw [Ua3];have:(fun a=>Mine.bnd (goOn f a) (goOn k))=goOn fun fr'=>Mine.bnd (f fr') (goOn k):=by
  funext fl;cases fl <;> rfl
 rw [this];exact h
theorem Uld:(goOn fun fr'=>ret (.next fr'))=(ret:Fl->M Fl):=by
 funext fl;cases fl <;> rfl
theorem x_stmt(hc:∀ a args,Le (call a args) (call' a args)){n:Nat}(ex:∀ fr ss k,Le (execK P call sc n fr ss k) (bnd (execSs P call' sc n fr ss) (goOn k))){fr:Fr}{s:Stmt}{r:List Stmt}{k G:Fr->M Fl}
  (rest:∀ fr',Le (execK P call sc (n+1) fr' r k) (G fr')):Le (execK P call sc (n+2) fr (s::r) k) (bnd (execS P call' sc (n+1) fr s) (goOn G)):=by
 have ih:=evK (P:=P) hc n;have goes:∀ (fl:Fl),Le (goOn (fun fr'=>execK P call sc (n+1) fr' r k) fl) (goOn G fl):=fun fl=>by
  cases fl with
  | next fr'=>exact rest fr'
  | ret v=>exact Le.rfl
 have body:∀ fr ss,Le (execK P call sc n fr ss fun fr'=>ret (.next fr')) (execSs P call' sc n fr ss):=fun fr ss=>by
  have:=ex fr ss (fun fr'=>ret (.next fr'));rw [Uld,Uja] at this;exact this
 cases s with
 | Expr e p=>exact Le.itf fun w0=>Le.bb (ih.ev _ _ _ _) fun w0=>rest fr
 | Pass p=>exact rest fr
 | Return e p=>cases e with
  | none=>exact Le.re
  | some e=>exact Le.bb (ih.ev _ _ _ _) fun w0=>Le.re
 | Assign ts e p =>
  show Le (tgtB (tgtV ts) _ _ _) (bnd (tgtB (tgtV ts) _ _ _) _);cases tgtV ts with
  | tup ts=>exact Le.itf fun w0=>Le.bb (ih.ev _ _ _ _) fun v=>Le.bb (Le.li fun w0=>Le.rfl) fun vs=>Le.bb (Ui6 hc) fun fr'=>rest fr'
  | one t=>exact Le.bb (ih.ev _ _ _ _) fun v=>Le.bb (Umn hc) fun fr'=>rest fr'
  | bad=>exact Le.fail
 | AugAssign t op e p =>
  show Le (ob (augT t) _ _) (bnd (ob (augT t) _ _) _);cases augT t with
  | none=>exact Le.fail
  | some z=>exact Le.bb (ih.ev _ _ _ _) fun ov=>Le.bl fun a=>Le.bb (ih.ev _ _ _ _) fun b=>Le.bl fun v=>Le.bl fun w0=>rest fr
 | If t a b p=>exact Le.bb (ih.test _ _ _ _) fun c=>Le.it ((ex fr a _).trans (Le.bnd Le.rfl goes)) ((ex fr b _).trans (Le.bnd Le.rfl goes))
 | While t a b p=>cases b with
  | nil=>exact Le.bnd (Uk7 (fun fr=>(ih.test _ _ _ _).unB) (fun fr=>body fr a) _ _) goes
  | cons _ _=>exact Le.fail
 | For t it a b p =>
  show Le (ob (forV t b) _ _) (bnd (ob (forV t b) _ _) _);cases forV t b with
  | none=>exact Le.fail
  | some x=>exact Le.itf fun w0=>Le.bb (ih.ev _ _ _ _) fun o=>Le.bnd (Ulw (fun fr=>body fr a) _ _ _) goes
 | _=>exact Le.fail
theorem Uk8(hc:∀ a args,Le (call a args) (call' a args)):∀ n fr ss k,Le (execK P call sc n fr ss k) (bnd (execSs P call' sc n fr ss) (goOn k))
 | 0,fr,ss,k=>Le.fail
 | 1,fr,[],k=>Le.re
 | n+2,fr,[],k=>Le.re
 | 1,fr,s::r,k=>Le.fail
 | n+2,fr,s::r,k=>Le.seq (x_stmt hc (Uk8 hc n) fun fr'=>Uk8 hc (n+1) fr' r k)
theorem Uln:∀ d a args,Le (callK P d a args) (callD P d a args)
 | 0,a,args=>Le.fail
 | d+1,a,args=>by
  rw [callK,callD];cases lkN a P.fns with
  | none=>exact Le.fail
  | some f =>
   dsimp only;delta bodyK;cases bindP f.params args f.dflts with
   | none=>exact Le.fail
   | some fr =>
    have h:=Uk8 (P:=P) (sc:=f.scope) (Uln d) 60 fr f.body (fun fr=>ret (.next fr));rw [Uld,Uja] at h;refine Le.bnd h fun fl=>?_;cases fl <;> exact Le.rfl
end
end Mine
end
section
open PySem PySem.W
namespace Mine
noncomputable def newL(r:Nat)(vs:List V):M V:=fun O=>match O[r]? with
 | some l=>some (.ref r l.length,O.add r (.list vs))
 | none=>none
noncomputable def newD(r:Nat)(es:List (Str×V)):M V:=fun O=>match O[r]? with
 | some l=>some (.ref r l.length,O.add r (.dict es))
 | none=>none
noncomputable def stAt(ss:List Stmt)(i:Nat):Stmt:=match ss.drop i with
 | s::_=>s
 | []=>.Pass ⟨0,0,0,0⟩
noncomputable def inner:Stmt->List Stmt
 | .If _ a _ _=>a
 | .While _ a _ _=>a
 | .For _ _ a _ _=>a
 | _=>[]
noncomputable def others:Stmt->List Stmt
 | .If _ _ b _=>b
 | _=>[]
noncomputable def testE':Stmt->Expr
 | .While t _ _ _=>t
 | _=>.Constant .none 0 ⟨0,0,0,0⟩
noncomputable def setL(sc:Scope)(x:Str)(v:V)(fr:Fr):M Fr:=setVar sc x v fr
noncomputable def turnL(P:Prog)(c:CC)(sc:Scope)(n:Nat)(s:Stmt)(fr:Fr):M Fl:=execK P c sc n fr (inner s) fun fr'=>ret (.next fr')
noncomputable def testL(P:Prog)(c:CC)(sc:Scope)(n:Nat)(s:Stmt)(fr:Fr):M Bool:=bnd (testK P c n sc fr (testE' s) fun b=>ret (.ret (.bool b))) unB
end Mine
end
section
open PySem PySem.Calls PyProof.Rows PySem.W
namespace Mine
theorem Us1{tb:String->Option Builtin}{p:Program}{w:World}{n:Nat}{ann:Option Value}(s:Shared)(c:Code)(pos q:Pos):topRun tb p w n ann 2 s ⟨doneF .next,c,pos,[topFrame q]⟩=some s:=by
 cases s;rfl
noncomputable def bootS(w:World)(os:OsState):Shared:=⟨boot_heap w.params,#[],boot_drawn,boot_toks,os⟩
noncomputable def lookOk(p:Program)(h:Heap)(s:Shared):Bool:=staticsOk (importedModules p.main.body) h s.heap&&namesBound p s.heap&&gensDone s&&laidKept h s.heap
noncomputable abbrev SegT:=(String->Option Builtin)->Program->World->Nat->Option Value->Nat->Nat->SharedT->Thread->Option (Flow×SharedT×Code×Pos)
section
variable {p q:Program}{loose:List Str}{Xt:Shared->Bool}{α:Type}{Yf:Shared->α}{Ya:World->α}{N m n:Nat}{ann:Option Value}{env:Env}{c:Code}{pos pos' q0:Pos}{Sa:World->OsState->Shared}{Sb:World->OsState->SharedT}
theorem sh_eq{s:Shared}{a:Heap}{b:Array GenState}{c:Drawn}{d:Nat}(h:(s.heap,s.gens,s.drawn,s.toks)=(a,b,c,d)):s=⟨a,b,c,d,s.os⟩:=by cases s;cases h;rfl
theorem Uql{w:World}{os:OsState}{r:SharedT}{p1:Pos}(pre:topGo treeTable p w m ann 12 (bootS w os) (topStub p)=some (Sa w os,⟨denote treeTable (.body (behindTheImports p) env),c,pos,[topFrame q0]⟩))
  (blk:segRun treeTable p w m ann 1 1 (Sa w os) (blockOf (behindTheImports p) env c pos [topFrame q0])=some (.next,(Sb w os).abs,c,pos'))
  (er:segRunT treeTable p w m ann 1 n (Sb w os) (piecesOf (behindTheImports p) env c pos' [topFrame q0])=some (.next,r,c,p1)) (le:Nat.ble (12+(1+(n+2))) N=true):topRun treeTable p w m ann N (bootS w os) (topStub p)=some r.abs:=by
 have a1:topRun treeTable p w m ann (n+2) (Sb w os).abs (restOf (behindTheImports p++[]) env c pos' [topFrame q0])=some r.abs:=piece_app (segRun_of er) (Us1 r.abs c p1 q0);rw [List.append_nil] at a1;exact Nat.add_sub_cancel' (Nat.le_of_ble_eq_true le)▸topRun_mono (N - (12+(1+(n+2)))) _ _ _ _ (go_top pre (piece_block blk a1))
theorem Us9{w:World}{s r:Shared}(z1:s.heap.isNs mainGlobals=true)(zg:(s.gens.size==0)=true)(h:topRun treeTable p w s.heap.objs.size (s.heap.nsMap mainGlobals "__annotations__") N s (topStub p)=some r)(l:lookOk p s.heap r=true):topFrom treeTable p w N s=some r:=by
 delta topFrom;rw [z1,zg,h];show (match lookOk p s.heap r with | true=>some r | false=>none)=_;rw [l]
theorem Uts(o:∀ w:World,(fencedOpening treeTable p w N).map (fun s=>(s.heap,s.gens,s.drawn,s.toks))=some (boot_heap w.params,#[],boot_drawn,boot_toks))
  (sz:∀ w:World,((boot_heap w.params).isNs mainGlobals,(boot_heap w.params).objs.size,(boot_heap w.params).nsMap mainGlobals "__annotations__")=(true,m,ann))
  (pre:∀ w os,topGo treeTable p w m ann 12 (bootS w os) (topStub p)=some (Sa w os,⟨denote treeTable (.body (behindTheImports p) env),c,pos,[topFrame q0]⟩))
  (blk:∀ w os,segRun treeTable p w m ann 1 1 (Sa w os) (blockOf (behindTheImports p) env c pos [topFrame q0])=some (.next,(Sb w os).abs,c,pos'))
  (run:∀ w os,(segRunT treeTable p w m ann 1 n (Sb w os) (piecesOf (behindTheImports p) env c pos' [topFrame q0])).map (fun r=>(r.1,r.2.2.1,lookOk p (boot_heap w.params) r.2.1.abs,openSeen q loose (importedModules p.main.body) Xt true r.2.1.abs,Yf r.2.1.abs)) =
   some (.next,c,true,openGood q loose,Ya w)) (le:Nat.ble (12+(1+(n+2))) N=true):LeftO p q loose Xt Yf Ya N:=fun w =>
 xEAA (Option.map_eq_some_iff.mp (o w)) fun s0 e eo=>xEAA (Option.map_eq_some_iff.mp (run w s0.os)) fun r er r1=>by
  have z:=sz w;have t:=Uql (pre w s0.os) (blk w s0.os) (er.trans (congrArg some (Prod.ext (congrArg (·.1) r1) (Prod.ext rfl (Prod.ext (congrArg (·.2.1) r1) rfl))))) le;have z2:(boot_heap w.params).objs.size=m:=congrArg (fun x=>x.2.1) z;have z3:(boot_heap w.params).nsMap mainGlobals "__annotations__"=ann:=congrArg (fun x=>x.2.2) z;have t:=Us9 (s:=bootS w s0.os) (congrArg (fun x=>x.1) z) rfl (by rw [show (bootS w s0.os).heap=boot_heap w.params from rfl,z2,z3];exact t) (congrArg (fun x=>x.2.2.1) r1);delta openEnds;rw [e,sh_eq eo];exact (congrArg (Option.map _) t).trans (congrArg some (congrArg (fun x=>x.2.2.2) r1))
noncomputable def RunS{β:Type}(gd:β)(sr:SegT)(tt:String->Option Builtin)(osn:Program->List Str->List Str->(Shared->Bool)->Bool->Shared->β)(p q:Program)(loose:List Str)(Xt:Shared->Bool)(Yf:Shared->α)(Ya:World->α)(m n:Nat)(ann:Option Value)(env:Env)(c:Code)(pos q0:Pos)(Sb:World->OsState->SharedT):Prop :=
 ∀ w,(fun os=>(sr tt p w m ann 1 n (Sb w os) (piecesOf (behindTheImports p) env c pos [topFrame q0])).map (fun r=>(r.1,r.2.2.1,lookOk p (boot_heap w.params) r.2.1.abs,osn q loose (importedModules p.main.body) Xt true r.2.1.abs,Yf r.2.1.abs))) =
   fun w0=>some (Flow.next,c,true,gd,Ya w)
theorem run_of(h:RunS (openGood q loose) PySem.W.Fast.tw10110043849684766642 PySem.W.Fast.tw14364793385576792824 PySem.W.Fast.tw4187177175401517315 p q loose Xt Yf Ya m n ann env c pos q0 Sb):∀ w os,(segRunT treeTable p w m ann 1 n (Sb w os) (piecesOf (behindTheImports p) env c pos [topFrame q0])).map (fun r=>(r.1,r.2.2.1,lookOk p (boot_heap w.params) r.2.1.abs,openSeen q loose (importedModules p.main.body) Xt true r.2.1.abs,Yf r.2.1.abs)) =
   some (.next,c,true,openGood q loose,Ya w):=by
 rw [<- PySem.W.Fast.te10110043849684766642,<- PySem.W.Fast.te14364793385576792824,<- PySem.W.Fast.te4187177175401517315] at h;exact fun w os=>congrFun (h w) os
end
noncomputable section
noncomputable abbrev prg:Program:=PySem.Challenge.rw_nt0611_01.row.toRowW.1
noncomputable def tp(k:Nat):Stmt:=(prg.main.body[k]?).getD (.Pass default)
noncomputable def mt(k j:Nat):Stmt:=match tp k with
 | .ClassDef _ _ _ b _ _ _ _ _ _ _=>(b[j]?).getD (.Pass default)
 | s=>s
noncomputable def vw:Program:=view prg [0,2,3,4,5,6,7,8,10,12,13,14,15,16,18,19,20,21,22,23,24,25,26,27,28,29,30,31,33,34,36,37,39,41,42,43,44,45,46,47,48,49,50,51]
noncomputable def fo(n q:String)(s:Stmt)(d:Value)(mo:String)(t c:Nat):Obj:=match s with
 | .FunctionDef _ a b _ _ _ sc _ _ _=>⟨.type "function",none,.func ⟨Y n,Y q,a,.stmts b,sc,3,[],d,.none,.none,.str (Y mo) t,none,.ref c,.none,0⟩,#[]⟩
 | _=>default
noncomputable def co(n q:String)(t a b c d e:Nat)(l:List Value)(u:Nat):Obj:=⟨.type "code",none,.fields (([.str (Y n) t,.str (Y q) (t+1),.str Qcm (t+2),.int a 0,.int b 0,.int c 0,.int d 0,.int e 0]:List Value)++l++[Value.str Qcm u]).toArray,#[]⟩
noncomputable def ck(n q:String)(t a b r u:Nat):Obj:=co n q t a b 0 0 3 [.ref r,.bool true,.int 181 0,.ref (r+1),.none,.ref (r+2),.ref (r+3),.ref (r+4),.int u 0,.int a 0] (u+1)
noncomputable def dc(P:Params)(c:Value)(n:Nat)(l:List (String×Nat×Value)):Obj:=⟨c,none,.dict (l.map fun e=>⟨PyData.keyHash P (Y e.1),.str (Y e.1) e.2.1,e.2.2⟩).toArray n,#[]⟩
noncomputable def K(P:Params):Frag:=[
(3,dc P (.type "dict") 53 [("__name__",165,.str (Y "law_nt0611_01") 788),("__doc__",166,.none),("__package__",167,.none),("__loader__",168,.builtin "__main__.__loader__#opaque"),("__spec__",169,.none),("__annotations__",170,.ref 6),("__builtins__",171,.ref 4),("__file__",173,.str Qcm 172),("__cached__",174,.none),("_wall",193,.ref 21),("is_blank",202,.ref 28),("is_upper",209,.ref 35),("is_letter",216,.ref 42),("lower",223,.ref 49),("is_surrogate",230,.ref 56),("is_noncharacter",237,.ref 63),("is_control",244,.ref 70),("Draft",326,.ref 122),("tag_open_state",336,.ref 133),("end_tag_open_state",344,.ref 140),("tag_name_state",352,.ref 147),("self_closing_state",360,.ref 154),("tag_states",366,.ref 161),("finish_tag",375,.ref 168),("cut_tag",382,.ref 175),("leave_name",389,.ref 182),("begin_reference",396,.ref 189),("before_attr_name_state",404,.ref 196),("attr_name_state",412,.ref 203),("after_attr_name_state",420,.ref 210),("before_attr_value_state",428,.ref 217),("quoted_value",437,.ref 224),("double_quoted_state",444,.ref 231),("single_quoted_state",451,.ref 238),("unquoted_state",459,.ref 245),("after_quoted_state",467,.ref 252),("attr_states",473,.ref 259),("HtmlFault",504,.ref 276),("Misused",520,.ref 289),("input_error",529,.ref 298),("Stream",584,.ref 336),("Tokenizer",787,.ref 499),("_law_number",797,.ref 510),("_law_drawn",808,.ref 517),("_law_cased",821,.ref 524),("_law_put",834,.ref 531),("_law_gap",844,.ref 538),("_law_lay",854,.ref 545),("_law_name",864,.ref 552),("_law_value",878,.ref 559),("_law_attr",884,.ref 564),("_law_tag",890,.ref 569),("law",903,.ref 576)]),
(20,ck "_wall" "_wall" 187 1 1 15 191),
(21,fo "_wall" "_wall" (tp 0) (.none) "__main__" 164 20),
(27,ck "is_blank" "is_blank" 196 5 1 22 200),
(28,fo "is_blank" "is_blank" (tp 2) (.none) "htmltree.signs" 194 27),
(34,ck "is_upper" "is_upper" 203 7 1 29 207),
(35,fo "is_upper" "is_upper" (tp 3) (.none) "htmltree.signs" 194 34),
(41,ck "is_letter" "is_letter" 210 9 1 36 214),
(42,fo "is_letter" "is_letter" (tp 4) (.none) "htmltree.signs" 194 41),
(48,ck "lower" "lower" 217 11 1 43 221),
(49,fo "lower" "lower" (tp 5) (.none) "htmltree.signs" 194 48),
(55,ck "is_surrogate" "is_surrogate" 224 15 1 50 228),
(56,fo "is_surrogate" "is_surrogate" (tp 6) (.none) "htmltree.signs" 194 55),
(62,ck "is_noncharacter" "is_noncharacter" 231 17 1 57 235),
(63,fo "is_noncharacter" "is_noncharacter" (tp 7) (.none) "htmltree.signs" 194 62),
(69,ck "is_control" "is_control" 238 19 1 64 242),
(70,fo "is_control" "is_control" (tp 8) (.none) "htmltree.signs" 194 69),
(83,ck "__init__" "Draft.__init__" 259 24 3 78 265),
(84,fo "__init__" "Draft.__init__" (mt 10 0) (.none) "htmltree.tokens" 245 83),
(90,ck "begin_attr" "Draft.begin_attr" 268 34 1 85 272),
(91,fo "begin_attr" "Draft.begin_attr" (mt 10 1) (.none) "htmltree.tokens" 245 90),
(97,ck "add_name" "Draft.add_name" 275 37 2 92 281),
(98,fo "add_name" "Draft.add_name" (mt 10 2) (.none) "htmltree.tokens" 245 97),
(104,ck "add_value" "Draft.add_value" 284 41 2 99 290),
(105,fo "add_value" "Draft.add_value" (mt 10 3) (.none) "htmltree.tokens" 245 104),
(111,ck "check_attr" "Draft.check_attr" 293 45 1 106 299),
(112,fo "check_attr" "Draft.check_attr" (mt 10 4) (.none) "htmltree.tokens" 245 111),
(118,ck "token" "Draft.token" 302 53 1 113 308),
(119,fo "token" "Draft.token" (mt 10 5) (.none) "htmltree.tokens" 245 118),
(121,dc P (.type "dict") 4 [("__module__",254,.str (Y "htmltree.tokens") 245),("__firstlineno__",258,.int 22 257),("__init__",267,.ref 84),("begin_attr",274,.ref 91),("add_name",283,.ref 98),("add_value",292,.ref 105),("check_attr",301,.ref 112),("token",310,.ref 119),("__static_attributes__",319,.ref 120),("__dict__",321,.ref 123),("__weakref__",323,.ref 124),("__doc__",324,.none)]),
(122,{ cls:=.type "type",data:=.cls { name:=Y "Draft",bases:=[.type "object"],mro:=[.ref 122,.type "object"],ns:=121,qualname:=Y "Draft" },slots:=#[none,none,some (.str (Y "Draft") 247),some (.str (Y "Draft") 255),some (.builtin "object.__new__"),some (.bool true)] }),
(132,ck "tag_open_state" "tag_open_state" 329 64 1 127 334),
(133,fo "tag_open_state" "tag_open_state" (tp 12) (.none) "htmltree.tagstates" 327 132),
(139,ck "end_tag_open_state" "end_tag_open_state" 337 85 1 134 342),
(140,fo "end_tag_open_state" "end_tag_open_state" (tp 13) (.none) "htmltree.tagstates" 327 139),
(146,ck "tag_name_state" "tag_name_state" 345 101 1 141 350),
(147,fo "tag_name_state" "tag_name_state" (tp 14) (.none) "htmltree.tagstates" 327 146),
(153,ck "self_closing_state" "self_closing_state" 353 118 1 148 358),
(154,fo "self_closing_state" "self_closing_state" (tp 15) (.none) "htmltree.tagstates" 327 153),
(160,ck "tag_states" "tag_states" 361 130 0 155 364),
(161,fo "tag_states" "tag_states" (tp 16) (.none) "htmltree.tagstates" 327 160),
(167,ck "finish_tag" "finish_tag" 369 133 1 162 373),
(168,fo "finish_tag" "finish_tag" (tp 18) (.none) "htmltree.attrstates" 367 167),
(174,ck "cut_tag" "cut_tag" 376 136 1 169 380),
(175,fo "cut_tag" "cut_tag" (tp 19) (.none) "htmltree.attrstates" 367 174),
(181,ck "leave_name" "leave_name" 383 139 1 176 387),
(182,fo "leave_name" "leave_name" (tp 20) (.none) "htmltree.attrstates" 367 181),
(188,ck "begin_reference" "begin_reference" 390 142 1 183 394),
(189,fo "begin_reference" "begin_reference" (tp 21) (.none) "htmltree.attrstates" 367 188),
(195,ck "before_attr_name_state" "before_attr_name_state" 397 145 1 190 402),
(196,fo "before_attr_name_state" "before_attr_name_state" (tp 22) (.none) "htmltree.attrstates" 367 195),
(202,ck "attr_name_state" "attr_name_state" 405 159 1 197 410),
(203,fo "attr_name_state" "attr_name_state" (tp 23) (.none) "htmltree.attrstates" 367 202),
(209,ck "after_attr_name_state" "after_attr_name_state" 413 174 1 204 418),
(210,fo "after_attr_name_state" "after_attr_name_state" (tp 24) (.none) "htmltree.attrstates" 367 209),
(216,ck "before_attr_value_state" "before_attr_value_state" 421 189 1 211 426),
(217,fo "before_attr_value_state" "before_attr_value_state" (tp 25) (.none) "htmltree.attrstates" 367 216),
(223,ck "quoted_value" "quoted_value" 429 202 2 218 435),
(224,fo "quoted_value" "quoted_value" (tp 26) (.none) "htmltree.attrstates" 367 223),
(230,ck "double_quoted_state" "double_quoted_state" 438 215 1 225 442),
(231,fo "double_quoted_state" "double_quoted_state" (tp 27) (.none) "htmltree.attrstates" 367 230),
(237,ck "single_quoted_state" "single_quoted_state" 445 217 1 232 449),
(238,fo "single_quoted_state" "single_quoted_state" (tp 28) (.none) "htmltree.attrstates" 367 237),
(244,ck "unquoted_state" "unquoted_state" 452 219 1 239 457),
(245,fo "unquoted_state" "unquoted_state" (tp 29) (.none) "htmltree.attrstates" 367 244),
(251,ck "after_quoted_state" "after_quoted_state" 460 236 1 246 465),
(252,fo "after_quoted_state" "after_quoted_state" (tp 30) (.none) "htmltree.attrstates" 367 251),
(258,ck "attr_states" "attr_states" 468 249 0 253 471),
(259,fo "attr_states" "attr_states" (tp 31) (.none) "htmltree.attrstates" 367 258),
(272,ck "__init__" "HtmlFault.__init__" 488 254 2 267 493),
(273,fo "__init__" "HtmlFault.__init__" (mt 33 0) (.none) "htmltree.faults" 474 272),
(275,dc P (.type "dict") 3 [("__module__",483,.str (Y "htmltree.faults") 474),("__firstlineno__",487,.int 252 486),("__init__",495,.ref 273),("__static_attributes__",497,.ref 274),("__weakref__",499,.ref 277),("__doc__",500,.none)]),
(276,{ cls:=.type "type",data:=.cls { name:=Y "HtmlFault",bases:=[.type "Exception"],mro:=[.ref 276,.type "Exception",.type "BaseException",.type "object"],ns:=275,qualname:=Y "HtmlFault",subclasses:=[.ref 289] },slots:=#[some (.ref 260),none,some (.str (Y "HtmlFault") 476),some (.str (Y "HtmlFault") 484),some (.builtin "Exception.__new__"),some (.bool true)] }),
(288,dc P (.type "dict") 2 [("__module__",512,.str (Y "htmltree.faults") 474),("__firstlineno__",516,.int 257 515),("__static_attributes__",517,.ref 287),("__doc__",518,.none)]),
(289,{ cls:=.type "type",data:=.cls { name:=Y "Misused",bases:=[.ref 276],mro:=[.ref 289,.ref 276,.type "Exception",.type "BaseException",.type "object"],ns:=288,qualname:=Y "Misused" },slots:=#[some (.ref 280),none,some (.str (Y "Misused") 505),some (.str (Y "Misused") 513),some (.builtin "Exception.__new__"),some (.bool true)] }),
(297,ck "input_error" "input_error" 523 260 1 292 527),
(298,fo "input_error" "input_error" (tp 36) (.none) "htmltree.stream" 521 297),
(311,ck "__init__" "Stream.__init__" 542 270 1 306 546),
(312,fo "__init__" "Stream.__init__" (mt 37 0) (.none) "htmltree.stream" 521 311),
(318,ck "feed" "Stream.feed" 549 276 2 313 556),
(319,fo "feed" "Stream.feed" (mt 37 1) (.none) "htmltree.stream" 521 318),
(325,ck "end" "Stream.end" 559 289 1 320 563),
(326,fo "end" "Stream.end" (mt 37 2) (.none) "htmltree.stream" 521 325),
(332,ck "many" "Stream.many" 566 292 1 327 570),
(333,fo "many" "Stream.many" (mt 37 3) (.none) "htmltree.stream" 521 332),
(335,dc P (.type "dict") 4 [("__module__",537,.str (Y "htmltree.stream") 521),("__firstlineno__",541,.int 268 540),("__init__",548,.ref 312),("feed",558,.ref 319),("end",565,.ref 326),("many",572,.ref 333),("__static_attributes__",577,.ref 334),("__dict__",579,.ref 337),("__weakref__",581,.ref 338),("__doc__",582,.none)]),
(336,{ cls:=.type "type",data:=.cls { name:=Y "Stream",bases:=[.type "object"],mro:=[.ref 336,.type "object"],ns:=335,qualname:=Y "Stream" },slots:=#[none,none,some (.str (Y "Stream") 530),some (.str (Y "Stream") 538),some (.builtin "object.__new__"),some (.bool true)] }),
(348,{ cls:=.type "tuple",data:=.seq #[.str Qbi 599,.str Qt 600] }),
(354,ck "__init__" "Tokenizer.__init__" 601 297 4 349 608),
(355,fo "__init__" "Tokenizer.__init__" (mt 39 0) (.ref 348) "htmltree.tokenizer" 585 354),
(361,ck "feed" "Tokenizer.feed" 611 313 2 356 616),
(362,fo "feed" "Tokenizer.feed" (mt 39 1) (.none) "htmltree.tokenizer" 585 361),
(368,ck "end" "Tokenizer.end" 619 317 1 363 623),
(369,fo "end" "Tokenizer.end" (mt 39 2) (.none) "htmltree.tokenizer" 585 368),
(375,ck "next" "Tokenizer.next" 626 321 1 370 631),
(376,fo "next" "Tokenizer.next" (mt 39 3) (.none) "htmltree.tokenizer" 585 375),
(382,ck "to" "Tokenizer.to" 634 328 2 377 639),
(383,fo "to" "Tokenizer.to" (mt 39 4) (.none) "htmltree.tokenizer" 585 382),
(389,ck "again" "Tokenizer.again" 642 331 2 384 647),
(390,fo "again" "Tokenizer.again" (mt 39 5) (.none) "htmltree.tokenizer" 585 389),
(396,ck "error" "Tokenizer.error" 650 335 2 391 655),
(397,fo "error" "Tokenizer.error" (mt 39 6) (.none) "htmltree.tokenizer" 585 396),
(403,ck "emit" "Tokenizer.emit" 658 338 2 398 663),
(404,fo "emit" "Tokenizer.emit" (mt 39 7) (.none) "htmltree.tokenizer" 585 403),
(410,ck "emit_sign" "Tokenizer.emit_sign" 666 343 2 405 671),
(411,fo "emit_sign" "Tokenizer.emit_sign" (mt 39 8) (.none) "htmltree.tokenizer" 585 410),
(417,ck "emit_text" "Tokenizer.emit_text" 674 346 2 412 680),
(418,fo "emit_text" "Tokenizer.emit_text" (mt 39 9) (.none) "htmltree.tokenizer" 585 417),
(424,ck "emit_draft" "Tokenizer.emit_draft" 683 350 1 419 688),
(425,fo "emit_draft" "Tokenizer.emit_draft" (mt 39 10) (.none) "htmltree.tokenizer" 585 424),
(431,ck "emit_eof" "Tokenizer.emit_eof" 691 360 1 426 695),
(432,fo "emit_eof" "Tokenizer.emit_eof" (mt 39 11) (.none) "htmltree.tokenizer" 585 431),
(438,ck "is_apt" "Tokenizer.is_apt" 698 364 1 433 702),
(439,fo "is_apt" "Tokenizer.is_apt" (mt 39 12) (.none) "htmltree.tokenizer" 585 438),
(440,{ cls:=.type "tuple",data:=.seq #[.bool false] }),
(446,ck "looks" "Tokenizer.looks" 705 367 3 441 711),
(447,fo "looks" "Tokenizer.looks" (mt 39 13) (.ref 440) "htmltree.tokenizer" 585 446),
(453,ck "take" "Tokenizer.take" 714 370 2 448 719),
(454,fo "take" "Tokenizer.take" (mt 39 14) (.none) "htmltree.tokenizer" 585 453),
(460,ck "wait" "Tokenizer.wait" 722 373 1 455 726),
(461,fo "wait" "Tokenizer.wait" (mt 39 15) (.none) "htmltree.tokenizer" 585 460),
(467,ck "in_value" "Tokenizer.in_value" 729 376 1 462 733),
(468,fo "in_value" "Tokenizer.in_value" (mt 39 16) (.none) "htmltree.tokenizer" 585 467),
(474,ck "flush" "Tokenizer.flush" 736 379 1 469 740),
(475,fo "flush" "Tokenizer.flush" (mt 39 17) (.none) "htmltree.tokenizer" 585 474),
(481,ck "step" "Tokenizer.step" 743 386 1 476 749),
(482,fo "step" "Tokenizer.step" (mt 39 18) (.none) "htmltree.tokenizer" 585 481),
(488,ck "is_ready" "Tokenizer.is_ready" 752 396 1 483 756),
(489,fo "is_ready" "Tokenizer.is_ready" (mt 39 19) (.none) "htmltree.tokenizer" 585 488),
(495,ck "run" "Tokenizer.run" 759 401 1 490 763),
(496,fo "run" "Tokenizer.run" (mt 39 20) (.none) "htmltree.tokenizer" 585 495),
(498,dc P (.type "dict") 4 [("__module__",594,.str (Y "htmltree.tokenizer") 585),("__firstlineno__",598,.int 295 597),("__init__",610,.ref 355),("feed",618,.ref 362),("end",625,.ref 369),("next",633,.ref 376),("to",641,.ref 383),("again",649,.ref 390),("error",657,.ref 397),("emit",665,.ref 404),("emit_sign",673,.ref 411),("emit_text",682,.ref 418),("emit_draft",690,.ref 425),("emit_eof",697,.ref 432),("is_apt",704,.ref 439),("looks",713,.ref 447),("take",721,.ref 454),("wait",728,.ref 461),("in_value",735,.ref 468),("flush",742,.ref 475),("step",751,.ref 482),("is_ready",758,.ref 489),("run",765,.ref 496),("__static_attributes__",780,.ref 497),("__dict__",782,.ref 500),("__weakref__",784,.ref 501),("__doc__",785,.none)]),
(499,{ cls:=.type "type",data:=.cls { name:=Y "Tokenizer",bases:=[.type "object"],mro:=[.ref 499,.type "object"],ns:=498,qualname:=Y "Tokenizer" },slots:=#[none,none,some (.str (Y "Tokenizer") 587),some (.str (Y "Tokenizer") 595),some (.builtin "object.__new__"),some (.bool true)] }),
(509,ck "_law_number" "_law_number" 790 406 2 504 795),
(510,fo "_law_number" "_law_number" (tp 41) (.none) "law_nt0611_01" 788 509),
(516,ck "_law_drawn" "_law_drawn" 798 408 3 511 806),
(517,fo "_law_drawn" "_law_drawn" (tp 42) (.none) "law_nt0611_01" 788 516),
(523,ck "_law_cased" "_law_cased" 809 414 2 518 819),
(524,fo "_law_cased" "_law_cased" (tp 43) (.none) "law_nt0611_01" 788 523),
(530,ck "_law_put" "_law_put" 822 423 5 525 832),
(531,fo "_law_put" "_law_put" (tp 44) (.none) "law_nt0611_01" 788 530),
(537,ck "_law_gap" "_law_gap" 835 433 3 532 842),
(538,fo "_law_gap" "_law_gap" (tp 45) (.none) "law_nt0611_01" 788 537),
(544,ck "_law_lay" "_law_lay" 845 438 3 539 852),
(545,fo "_law_lay" "_law_lay" (tp 46) (.none) "law_nt0611_01" 788 544),
(551,ck "_law_name" "_law_name" 855 443 2 546 862),
(552,fo "_law_name" "_law_name" (tp 47) (.none) "law_nt0611_01" 788 551),
(558,ck "_law_value" "_law_value" 865 449 4 553 876),
(559,fo "_law_value" "_law_value" (tp 48) (.none) "law_nt0611_01" 788 558),
(563,co "_law_attr" "_law_attr" 879 461 5 0 0 3 [.ref 560,.bool true,.int 181 0,.ref 561,.none,.none,.none,.ref 562,.int 882 0,.int 461 0] 883),
(564,fo "_law_attr" "_law_attr" (tp 49) (.none) "law_nt0611_01" 788 563),
(568,co "_law_tag" "_law_tag" 885 484 3 0 0 3 [.ref 565,.bool true,.int 181 0,.ref 566,.none,.none,.none,.ref 567,.int 888 0,.int 484 0] 889),
(569,fo "_law_tag" "_law_tag" (tp 50) (.none) "law_nt0611_01" 788 568),
(575,ck "law" "law" 891 510 1 570 901),
(576,fo "law" "law" (tp 51) (.none) "law_nt0611_01" 788 575)]
noncomputable def kas:List Addr:=[3,20,21,27,28,34,35,41,42,48,49,55,56,62,63,69,70,83,84,90,91,97,98,104,105,111,112,118,119,121,122,132,133,139,140,146,147,153,154,160,161,167,168,174,175,181,182,188,189,195,196,202,203,209,210,216,217,223,224,230,231,237,238,244,245,251,252,258,259,272,273,275,276,288,289,297,298,311,312,318,319,325,326,332,333,335,336,348,354,355,361,362,368,369,375,376,382,383,389,390,396,397,403,404,410,411,417,418,424,425,431,432,438,439,440,446,447,453,454,460,461,467,468,474,475,481,482,488,489,495,496,498,499,509,510,516,517,523,524,530,531,537,538,544,545,551,552,558,559,563,564,568,569,575,576]
noncomputable def o15(P:Params):List Obj:=[boot_o_0 P,boot_o_1 P,boot_o_2 P,boot_o_3 P,boot_o_4 P,boot_o_5 P,boot_o_6 P,boot_o_7 P,boot_o_8 P,boot_o_9 P,boot_o_10 P,⟨.type "tuple",none,.seq #[],#[]⟩,⟨.none,none,.fields #[],#[]⟩,
 ⟨.type "code",none,.fields #[.str (Y "<module>") 182,.str (Y "<module>") 183,.str Qcm 184,.int 1 0,.int 0 0,.int 0 0,.int 0 0,.int 0 0,.ref 11,.bool false,.int 181 0,.ref 12,.none,.none,.none,.none,.int 185 0,.int 1 0,.str Qcm 186],#[]⟩,
 ⟨.type "frame",none,.plain,#[some (.ref 13),some (.ref 3),some (.ref 3),none,some (.str (Y "__main__") 164),none,some (.ref 0)]⟩]
noncomputable def ev0:Env:={ scope:=prg.main.scope,locals:=mainNs,globals:=mainNs,cells:=[],code:=.ref 13,frame:=some 14 }
noncomputable def p0:Pos:={ line:=0,col:=0,endLine:=0,endCol:=0 }
noncomputable def sa(w:World)(os:OsState):Shared:=⟨⟨⟨o15 w.params⟩,{}⟩,#[],{},187,os⟩
noncomputable def sb(w:World)(os:OsState):SharedT:=⟨((o15 w.params).zipIdx).foldl (fun t x=>t.ins x.2 x.1) .nil,15,{},#[],{},187,os⟩
noncomputable def hk:Hook:=kHook K kas (fun w0=>by kernel_rfl)
noncomputable def xt(s:Shared):Bool:=xlAt vw [] s&&recOk (RowW.records PySem.Challenge.rw_nt0611_01.row.toRowW) s
theorem h_open:∀ w:World,(fencedOpening treeTable prg w 10100).map (fun s=>(s.heap,s.gens,s.drawn,s.toks))=some (boot_heap w.params,#[],boot_drawn,boot_toks):=boot_open (by kernel_rfl) (by decide) (fun w0=>by kernel_rfl)
theorem h_size:∀ w:World,((boot_heap w.params).isNs mainGlobals,(boot_heap w.params).objs.size,(boot_heap w.params).nsMap mainGlobals "__annotations__")=(true,11,some (.ref 6)):=fun w0=>by kernel_rfl
theorem h_pre:∀ w os,topGo treeTable prg w 11 (some (.ref 6)) 12 (bootS w os) (topStub prg)=some (sa w os,⟨denote treeTable (.body (behindTheImports prg) ev0),.body (behindTheImports prg) ev0,p0,[topFrame p0]⟩):=fun w0 w0=>by kernel_rfl
theorem h_blk:∀ w os,segRun treeTable prg w 11 (some (.ref 6)) 1 1 (sa w os) (blockOf (behindTheImports prg) ev0 (.body (behindTheImports prg) ev0) p0 [topFrame p0])=some (.next,(sb w os).abs,.body (behindTheImports prg) ev0,p0):=fun w0 w0=>by kernel_rfl
theorem h_run:RunS (openGood vw []) PySem.W.Fast.tw10110043849684766642 PySem.W.Fast.tw14364793385576792824 PySem.W.Fast.tw4187177175401517315 prg vw [] xt hk.obs hk.val 11 5000 (some (.ref 6)) ev0 (.body (behindTheImports prg) ev0) p0 p0 sb:=fun w0=>by kernel_rfl
theorem left:LeftO prg vw [] xt hk.obs hk.val 10100:=Uts h_open h_size h_pre h_blk (run_of h_run) (by decide)
end
noncomputable def fnAddrs:List Addr:=[28,35,42,49,56,63,70,84,91,98,105,112,119,133,140,147,154,161,168,175,182,189,196,203,210,217,224,231,238,245,252,259,298,312,319,326,362,369,376,383,390,397,404,411,418,425,432,482,489,496,510,517,524,531,538,545,552,559,564,569,576]
noncomputable def clsL:List (Addr×Cls):=[
 (122,⟨0,[(Y "__init__",84),(Qch,91),(Qbx,98),(Qby,105),(Qcy,112),(Qbc,119)],[Ql,Y "name",Y "text",Y "public",Y "system",Y "is_quirks",Y "is_closing",Y "attrs"],84⟩),
 (336,⟨1,[(Y "__init__",312),(Qci,319),(Qh,326)],[Qa,Y "is_closed",Y "is_return",Y "errors"],312⟩),
 (499,⟨2,[(Y "__init__",355),(Qci,362),(Qh,369),(Qaq,376),(Qag,383),(Qam,390),(Qaa,397),(Y "emit",404),(Qcn,411),(Qcz,418),(Qcj,425),(Qbu,432),(Y "step",482),(Qda,489),(Y "run",496)],[Qax,Y "stream",Y "at",Y "state",Y "back",Y "out",Y "errors",Y "draft",Y "buffer",Y "code",Y "last",Y "is_foreign",Y "is_waiting",Y "is_done"],355⟩)]
noncomputable def globL:List (Str×Addr):=[(Y "is_blank",28),(Y "is_upper",35),(Y "is_letter",42),(Y "lower",49),(Y "is_surrogate",56),(Y "is_noncharacter",63),(Y "is_control",70),(Y "tag_open_state",133),(Y "end_tag_open_state",140),(Y "tag_name_state",147),(Y "self_closing_state",154),(Y "tag_states",161),(Y "finish_tag",168),(Y "cut_tag",175),(Y "leave_name",182),(Y "begin_reference",189),(Y "before_attr_name_state",196),(Y "attr_name_state",203),(Y "after_attr_name_state",210),(Y "before_attr_value_state",217),(Y "quoted_value",224),(Y "double_quoted_state",231),(Y "single_quoted_state",238),(Y "unquoted_state",245),(Y "after_quoted_state",252),(Y "attr_states",259),(Y "input_error",298),(Y "_law_number",510),(Y "_law_drawn",517),(Y "_law_cased",524),(Y "_law_put",531),(Y "_law_gap",538),(Y "_law_lay",545),(Y "_law_name",552),(Y "_law_value",559),(Y "_law_attr",564),(Y "_law_tag",569),(Y "law",576),(Y "Draft",122),(Y "Stream",336),(Y "Tokenizer",499)]
noncomputable def siteF(l c:Nat):Option Nat:=(([(131,11,3),(250,11,3),(32,21,4),(35,26,5),(58,15,6),(271,21,7),(274,22,8),(303,19,9),(304,22,10),(511,21,11),(511,25,12),(492,20,13),(409,10,14),(431,22,15)]:List (Nat×Nat×Nat)).find? fun x=>Nat.beq x.1 l&&Nat.beq x.2.1 c).map (·.2.2)
noncomputable def initA:Addr:=355
noncomputable def lawA:Addr:=576
noncomputable def P(p:Params):Prog:={ fns:=(initA,fnAt (K p) [.str ""] initA)::fnAddrs.map (fun a=>(a,fnAt (K p) [] a)),clss:=clsL,globs:=globL,site:=siteF }
theorem fns_ok(p:Params):fnsOk (K p) fnAddrs=true:=by kernel_rfl
theorem cls_ok'(p:Params):clsL.all (fun q=>clsOk (K p) q.1 q.2)=true:=by kernel_rfl
theorem Utj(p:Params):globOk (K p) (P p)=true:=by kernel_rfl
noncomputable def fdI(p:Params):FuncData:=(fdAt (K p) initA).getD default
noncomputable def dflTok(K:Frag)(fd:FuncData):Tok:=match fd.defaults with
 | .ref T=>match K.lookup T with
  | some ⟨_,_,.seq its _,_⟩=>match its.toList with
   | [_,.str _ t]=>t
   | _=>0
  | _=>0
 | _=>0
theorem fdI_is(p:Params):fdAt (K p) initA=some (fdI p):=by kernel_rfl
theorem Uoo(p:Params):(argNames (fdI p)).length=4:=by kernel_rfl
theorem bind4(p:Params)(a b c d:Value)(S:Setting):peek (K p) S (bindArgs (fdI p) ⟨[a,b,c,d],[]⟩)=some ((argNames (fdI p)).zip [a,b,c,d]):=by kernel_rfl
theorem bind3(p:Params)(a b c:Value)(S:Setting):peek (K p) S (bindArgs (fdI p) ⟨[a,b,c],[]⟩)=some ((argNames (fdI p)).zip [a,b,c,.str "" (dflTok (K p) (fdI p))]):=by kernel_rfl
theorem fdI_ok(p:Params):fdOk (K p) (fdI p)=true:=by kernel_rfl
theorem Utm(p:Params):FnIn (K p) initA (fnAt (K p) [.str ""] initA):=by
 refine FnIn.last (t:=dflTok (K p) (fdI p)) (fdI_is p) (fdI_ok p) (by decide +kernel) (by decide +kernel) (fun us h S=>?_) fun us h S=>?_
 ·obtain ⟨a,b,c,d,rfl⟩:=len4 (h.trans (Uoo p));exact bind4 p a b c d S
 ·obtain ⟨a,b,c,rfl⟩:=len3 (h.trans (Uoo p));exact bind3 p a b c S
noncomputable def LawOk:Prop:=∀ (p:Params) (ns:List Int),ns.length<=63->∃ O',callD (P p) 20 lawA [.lst (ns.map .int)] (List.replicate 24 [])=some (.bool true,O')
theorem all_ff(p:Params):∀ a f,lkN a (P p).fns=some f->FnIn (K p) a f:=fns_in (fns_ok p) (Utm p)
theorem all_cf(p:Params):∀ c k,lkN c (P p).clss=some k->ClsFacts (K p) c k:=cls_in (cls_ok' p)
theorem h_said:OpenLaw.wellSaid PySem.Challenge.rw_nt0611_01=true:=by first | decide +kernel | k_qdec
set_option maxHeartbeats 8000000 in
theorem h_walk(hlaw:LawOk):PySem.Challenge.rw_nt0611_01.Holds:=by
 w_on
 refine holds_law h_said fun said=>?_;refine holds_open (q:=vw) (loose:=[]) (Xt:=xt) (XP:=XL vw []) (Yf:=hk.obs) (Ya:=hk.val) (YP:=hk.says) (N:=10100) left hk.of hk.keeps (fun s e=>xl_of s (Bool.and_eq_true_iff.mp e).1) XL.keeps (by rfl) (by rfl) (by rfl) (fun s e=>recFacts_of (Bool.and_eq_true_iff.mp e).2) (by rfl) (by first | assumption | decide +kernel) (by decide +kernel) ⟨rfl,rfl,rfl,rfl,rfl,by decide +kernel⟩ ?hw ?hc
 case hw=>w_witness2
 w_strict (
  intro w s₀ s₁ mg mb G Y fa o pm cd doc dV kV ho hd hcd hD hmg hg args vals as hpre hlay hrd hwl hlo;have KX:(K w.params).In s₁.heap:=Y;have X:=(Ground.X G).1;have V:=(Ground.X G).2;refine Ground.open G ?_;intro T B D TE TW
  try (refine guard_noD D (by decide +kernel) ?_;clear D)
  obtain ⟨_,_,M⟩:=bmod_of_top T;have TA:=at_of_top T
  try (obtain ⟨_,_,he,B0⟩:=based_of_top T rfl hmg ho hd;have he':cd=_:=he;subst he';clear he)
  clear hmg
  wrow_args hpre hlay hrd hwl hlo
  refine enter_call ?_
  w_top on
  try refine codeAny_mono ?_ (fun w0 w0 g=>GoodW.toG g)
  have K0:=below_caller (Top.heap T)
  w_call any ho hd hcd hD T F
  clear hd TA
  k_drop
  rename Top _ _ _ _ _ _=>hT
  rename IntsAre _ _=>hI
  rename Frag.In _ _=>hX
  rename Well _ _ _ _=>hW
  rename Heap.IsList _ _ _=>hL
  rename ¬ _ < _=>h63
  rename Shared.gens _=#[]=>hgens
  rename PyProof.Rows.Fr _ _ _ _=>F
  refine Urb (d:=19) (N:=24) (fa:=lawA) (x:="script") (P:=P w.params) hT (show (K w.params).In _ from hX) (Utj _) (all_cf _) (all_ff _) ?k1 ?k2 ?k3 hL hW hI h63 F ?k4 ?k5 ?k6 ?k7 ?k8 ?k9 ?k10 (hlaw _) ?k11
  case k1=>exact rfl
  case k2=>(show callerA.depth+1+2*19+2 < 1000;decide)
  case k3=>(show callerA.units+3+8*19+200 < 9900;decide)
  case k4=>kernel_rfl
  case k5=>kernel_rfl
  case k6=>exact rfl
  case k7=>decide +kernel
  case k8=>decide +kernel
  case k9=>kernel_rfl
  case k10=>exact Nat.succ_pos _
  case k11 =>
   intro s' hk ho hg;exact Urh rfl (by kernel_rfl) hk ho (hg.trans hgens))
theorem fin(hlaw:LawOk):PySem.Challenge.rw_nt0611_01.Holds:=h_walk hlaw
end Mine
end
section
open PySem PySem.W
namespace Mine
noncomputable section
variable (p:Params)(c:CC)
noncomputable abbrev mc(p:Params)(c:CC)(o:V)(x:Str)(l:List V)(k:V->M Fl):M Fl:=bnd (look (methK (P p) o x)) fun m=>if isRepl m then fail else bnd (methodV c m o l) k
noncomputable abbrev a_is_blank:Addr:=28
noncomputable abbrev a_is_upper:Addr:=35
noncomputable abbrev a_is_letter:Addr:=42
noncomputable abbrev a_lower:Addr:=49
noncomputable abbrev a_Draft_init:Addr:=84
noncomputable abbrev a_Draft_begin_attr:Addr:=91
noncomputable abbrev a_Draft_add_name:Addr:=98
noncomputable abbrev a_Draft_add_value:Addr:=105
noncomputable abbrev a_Draft_check_attr:Addr:=112
noncomputable abbrev a_Draft_token:Addr:=119
noncomputable abbrev a_tag_open_state:Addr:=133
noncomputable abbrev a_end_tag_open_state:Addr:=140
noncomputable abbrev a_tag_name_state:Addr:=147
noncomputable abbrev a_self_closing_state:Addr:=154
noncomputable abbrev a_tag_states:Addr:=161
noncomputable abbrev a_finish_tag:Addr:=168
noncomputable abbrev a_cut_tag:Addr:=175
noncomputable abbrev a_leave_name:Addr:=182
noncomputable abbrev a_begin_reference:Addr:=189
noncomputable abbrev a_before_attr_name_state:Addr:=196
noncomputable abbrev a_attr_name_state:Addr:=203
noncomputable abbrev a_after_attr_name_state:Addr:=210
noncomputable abbrev a_before_attr_value_state:Addr:=217
noncomputable abbrev a_quoted_value:Addr:=224
noncomputable abbrev a_double_quoted_state:Addr:=231
noncomputable abbrev a_single_quoted_state:Addr:=238
noncomputable abbrev a_unquoted_state:Addr:=245
noncomputable abbrev a_after_quoted_state:Addr:=252
noncomputable abbrev a_attr_states:Addr:=259
noncomputable abbrev a_input_error:Addr:=298
noncomputable abbrev a_Stream_init:Addr:=312
noncomputable abbrev a_Stream_feed:Addr:=319
noncomputable abbrev a_Tokenizer_init:Addr:=355
noncomputable abbrev a_Tokenizer_feed:Addr:=362
noncomputable abbrev a_Tokenizer_next:Addr:=376
noncomputable abbrev a_Tokenizer_to:Addr:=383
noncomputable abbrev a_Tokenizer_again:Addr:=390
noncomputable abbrev a_Tokenizer_error:Addr:=397
noncomputable abbrev a_Tokenizer_emit:Addr:=404
noncomputable abbrev a_Tokenizer_emit_sign:Addr:=411
noncomputable abbrev a_Tokenizer_emit_text:Addr:=418
noncomputable abbrev a_Tokenizer_emit_draft:Addr:=425
noncomputable abbrev a_Tokenizer_emit_eof:Addr:=432
noncomputable abbrev a_Tokenizer_step:Addr:=482
noncomputable abbrev a_Tokenizer_is_ready:Addr:=489
noncomputable abbrev a_Tokenizer_run:Addr:=496
noncomputable abbrev a__law_number:Addr:=510
noncomputable abbrev a__law_drawn:Addr:=517
noncomputable abbrev a__law_cased:Addr:=524
noncomputable abbrev a__law_put:Addr:=531
noncomputable abbrev a__law_gap:Addr:=538
noncomputable abbrev a__law_lay:Addr:=545
noncomputable abbrev a__law_name:Addr:=552
noncomputable abbrev a__law_value:Addr:=559
noncomputable abbrev a__law_attr:Addr:=564
noncomputable abbrev a__law_tag:Addr:=569
noncomputable abbrev a_law:Addr:=576
noncomputable abbrev c_Draft:Addr:=122
noncomputable abbrev c_Stream:Addr:=336
noncomputable abbrev c_Tokenizer:Addr:=499
noncomputable def F_is_blank(p:Params)(c:CC)(vc:V):M Fl :=
bnd (look (cmpV .In vc (.tup [(.str Qdb),(.str Qbj),(.str Qdc),(.str Qbv)]))) fun x1 =>
ret (.ret (.bool x1))
theorem Ul4(d:Nat)(vc:V):callK (P p) (d+1) a_is_blank [vc]=bnd (F_is_blank p (callK (P p) d) vc) unFl:=by kernel_rfl
noncomputable def F_is_upper(p:Params)(c:CC)(vc:V):M Fl :=
bnd (look (cmpV .LtE (.str Qav) vc)) fun x1 =>
(if x1 then
bnd (look (cmpV .LtE vc (.str Qbk))) fun x2 =>
ret (.ret (.bool x2))
else
ret (.ret (.bool false)))
theorem Ulf(d:Nat)(vc:V):callK (P p) (d+1) a_is_upper [vc]=bnd (F_is_upper p (callK (P p) d) vc) unFl:=by kernel_rfl
noncomputable def F_is_letter(p:Params)(c:CC)(vc:V):M Fl :=
bnd (look (cmpV .LtE (.str Qbl) vc)) fun x1 =>
(if x1 then
bnd (look (cmpV .LtE vc (.str Qbm))) fun x2 =>
(cond x2
(ret (.ret (.bool x2)))
(bnd (look (cmpV .LtE (.str Qav) vc)) fun x3 =>
(if x3 then
bnd (look (cmpV .LtE vc (.str Qbk))) fun x4 =>
ret (.ret (.bool x4))
else
ret (.ret (.bool false)))))
else
bnd (look (cmpV .LtE (.str Qav) vc)) fun x5 =>
(if x5 then
bnd (look (cmpV .LtE vc (.str Qbk))) fun x6 =>
ret (.ret (.bool x6))
else
ret (.ret (.bool false))))
theorem Uj9(d:Nat)(vc:V):callK (P p) (d+1) a_is_letter [vc]=bnd (F_is_letter p (callK (P p) d) vc) unFl:=by kernel_rfl
def fd_lower:Fn:=fnAt (K p) [] a_lower
def sc_lower:Scope:=(fd_lower p).scope
def bo_lower:List Stmt:=(fd_lower p).body
def J_lower_0(fr:Fr):M Fl:=execK (P p) c (sc_lower p) 59 fr ((bo_lower p).drop 1) (fun fr=>ret (.next fr))
noncomputable def J_lower_0_T0(p:Params)(c:CC)(vc:V):M Fl :=
ret (.ret vc)
theorem Uhz(vc:V):J_lower_0 p c [(Qd,vc)]=J_lower_0_T0 p c vc:=by kernel_rfl
def F_lower(vc:V):M Fl :=
bnd (c a_is_upper [vc]) fun x1 =>
(match isT x1 with
| some x2=>(if x2 then
bnd (builtinV .ord [vc]) fun x3 =>
bnd (look (binV .Add x3 (.int 32))) fun x4 =>
bnd (builtinV .chr [x4]) fun x5 =>
ret (.ret x5)
else
J_lower_0 p c [(Qd,vc)])
| none=>fail)
theorem Uru(d:Nat)(vc:V):callK (P p) (d+1) a_lower [vc]=bnd (F_lower p (callK (P p) d) vc) unFl:=by kernel_rfl
noncomputable def F_Draft_init(p:Params)(c:CC)(vself vkind vname:V):M Fl :=
bnd (setAttrV (P p) vself Ql vkind) fun w0 =>
bnd (setAttrV (P p) vself Qg vname) fun w0 =>
bnd (setAttrV (P p) vself Qk (.str Qt)) fun w0 =>
bnd (setAttrV (P p) vself Qco .none) fun w0 =>
bnd (setAttrV (P p) vself Qcp .none) fun w0 =>
bnd (setAttrV (P p) vself Qcq (.bool false)) fun w0 =>
bnd (setAttrV (P p) vself Qs (.bool false)) fun w0 =>
bnd (newL 4 []) fun x1 =>
bnd (setAttrV (P p) vself Qe x1) fun w0 =>
ret (.next [(Qc,vself),(Ql,vkind),(Qg,vname)])
theorem Uh8(d:Nat)(vself vkind vname:V):callK (P p) (d+1) a_Draft_init [vself,vkind,vname]=bnd (F_Draft_init p (callK (P p) d) vself vkind vname) unFl:=by kernel_rfl
def F_Draft_begin_attr(vself:V):M Fl :=
bnd (attrV (P p) vself Qe) fun x1 =>
bnd (look (methK (P p) x1 Qv)) fun x2 =>
if isRepl x2 then fail else bnd (newL 5 [(.str Qt),(.str Qt),(.bool true)]) fun x3 =>
bnd (methodV c x2 x1 [x3]) fun x4 =>
ret (.next [(Qc,vself)])
theorem Udm(d:Nat)(vself:V):callK (P p) (d+1) a_Draft_begin_attr [vself]=bnd (F_Draft_begin_attr p (callK (P p) d) vself) unFl:=by kernel_rfl
noncomputable def F_Draft_add_name(p:Params)(c:CC)(vself vtext:V):M Fl :=
bnd (attrV (P p) vself Qe) fun x1 =>
bnd (look (itemV x1 (.int (-1)))) fun x2 =>
bnd (look (itemV x2 (.int 0))) fun x3 =>
bnd (look (binV .Add x3 vtext)) fun x4 =>
bnd (setItemV x2 (.int 0) x4) fun w0 =>
ret (.next [(Qc,vself),(Qk,vtext),(Qal,x2)])
theorem Ufv(d:Nat)(vself vtext:V):callK (P p) (d+1) a_Draft_add_name [vself,vtext]=bnd (F_Draft_add_name p (callK (P p) d) vself vtext) unFl:=by kernel_rfl
noncomputable def F_Draft_add_value(p:Params)(c:CC)(vself vtext:V):M Fl :=
bnd (attrV (P p) vself Qe) fun x1 =>
bnd (look (itemV x1 (.int (-1)))) fun x2 =>
bnd (look (itemV x2 (.int 1))) fun x3 =>
bnd (look (binV .Add x3 vtext)) fun x4 =>
bnd (setItemV x2 (.int 1) x4) fun w0 =>
ret (.next [(Qc,vself),(Qk,vtext),(Qal,x2)])
theorem Uee(d:Nat)(vself vtext:V):callK (P p) (d+1) a_Draft_add_value [vself,vtext]=bnd (F_Draft_add_value p (callK (P p) d) vself vtext) unFl:=by kernel_rfl
def fd_Draft_check_attr:Fn:=fnAt (K p) [] a_Draft_check_attr
def sc_Draft_check_attr:Scope:=(fd_Draft_check_attr p).scope
def bo_Draft_check_attr:List Stmt:=(fd_Draft_check_attr p).body
def st_Draft_check_attr_l0:Stmt:=(stAt (bo_Draft_check_attr p) 1)
def J_Draft_check_attr_0(fr:Fr):M Fl:=execK (P p) c (sc_Draft_check_attr p) 58 fr ((bo_Draft_check_attr p).drop 2) (fun fr=>ret (.next fr))
noncomputable def T_Draft_check_attr_l0_0(p:Params)(c:CC)(vself vlast vi:V):M Fl :=
bnd (attrV (P p) vself Qe) fun x7 =>
bnd (look (itemV x7 vi)) fun x8 =>
bnd (look (itemV x8 (.int 2))) fun x9 =>
(match isT x9 with
| some x10=>(cond x10
(bnd (attrV (P p) vself Qe) fun x11 =>
bnd (look (itemV x11 vi)) fun x12 =>
bnd (look (itemV x12 (.int 0))) fun x13 =>
bnd (look (itemV vlast (.int 0))) fun x14 =>
bnd (look (cmpV .Eq x13 x14)) fun x15 =>
(cond x15
(bnd (setItemV vlast (.int 2) (.bool false)) fun w0 =>
ret (.ret (.bool false)))
(ret (.next [(Qc,vself),(Qal,vlast),(Qbw,vi)]))))
(ret (.next [(Qc,vself),(Qal,vlast),(Qbw,vi)])))
| none=>fail)
theorem Ubj(vself vlast vi:V):turnL (P p) c (sc_Draft_check_attr p) 57 (st_Draft_check_attr_l0 p) [(Qc,vself),(Qal,vlast),(Qbw,vi)]=T_Draft_check_attr_l0_0 p c vself vlast vi:=by kernel_rfl
noncomputable def J_Draft_check_attr_0_T0(p:Params)(c:CC)(vself vlast:V):M Fl :=
ret (.ret (.bool true))
theorem Ubv(vself vlast:V):J_Draft_check_attr_0 p c [(Qc,vself),(Qal,vlast)]=J_Draft_check_attr_0_T0 p c vself vlast:=by kernel_rfl
noncomputable def J_Draft_check_attr_0_T1(p:Params)(c:CC)(vself vlast vi:V):M Fl :=
ret (.ret (.bool true))
theorem Ubx(vself vlast vi:V):J_Draft_check_attr_0 p c [(Qc,vself),(Qal,vlast),(Qbw,vi)]=J_Draft_check_attr_0_T1 p c vself vlast vi:=by kernel_rfl
def F_Draft_check_attr(vself:V):M Fl :=
bnd (attrV (P p) vself Qe) fun x1 =>
bnd (look (itemV x1 (.int (-1)))) fun x2 =>
bnd (attrV (P p) vself Qe) fun x3 =>
bnd (builtinV .len [x3]) fun x4 =>
bnd (look (binV .Sub x4 (.int 1))) fun x5 =>
bnd (builtinV .range [x5]) fun x6 =>
bnd (loopF x6 (setL (sc_Draft_check_attr p) Qbw) (turnL (P p) c (sc_Draft_check_attr p) 57 (st_Draft_check_attr_l0 p)) 5000 0 [(Qc,vself),(Qal,x2)]) (goOn (J_Draft_check_attr_0 p c))
theorem Udy(d:Nat)(vself:V):callK (P p) (d+1) a_Draft_check_attr [vself]=bnd (F_Draft_check_attr p (callK (P p) d) vself) unFl:=by kernel_rfl
def fd_Draft_token:Fn:=fnAt (K p) [] a_Draft_token
def sc_Draft_token:Scope:=(fd_Draft_token p).scope
def bo_Draft_token:List Stmt:=(fd_Draft_token p).body
def st_Draft_token_l0:Stmt:=(stAt (bo_Draft_token p) 3)
def J_Draft_token_0(fr:Fr):M Fl:=execK (P p) c (sc_Draft_token p) 59 fr ((bo_Draft_token p).drop 1) (fun fr=>ret (.next fr))
def J_Draft_token_1(fr:Fr):M Fl:=execK (P p) c (sc_Draft_token p) 58 fr ((bo_Draft_token p).drop 2) (fun fr=>ret (.next fr))
def J_Draft_token_2(fr:Fr):M Fl:=execK (P p) c (sc_Draft_token p) 56 fr ((bo_Draft_token p).drop 4) (fun fr=>ret (.next fr))
def J_Draft_token_0_T0(vself:V):M Fl :=
bnd (attrV (P p) vself Ql) fun x4 =>
bnd (look (cmpV .Eq x4 (.str (Y "doctype")))) fun x5 =>
(if x5 then
bnd (attrV (P p) vself Qg) fun x6 =>
bnd (attrV (P p) vself Qco) fun x7 =>
bnd (attrV (P p) vself Qcp) fun x8 =>
bnd (attrV (P p) vself Qcq) fun x9 =>
ret (.ret (.tup [(.str (Y "doctype")),x6,x7,x8,x9]))
else
J_Draft_token_1 p c [(Qc,vself)])
theorem Ude(vself:V):J_Draft_token_0 p c [(Qc,vself)]=J_Draft_token_0_T0 p c vself:=by kernel_rfl
def J_Draft_token_1_T0(vself:V):M Fl :=
bnd (newL 6 []) fun x10 =>
bnd (attrV (P p) vself Qe) fun x11 =>
bnd (loopF x11 (setL (sc_Draft_token p) Qbz) (turnL (P p) c (sc_Draft_token p) 55 (st_Draft_token_l0 p)) 5000 0 [(Qc,vself),(Qbn,x10)]) (goOn (J_Draft_token_2 p c))
theorem Uc9(vself:V):J_Draft_token_1 p c [(Qc,vself)]=J_Draft_token_1_T0 p c vself:=by kernel_rfl
def T_Draft_token_l0_0(vself vkept vattr:V):M Fl :=
bnd (look (itemV vattr (.int 2))) fun x12 =>
(match isT x12 with
| some x13=>(if x13 then
bnd (look (methK (P p) vkept Qv)) fun x14 =>
if isRepl x14 then fail else bnd (look (itemV vattr (.int 0))) fun x15 =>
bnd (look (itemV vattr (.int 1))) fun x16 =>
bnd (methodV c x14 vkept [(.tup [x15,x16])]) fun x17 =>
ret (.next [(Qc,vself),(Qbn,vkept),(Qbz,vattr)])
else
ret (.next [(Qc,vself),(Qbn,vkept),(Qbz,vattr)]))
| none=>fail)
theorem Ucj(vself vkept vattr:V):turnL (P p) c (sc_Draft_token p) 55 (st_Draft_token_l0 p) [(Qc,vself),(Qbn,vkept),(Qbz,vattr)]=T_Draft_token_l0_0 p c vself vkept vattr:=by kernel_rfl
noncomputable def J_Draft_token_2_T0(p:Params)(c:CC)(vself vkept:V):M Fl :=
bnd (attrV (P p) vself Ql) fun x18 =>
bnd (attrV (P p) vself Qg) fun x19 =>
bnd (builtinV .tuple [vkept]) fun x20 =>
bnd (attrV (P p) vself Qs) fun x21 =>
ret (.ret (.tup [x18,x19,x20,x21]))
theorem Udf(vself vkept:V):J_Draft_token_2 p c [(Qc,vself),(Qbn,vkept)]=J_Draft_token_2_T0 p c vself vkept:=by kernel_rfl
noncomputable def J_Draft_token_2_T1(p:Params)(c:CC)(vself vkept vattr:V):M Fl :=
bnd (attrV (P p) vself Ql) fun x22 =>
bnd (attrV (P p) vself Qg) fun x23 =>
bnd (builtinV .tuple [vkept]) fun x24 =>
bnd (attrV (P p) vself Qs) fun x25 =>
ret (.ret (.tup [x22,x23,x24,x25]))
theorem Uc3(vself vkept vattr:V):J_Draft_token_2 p c [(Qc,vself),(Qbn,vkept),(Qbz,vattr)]=J_Draft_token_2_T1 p c vself vkept vattr:=by kernel_rfl
def F_Draft_token(vself:V):M Fl :=
bnd (attrV (P p) vself Ql) fun x1 =>
bnd (look (cmpV .Eq x1 (.str Qca))) fun x2 =>
(if x2 then
bnd (attrV (P p) vself Qk) fun x3 =>
ret (.ret (.tup [(.str Qca),x3]))
else
J_Draft_token_0 p c [(Qc,vself)])
theorem Uhn(d:Nat)(vself:V):callK (P p) (d+1) a_Draft_token [vself]=bnd (F_Draft_token p (callK (P p) d) vself) unFl:=by kernel_rfl
def F_tag_open_state(vt:V):M Fl :=
mc p c vt Qaq [] fun x2 =>
bnd (look (cmpV .Eq x2 (.str (Y "!")))) fun x3 =>
(if x3 then
mc p c vt Qag [(.str (Y "markup declaration open"))] fun x5 =>
ret (.next [(Qm,vt),(Qd,x2)])
else
bnd (look (cmpV .Eq x2 (.str Qy))) fun x6 =>
(if x6 then
mc p c vt Qag [(.str (Y "end tag open"))] fun x8 =>
ret (.next [(Qm,vt),(Qd,x2)])
else
bnd (c a_is_letter [x2]) fun x9 =>
(match isT x9 with
| some x10=>(if x10 then
bnd (applyV (P p) c (.fn c_Draft) [(.str Qbo),(.str Qt)]) fun x11 =>
bnd (setAttrV (P p) vt Qw x11) fun w0 =>
mc p c vt Qam [(.str Qai)] fun x13 =>
ret (.next [(Qm,vt),(Qd,x2)])
else
bnd (look (cmpV .Eq x2 (.str (Y "?")))) fun x14 =>
(if x14 then
mc p c vt Qaa [(.str (Y "unexpected-question-mark-instead-of-tag-name"))] fun x16 =>
bnd (applyV (P p) c (.fn c_Draft) [(.str Qca),(.str Qt)]) fun x17 =>
bnd (setAttrV (P p) vt Qw x17) fun w0 =>
mc p c vt Qam [(.str (Y "bogus comment"))] fun x19 =>
ret (.next [(Qm,vt),(Qd,x2)])
else
bnd (look (cmpV .Eq x2 (.str Qt))) fun x20 =>
(if x20 then
mc p c vt Qaa [(.str (Y "eof-before-tag-name"))] fun x22 =>
mc p c vt Qcn [(.str Qaf)] fun x24 =>
mc p c vt Qbu [] fun x26 =>
ret (.next [(Qm,vt),(Qd,x2)])
else
mc p c vt Qaa [(.str (Y "invalid-first-character-of-tag-name"))] fun x28 =>
mc p c vt Qcn [(.str Qaf)] fun x30 =>
mc p c vt Qam [(.str Qbi)] fun x32 =>
ret (.next [(Qm,vt),(Qd,x2)]))))
| none=>fail)))
theorem Uet(d:Nat)(vt:V):callK (P p) (d+1) a_tag_open_state [vt]=bnd (F_tag_open_state p (callK (P p) d) vt) unFl:=by kernel_rfl
def F_end_tag_open_state(vt:V):M Fl :=
mc p c vt Qaq [] fun x2 =>
bnd (c a_is_letter [x2]) fun x3 =>
(match isT x3 with
| some x4=>(if x4 then
bnd (applyV (P p) c (.fn c_Draft) [(.str Qh),(.str Qt)]) fun x5 =>
bnd (setAttrV (P p) vt Qw x5) fun w0 =>
mc p c vt Qam [(.str Qai)] fun x7 =>
ret (.next [(Qm,vt),(Qd,x2)])
else
bnd (look (cmpV .Eq x2 (.str Qar))) fun x8 =>
(if x8 then
mc p c vt Qaa [(.str (Y "missing-end-tag-name"))] fun x10 =>
mc p c vt Qag [(.str Qbi)] fun x12 =>
ret (.next [(Qm,vt),(Qd,x2)])
else
bnd (look (cmpV .Eq x2 (.str Qt))) fun x13 =>
(if x13 then
mc p c vt Qaa [(.str (Y "eof-before-tag-name"))] fun x15 =>
mc p c vt Qcz [(.str Qcb)] fun x17 =>
mc p c vt Qbu [] fun x19 =>
ret (.next [(Qm,vt),(Qd,x2)])
else
mc p c vt Qaa [(.str (Y "invalid-first-character-of-tag-name"))] fun x21 =>
bnd (applyV (P p) c (.fn c_Draft) [(.str Qca),(.str Qt)]) fun x22 =>
bnd (setAttrV (P p) vt Qw x22) fun w0 =>
mc p c vt Qam [(.str (Y "bogus comment"))] fun x24 =>
ret (.next [(Qm,vt),(Qd,x2)]))))
| none=>fail)
theorem Ucr(d:Nat)(vt:V):callK (P p) (d+1) a_end_tag_open_state [vt]=bnd (F_end_tag_open_state p (callK (P p) d) vt) unFl:=by kernel_rfl
def F_tag_name_state(vt:V):M Fl :=
mc p c vt Qaq [] fun x2 =>
bnd (c a_is_blank [x2]) fun x3 =>
(match isT x3 with
| some x4=>(if x4 then
mc p c vt Qag [(.str Qcc)] fun x6 =>
ret (.next [(Qm,vt),(Qd,x2)])
else
bnd (look (cmpV .Eq x2 (.str Qy))) fun x7 =>
(if x7 then
mc p c vt Qag [(.str Qcr)] fun x9 =>
ret (.next [(Qm,vt),(Qd,x2)])
else
bnd (look (cmpV .Eq x2 (.str Qar))) fun x10 =>
(if x10 then
mc p c vt Qag [(.str Qbi)] fun x12 =>
mc p c vt Qcj [] fun x14 =>
ret (.next [(Qm,vt),(Qd,x2)])
else
bnd (look (cmpV .Eq x2 (.str Qab))) fun x15 =>
(if x15 then
mc p c vt Qaa [(.str Qcs)] fun x17 =>
bnd (attrV (P p) vt Qw) fun x18 =>
bnd (attrV (P p) x18 Qg) fun x19 =>
bnd (look (binV .Add x19 (.str Qaz))) fun x20 =>
bnd (attrV (P p) vt Qw) fun x21 =>
bnd (setAttrV (P p) x21 Qg x20) fun w0 =>
ret (.next [(Qm,vt),(Qd,x2)])
else
bnd (look (cmpV .Eq x2 (.str Qt))) fun x22 =>
(if x22 then
mc p c vt Qaa [(.str (Y "eof-in-tag"))] fun x24 =>
mc p c vt Qbu [] fun x26 =>
ret (.next [(Qm,vt),(Qd,x2)])
else
bnd (attrV (P p) vt Qw) fun x27 =>
bnd (attrV (P p) x27 Qg) fun x28 =>
bnd (c a_lower [x2]) fun x29 =>
bnd (look (binV .Add x28 x29)) fun x30 =>
bnd (attrV (P p) vt Qw) fun x31 =>
bnd (setAttrV (P p) x31 Qg x30) fun w0 =>
ret (.next [(Qm,vt),(Qd,x2)]))))))
| none=>fail)
theorem Ufr(d:Nat)(vt:V):callK (P p) (d+1) a_tag_name_state [vt]=bnd (F_tag_name_state p (callK (P p) d) vt) unFl:=by kernel_rfl
def F_self_closing_state(vt:V):M Fl :=
mc p c vt Qaq [] fun x2 =>
bnd (look (cmpV .Eq x2 (.str Qar))) fun x3 =>
(if x3 then
bnd (attrV (P p) vt Qw) fun x4 =>
bnd (setAttrV (P p) x4 Qs (.bool true)) fun w0 =>
mc p c vt Qag [(.str Qbi)] fun x6 =>
mc p c vt Qcj [] fun x8 =>
ret (.next [(Qm,vt),(Qd,x2)])
else
bnd (look (cmpV .Eq x2 (.str Qt))) fun x9 =>
(if x9 then
mc p c vt Qaa [(.str (Y "eof-in-tag"))] fun x11 =>
mc p c vt Qbu [] fun x13 =>
ret (.next [(Qm,vt),(Qd,x2)])
else
mc p c vt Qaa [(.str (Y "unexpected-solidus-in-tag"))] fun x15 =>
mc p c vt Qam [(.str Qcc)] fun x17 =>
ret (.next [(Qm,vt),(Qd,x2)])))
theorem Ucm(d:Nat)(vt:V):callK (P p) (d+1) a_self_closing_state [vt]=bnd (F_self_closing_state p (callK (P p) d) vt) unFl:=by kernel_rfl
noncomputable def F_tag_states(p:Params)(c:CC):M Fl :=
bnd (newD 3 [(Qba,(.fn a_tag_open_state)),(Y "end tag open",(.fn a_end_tag_open_state)),(Qai,(.fn a_tag_name_state)),(Qcr,(.fn a_self_closing_state))]) fun x1 =>
ret (.ret x1)
theorem Uh7(d:Nat):callK (P p) (d+1) a_tag_states []=bnd (F_tag_states p (callK (P p) d) ) unFl:=by kernel_rfl
def F_finish_tag(vt:V):M Fl :=
mc p c vt Qag [(.str Qbi)] fun x2 =>
mc p c vt Qcj [] fun x4 =>
ret (.next [(Qm,vt)])
theorem Uih(d:Nat)(vt:V):callK (P p) (d+1) a_finish_tag [vt]=bnd (F_finish_tag p (callK (P p) d) vt) unFl:=by kernel_rfl
def F_cut_tag(vt:V):M Fl :=
mc p c vt Qaa [(.str (Y "eof-in-tag"))] fun x2 =>
mc p c vt Qbu [] fun x4 =>
ret (.next [(Qm,vt)])
theorem Um8(d:Nat)(vt:V):callK (P p) (d+1) a_cut_tag [vt]=bnd (F_cut_tag p (callK (P p) d) vt) unFl:=by kernel_rfl
def F_leave_name(vt:V):M Fl :=
bnd (attrV (P p) vt Qw) fun x1 =>
mc p c x1 Qcy [] fun x3 =>
(match isT x3 with
| some x4=>(if (!x4) then
mc p c vt Qaa [(.str (Y "duplicate-attribute"))] fun x6 =>
ret (.next [(Qm,vt)])
else
ret (.next [(Qm,vt)]))
| none=>fail)
theorem Uiu(d:Nat)(vt:V):callK (P p) (d+1) a_leave_name [vt]=bnd (F_leave_name p (callK (P p) d) vt) unFl:=by kernel_rfl
def F_begin_reference(vt:V):M Fl :=
bnd (attrV (P p) vt Qap) fun x1 =>
bnd (setAttrV (P p) vt Qdd x1) fun w0 =>
mc p c vt Qag [(.str (Y "character reference"))] fun x3 =>
ret (.next [(Qm,vt)])
theorem Ud5(d:Nat)(vt:V):callK (P p) (d+1) a_begin_reference [vt]=bnd (F_begin_reference p (callK (P p) d) vt) unFl:=by kernel_rfl
def fd_before_attr_name_state:Fn:=fnAt (K p) [] a_before_attr_name_state
def sc_before_attr_name_state:Scope:=(fd_before_attr_name_state p).scope
def bo_before_attr_name_state:List Stmt:=(fd_before_attr_name_state p).body
def J_before_attr_name_state_0(fr:Fr):M Fl:=execK (P p) c (sc_before_attr_name_state p) 58 fr ((bo_before_attr_name_state p).drop 2) (fun fr=>ret (.next fr))
def J_before_attr_name_state_0_T0(vt vc:V):M Fl :=
bnd (look (cmpV .In vc (.tup [(.str Qy),(.str Qar),(.str Qt)]))) fun x5 =>
(if x5 then
mc p c vt Qam [(.str Qct)] fun x7 =>
ret (.next [(Qm,vt),(Qd,vc)])
else
bnd (look (cmpV .Eq vc (.str Qbd))) fun x8 =>
(if x8 then
mc p c vt Qaa [(.str (Y "unexpected-equals-sign-before-attribute-name"))] fun x10 =>
bnd (attrV (P p) vt Qw) fun x11 =>
mc p c x11 Qch [] fun x13 =>
bnd (attrV (P p) vt Qw) fun x14 =>
mc p c x14 Qbx [vc] fun x16 =>
mc p c vt Qag [(.str Qaj)] fun x18 =>
ret (.next [(Qm,vt),(Qd,vc)])
else
bnd (attrV (P p) vt Qw) fun x19 =>
mc p c x19 Qch [] fun x21 =>
mc p c vt Qam [(.str Qaj)] fun x23 =>
ret (.next [(Qm,vt),(Qd,vc)])))
theorem Uay(vt vc:V):J_before_attr_name_state_0 p c [(Qm,vt),(Qd,vc)]=J_before_attr_name_state_0_T0 p c vt vc:=by kernel_rfl
def F_before_attr_name_state(vt:V):M Fl :=
mc p c vt Qaq [] fun x2 =>
bnd (c a_is_blank [x2]) fun x3 =>
(match isT x3 with
| some x4=>(if x4 then
ret (.ret .none)
else
J_before_attr_name_state_0 p c [(Qm,vt),(Qd,x2)])
| none=>fail)
theorem Uby(d:Nat)(vt:V):callK (P p) (d+1) a_before_attr_name_state [vt]=bnd (F_before_attr_name_state p (callK (P p) d) vt) unFl:=by kernel_rfl
def fd_attr_name_state:Fn:=fnAt (K p) [] a_attr_name_state
def sc_attr_name_state:Scope:=(fd_attr_name_state p).scope
def bo_attr_name_state:List Stmt:=(fd_attr_name_state p).body
def J_attr_name_state_0(fr:Fr):M Fl:=execK (P p) c (sc_attr_name_state p) 52 fr ((others (stAt (others (stAt (others (stAt (bo_attr_name_state p) 1)) 0)) 0)).drop 1) (fun fr=>ret (.next fr))
def J_attr_name_state_0_T0(vt vc:V):M Fl :=
bnd (attrV (P p) vt Qw) fun x25 =>
bnd (look (methK (P p) x25 Qbx)) fun x26 =>
if isRepl x26 then fail else bnd (c a_lower [vc]) fun x27 =>
bnd (methodV c x26 x25 [x27]) fun x28 =>
ret (.next [(Qm,vt),(Qd,vc)])
theorem Ub1(vt vc:V):J_attr_name_state_0 p c [(Qm,vt),(Qd,vc)]=J_attr_name_state_0_T0 p c vt vc:=by kernel_rfl
def F_attr_name_state(vt:V):M Fl :=
mc p c vt Qaq [] fun x2 =>
bnd (c a_is_blank [x2]) fun x3 =>
(match isT x3 with
| some x4=>(cond x4
(bnd (c a_leave_name [vt]) fun x5 =>
mc p c vt Qam [(.str Qct)] fun x7 =>
ret (.next [(Qm,vt),(Qd,x2)]))
(bnd (look (cmpV .In x2 (.tup [(.str Qy),(.str Qar),(.str Qt)]))) fun x8 =>
(cond x8
(bnd (c a_leave_name [vt]) fun x9 =>
mc p c vt Qam [(.str Qct)] fun x11 =>
ret (.next [(Qm,vt),(Qd,x2)]))
(bnd (look (cmpV .Eq x2 (.str Qbd))) fun x12 =>
(if x12 then
bnd (c a_leave_name [vt]) fun x13 =>
mc p c vt Qag [(.str Qde)] fun x15 =>
ret (.next [(Qm,vt),(Qd,x2)])
else
bnd (look (cmpV .Eq x2 (.str Qab))) fun x16 =>
(if x16 then
mc p c vt Qaa [(.str Qcs)] fun x18 =>
bnd (attrV (P p) vt Qw) fun x19 =>
mc p c x19 Qbx [(.str Qaz)] fun x21 =>
ret (.next [(Qm,vt),(Qd,x2)])
else
bnd (look (cmpV .In x2 (.tup [(.str Qan),(.str Qbb),(.str Qaf)]))) fun x22 =>
(if x22 then
mc p c vt Qaa [(.str (Y "unexpected-character-in-attribute-name"))] fun x24 =>
J_attr_name_state_0 p c [(Qm,vt),(Qd,x2)]
else
J_attr_name_state_0 p c [(Qm,vt),(Qd,x2)])))))))
| none=>fail)
theorem Ued(d:Nat)(vt:V):callK (P p) (d+1) a_attr_name_state [vt]=bnd (F_attr_name_state p (callK (P p) d) vt) unFl:=by kernel_rfl
def fd_after_attr_name_state:Fn:=fnAt (K p) [] a_after_attr_name_state
def sc_after_attr_name_state:Scope:=(fd_after_attr_name_state p).scope
def bo_after_attr_name_state:List Stmt:=(fd_after_attr_name_state p).body
def J_after_attr_name_state_0(fr:Fr):M Fl:=execK (P p) c (sc_after_attr_name_state p) 58 fr ((bo_after_attr_name_state p).drop 2) (fun fr=>ret (.next fr))
def J_after_attr_name_state_0_T0(vt vc:V):M Fl :=
bnd (look (cmpV .Eq vc (.str Qy))) fun x5 =>
(if x5 then
mc p c vt Qag [(.str Qcr)] fun x7 =>
ret (.next [(Qm,vt),(Qd,vc)])
else
bnd (look (cmpV .Eq vc (.str Qbd))) fun x8 =>
(if x8 then
mc p c vt Qag [(.str Qde)] fun x10 =>
ret (.next [(Qm,vt),(Qd,vc)])
else
bnd (look (cmpV .Eq vc (.str Qar))) fun x11 =>
(if x11 then
bnd (c a_finish_tag [vt]) fun x12 =>
ret (.next [(Qm,vt),(Qd,vc)])
else
bnd (look (cmpV .Eq vc (.str Qt))) fun x13 =>
(if x13 then
bnd (c a_cut_tag [vt]) fun x14 =>
ret (.next [(Qm,vt),(Qd,vc)])
else
bnd (attrV (P p) vt Qw) fun x15 =>
mc p c x15 Qch [] fun x17 =>
mc p c vt Qam [(.str Qaj)] fun x19 =>
ret (.next [(Qm,vt),(Qd,vc)])))))
theorem Ua4(vt vc:V):J_after_attr_name_state_0 p c [(Qm,vt),(Qd,vc)]=J_after_attr_name_state_0_T0 p c vt vc:=by kernel_rfl
def F_after_attr_name_state(vt:V):M Fl :=
mc p c vt Qaq [] fun x2 =>
bnd (c a_is_blank [x2]) fun x3 =>
(match isT x3 with
| some x4=>(if x4 then
ret (.ret .none)
else
J_after_attr_name_state_0 p c [(Qm,vt),(Qd,x2)])
| none=>fail)
theorem Ub2(d:Nat)(vt:V):callK (P p) (d+1) a_after_attr_name_state [vt]=bnd (F_after_attr_name_state p (callK (P p) d) vt) unFl:=by kernel_rfl
def fd_before_attr_value_state:Fn:=fnAt (K p) [] a_before_attr_value_state
def sc_before_attr_value_state:Scope:=(fd_before_attr_value_state p).scope
def bo_before_attr_value_state:List Stmt:=(fd_before_attr_value_state p).body
def J_before_attr_value_state_0(fr:Fr):M Fl:=execK (P p) c (sc_before_attr_value_state p) 58 fr ((bo_before_attr_value_state p).drop 2) (fun fr=>ret (.next fr))
def J_before_attr_value_state_0_T0(vt vc:V):M Fl :=
bnd (look (cmpV .Eq vc (.str Qan))) fun x5 =>
(if x5 then
mc p c vt Qag [(.str (Y "attribute value (double-quoted)"))] fun x7 =>
ret (.next [(Qm,vt),(Qd,vc)])
else
bnd (look (cmpV .Eq vc (.str Qbb))) fun x8 =>
(if x8 then
mc p c vt Qag [(.str (Y "attribute value (single-quoted)"))] fun x10 =>
ret (.next [(Qm,vt),(Qd,vc)])
else
bnd (look (cmpV .Eq vc (.str Qar))) fun x11 =>
(if x11 then
mc p c vt Qaa [(.str Qcu)] fun x13 =>
bnd (c a_finish_tag [vt]) fun x14 =>
ret (.next [(Qm,vt),(Qd,vc)])
else
mc p c vt Qam [(.str (Y "attribute value (unquoted)"))] fun x16 =>
ret (.next [(Qm,vt),(Qd,vc)]))))
theorem Uax(vt vc:V):J_before_attr_value_state_0 p c [(Qm,vt),(Qd,vc)]=J_before_attr_value_state_0_T0 p c vt vc:=by kernel_rfl
def F_before_attr_value_state(vt:V):M Fl :=
mc p c vt Qaq [] fun x2 =>
bnd (c a_is_blank [x2]) fun x3 =>
(match isT x3 with
| some x4=>(if x4 then
ret (.ret .none)
else
J_before_attr_value_state_0 p c [(Qm,vt),(Qd,x2)])
| none=>fail)
theorem Ubp(d:Nat)(vt:V):callK (P p) (d+1) a_before_attr_value_state [vt]=bnd (F_before_attr_value_state p (callK (P p) d) vt) unFl:=by kernel_rfl
def F_quoted_value(vt vquote:V):M Fl :=
mc p c vt Qaq [] fun x2 =>
bnd (look (cmpV .Eq x2 vquote)) fun x3 =>
(if x3 then
mc p c vt Qag [(.str (Y "after attribute value (quoted)"))] fun x5 =>
ret (.next [(Qm,vt),(Qbp,vquote),(Qd,x2)])
else
bnd (look (cmpV .Eq x2 (.str (Y "&")))) fun x6 =>
(if x6 then
bnd (c a_begin_reference [vt]) fun x7 =>
ret (.next [(Qm,vt),(Qbp,vquote),(Qd,x2)])
else
bnd (look (cmpV .Eq x2 (.str Qab))) fun x8 =>
(if x8 then
mc p c vt Qaa [(.str Qcs)] fun x10 =>
bnd (attrV (P p) vt Qw) fun x11 =>
mc p c x11 Qby [(.str Qaz)] fun x13 =>
ret (.next [(Qm,vt),(Qbp,vquote),(Qd,x2)])
else
bnd (look (cmpV .Eq x2 (.str Qt))) fun x14 =>
(if x14 then
bnd (c a_cut_tag [vt]) fun x15 =>
ret (.next [(Qm,vt),(Qbp,vquote),(Qd,x2)])
else
bnd (attrV (P p) vt Qw) fun x16 =>
mc p c x16 Qby [x2] fun x18 =>
ret (.next [(Qm,vt),(Qbp,vquote),(Qd,x2)])))))
theorem Ugp(d:Nat)(vt vquote:V):callK (P p) (d+1) a_quoted_value [vt,vquote]=bnd (F_quoted_value p (callK (P p) d) vt vquote) unFl:=by kernel_rfl
noncomputable def F_double_quoted_state(p:Params)(c:CC)(vt:V):M Fl :=
bnd (c a_quoted_value [vt,(.str Qan)]) fun x1 =>
ret (.next [(Qm,vt)])
theorem Ucf(d:Nat)(vt:V):callK (P p) (d+1) a_double_quoted_state [vt]=bnd (F_double_quoted_state p (callK (P p) d) vt) unFl:=by kernel_rfl
noncomputable def F_single_quoted_state(p:Params)(c:CC)(vt:V):M Fl :=
bnd (c a_quoted_value [vt,(.str Qbb)]) fun x1 =>
ret (.next [(Qm,vt)])
theorem Uck(d:Nat)(vt:V):callK (P p) (d+1) a_single_quoted_state [vt]=bnd (F_single_quoted_state p (callK (P p) d) vt) unFl:=by kernel_rfl
def fd_unquoted_state:Fn:=fnAt (K p) [] a_unquoted_state
def sc_unquoted_state:Scope:=(fd_unquoted_state p).scope
def bo_unquoted_state:List Stmt:=(fd_unquoted_state p).body
def J_unquoted_state_0(fr:Fr):M Fl:=execK (P p) c (sc_unquoted_state p) 48 fr ((others (stAt (others (stAt (others (stAt (others (stAt (others (stAt (bo_unquoted_state p) 1)) 0)) 0)) 0)) 0)).drop 1) (fun fr=>ret (.next fr))
def J_unquoted_state_0_T0(vt vc:V):M Fl :=
bnd (attrV (P p) vt Qw) fun x22 =>
mc p c x22 Qby [vc] fun x24 =>
ret (.next [(Qm,vt),(Qd,vc)])
theorem Ub9(vt vc:V):J_unquoted_state_0 p c [(Qm,vt),(Qd,vc)]=J_unquoted_state_0_T0 p c vt vc:=by kernel_rfl
def F_unquoted_state(vt:V):M Fl :=
mc p c vt Qaq [] fun x2 =>
bnd (c a_is_blank [x2]) fun x3 =>
(match isT x3 with
| some x4=>(if x4 then
mc p c vt Qag [(.str Qcc)] fun x6 =>
ret (.next [(Qm,vt),(Qd,x2)])
else
bnd (look (cmpV .Eq x2 (.str (Y "&")))) fun x7 =>
(if x7 then
bnd (c a_begin_reference [vt]) fun x8 =>
ret (.next [(Qm,vt),(Qd,x2)])
else
bnd (look (cmpV .Eq x2 (.str Qar))) fun x9 =>
(if x9 then
bnd (c a_finish_tag [vt]) fun x10 =>
ret (.next [(Qm,vt),(Qd,x2)])
else
bnd (look (cmpV .Eq x2 (.str Qab))) fun x11 =>
(if x11 then
mc p c vt Qaa [(.str Qcs)] fun x13 =>
bnd (attrV (P p) vt Qw) fun x14 =>
mc p c x14 Qby [(.str Qaz)] fun x16 =>
ret (.next [(Qm,vt),(Qd,x2)])
else
bnd (look (cmpV .Eq x2 (.str Qt))) fun x17 =>
(if x17 then
bnd (c a_cut_tag [vt]) fun x18 =>
ret (.next [(Qm,vt),(Qd,x2)])
else
bnd (look (cmpV .In x2 (.tup [(.str Qan),(.str Qbb),(.str Qaf),(.str Qbd),(.str Qdf)]))) fun x19 =>
(if x19 then
mc p c vt Qaa [(.str (Y "unexpected-character-in-unquoted-attribute-value"))] fun x21 =>
J_unquoted_state_0 p c [(Qm,vt),(Qd,x2)]
else
J_unquoted_state_0 p c [(Qm,vt),(Qd,x2)]))))))
| none=>fail)
theorem Ufa(d:Nat)(vt:V):callK (P p) (d+1) a_unquoted_state [vt]=bnd (F_unquoted_state p (callK (P p) d) vt) unFl:=by kernel_rfl
def F_after_quoted_state(vt:V):M Fl :=
mc p c vt Qaq [] fun x2 =>
bnd (c a_is_blank [x2]) fun x3 =>
(match isT x3 with
| some x4=>(if x4 then
mc p c vt Qag [(.str Qcc)] fun x6 =>
ret (.next [(Qm,vt),(Qd,x2)])
else
bnd (look (cmpV .Eq x2 (.str Qy))) fun x7 =>
(if x7 then
mc p c vt Qag [(.str Qcr)] fun x9 =>
ret (.next [(Qm,vt),(Qd,x2)])
else
bnd (look (cmpV .Eq x2 (.str Qar))) fun x10 =>
(if x10 then
bnd (c a_finish_tag [vt]) fun x11 =>
ret (.next [(Qm,vt),(Qd,x2)])
else
bnd (look (cmpV .Eq x2 (.str Qt))) fun x12 =>
(if x12 then
bnd (c a_cut_tag [vt]) fun x13 =>
ret (.next [(Qm,vt),(Qd,x2)])
else
mc p c vt Qaa [(.str (Y "missing-whitespace-between-attributes"))] fun x15 =>
mc p c vt Qam [(.str Qcc)] fun x17 =>
ret (.next [(Qm,vt),(Qd,x2)])))))
| none=>fail)
theorem Ucv(d:Nat)(vt:V):callK (P p) (d+1) a_after_quoted_state [vt]=bnd (F_after_quoted_state p (callK (P p) d) vt) unFl:=by kernel_rfl
noncomputable def F_attr_states(p:Params)(c:CC):M Fl :=
bnd (newD 3 [(Qcc,(.fn a_before_attr_name_state)),(Qaj,(.fn a_attr_name_state)),(Qct,(.fn a_after_attr_name_state)),(Qde,(.fn a_before_attr_value_state)),(Y "attribute value (double-quoted)",(.fn a_double_quoted_state)),(Y "attribute value (single-quoted)",(.fn a_single_quoted_state)),(Y "attribute value (unquoted)",(.fn a_unquoted_state)),(Y "after attribute value (quoted)",(.fn a_after_quoted_state))]) fun x1 =>
ret (.ret x1)
theorem Ug6(d:Nat):callK (P p) (d+1) a_attr_states []=bnd (F_attr_states p (callK (P p) d) ) unFl:=by kernel_rfl
noncomputable def F_Stream_init(p:Params)(c:CC)(vself:V):M Fl :=
bnd (newL 7 []) fun x1 =>
bnd (setAttrV (P p) vself Qa x1) fun w0 =>
bnd (setAttrV (P p) vself Qbe (.bool false)) fun w0 =>
bnd (setAttrV (P p) vself Qaw (.bool false)) fun w0 =>
bnd (newL 8 []) fun x2 =>
bnd (setAttrV (P p) vself Qb x2) fun w0 =>
ret (.next [(Qc,vself)])
theorem Uhj(d:Nat)(vself:V):callK (P p) (d+1) a_Stream_init [vself]=bnd (F_Stream_init p (callK (P p) d) vself) unFl:=by kernel_rfl
def fd_Stream_feed:Fn:=fnAt (K p) [] a_Stream_feed
def sc_Stream_feed:Scope:=(fd_Stream_feed p).scope
def bo_Stream_feed:List Stmt:=(fd_Stream_feed p).body
def st_Stream_feed_l0:Stmt:=(stAt (bo_Stream_feed p) 1)
def J_Stream_feed_0(fr:Fr):M Fl:=execK (P p) c (sc_Stream_feed p) 59 fr ((bo_Stream_feed p).drop 1) (fun fr=>ret (.next fr))
def J_Stream_feed_1(fr:Fr):M Fl:=execK (P p) c (sc_Stream_feed p) 58 fr ((bo_Stream_feed p).drop 2) (fun fr=>ret (.next fr))
def J_Stream_feed_2(fr:Fr):M Fl:=execK (P p) c (sc_Stream_feed p) 56 fr ((inner (st_Stream_feed_l0 p)).drop 1) (fun fr=>ret (.next fr))
def J_Stream_feed_3(fr:Fr):M Fl:=execK (P p) c (sc_Stream_feed p) 51 fr ((inner (stAt (others (stAt (inner (st_Stream_feed_l0 p)) 0)) 0)).drop 2) (J_Stream_feed_2 p c)
def J_Stream_feed_0_T0(vself vtext:V):M Fl :=
bnd (loopF vtext (setL (sc_Stream_feed p) Qd) (turnL (P p) c (sc_Stream_feed p) 57 (st_Stream_feed_l0 p)) 5000 0 [(Qc,vself),(Qk,vtext)]) (goOn (J_Stream_feed_1 p c))
theorem Udb(vself vtext:V):J_Stream_feed_0 p c [(Qc,vself),(Qk,vtext)]=J_Stream_feed_0_T0 p c vself vtext:=by kernel_rfl
def T_Stream_feed_l0_0(vself vtext vc:V):M Fl :=
bnd (look (cmpV .Eq vc (.str Qdg))) fun x3 =>
(if x3 then
bnd (attrV (P p) vself Qa) fun x4 =>
mc p c x4 Qv [(.str Qbj)] fun x6 =>
J_Stream_feed_2 p c [(Qc,vself),(Qk,vtext),(Qd,vc)]
else
bnd (look (cmpV .NotEq vc (.str Qbj))) fun x7 =>
(cond x7
(bnd (builtinV .ord [vc]) fun x8 =>
bnd (c a_input_error [x8]) fun x9 =>
bnd (look (cmpV .NotEq x9 (.str Qt))) fun x10 =>
(if x10 then
bnd (attrV (P p) vself Qb) fun x11 =>
bnd (look (methK (P p) x11 Qv)) fun x12 =>
if isRepl x12 then fail else bnd (attrV (P p) vself Qa) fun x13 =>
bnd (builtinV .len [x13]) fun x14 =>
bnd (methodV c x12 x11 [(.tup [x9,x14])]) fun x15 =>
J_Stream_feed_3 p c [(Qc,vself),(Qk,vtext),(Qd,vc),(Qz,x9)]
else
J_Stream_feed_3 p c [(Qc,vself),(Qk,vtext),(Qd,vc),(Qz,x9)]))
(bnd (attrV (P p) vself Qaw) fun x16 =>
(match isT x16 with
| some x17=>(cond (!x17)
(bnd (builtinV .ord [vc]) fun x18 =>
bnd (c a_input_error [x18]) fun x19 =>
bnd (look (cmpV .NotEq x19 (.str Qt))) fun x20 =>
(if x20 then
bnd (attrV (P p) vself Qb) fun x21 =>
bnd (look (methK (P p) x21 Qv)) fun x22 =>
if isRepl x22 then fail else bnd (attrV (P p) vself Qa) fun x23 =>
bnd (builtinV .len [x23]) fun x24 =>
bnd (methodV c x22 x21 [(.tup [x19,x24])]) fun x25 =>
J_Stream_feed_3 p c [(Qc,vself),(Qk,vtext),(Qd,vc),(Qz,x19)]
else
J_Stream_feed_3 p c [(Qc,vself),(Qk,vtext),(Qd,vc),(Qz,x19)]))
(J_Stream_feed_2 p c [(Qc,vself),(Qk,vtext),(Qd,vc)]))
| none=>fail))))
theorem Uaz(vself vtext vc:V):turnL (P p) c (sc_Stream_feed p) 57 (st_Stream_feed_l0 p) [(Qc,vself),(Qk,vtext),(Qd,vc)]=T_Stream_feed_l0_0 p c vself vtext vc:=by kernel_rfl
def T_Stream_feed_l0_1(vself vtext vc vcode:V):M Fl :=
bnd (look (cmpV .Eq vc (.str Qdg))) fun x26 =>
(if x26 then
bnd (attrV (P p) vself Qa) fun x27 =>
mc p c x27 Qv [(.str Qbj)] fun x29 =>
J_Stream_feed_2 p c [(Qc,vself),(Qk,vtext),(Qd,vc),(Qz,vcode)]
else
bnd (look (cmpV .NotEq vc (.str Qbj))) fun x30 =>
(cond x30
(bnd (builtinV .ord [vc]) fun x31 =>
bnd (c a_input_error [x31]) fun x32 =>
bnd (look (cmpV .NotEq x32 (.str Qt))) fun x33 =>
(if x33 then
bnd (attrV (P p) vself Qb) fun x34 =>
bnd (look (methK (P p) x34 Qv)) fun x35 =>
if isRepl x35 then fail else bnd (attrV (P p) vself Qa) fun x36 =>
bnd (builtinV .len [x36]) fun x37 =>
bnd (methodV c x35 x34 [(.tup [x32,x37])]) fun x38 =>
J_Stream_feed_3 p c [(Qc,vself),(Qk,vtext),(Qd,vc),(Qz,x32)]
else
J_Stream_feed_3 p c [(Qc,vself),(Qk,vtext),(Qd,vc),(Qz,x32)]))
(bnd (attrV (P p) vself Qaw) fun x39 =>
(match isT x39 with
| some x40=>(cond (!x40)
(bnd (builtinV .ord [vc]) fun x41 =>
bnd (c a_input_error [x41]) fun x42 =>
bnd (look (cmpV .NotEq x42 (.str Qt))) fun x43 =>
(if x43 then
bnd (attrV (P p) vself Qb) fun x44 =>
bnd (look (methK (P p) x44 Qv)) fun x45 =>
if isRepl x45 then fail else bnd (attrV (P p) vself Qa) fun x46 =>
bnd (builtinV .len [x46]) fun x47 =>
bnd (methodV c x45 x44 [(.tup [x42,x47])]) fun x48 =>
J_Stream_feed_3 p c [(Qc,vself),(Qk,vtext),(Qd,vc),(Qz,x42)]
else
J_Stream_feed_3 p c [(Qc,vself),(Qk,vtext),(Qd,vc),(Qz,x42)]))
(J_Stream_feed_2 p c [(Qc,vself),(Qk,vtext),(Qd,vc),(Qz,vcode)]))
| none=>fail))))
theorem Ucg(vself vtext vc vcode:V):turnL (P p) c (sc_Stream_feed p) 57 (st_Stream_feed_l0 p) [(Qc,vself),(Qk,vtext),(Qd,vc),(Qz,vcode)]=T_Stream_feed_l0_1 p c vself vtext vc vcode:=by kernel_rfl
noncomputable def J_Stream_feed_1_T0(p:Params)(c:CC)(vself vtext:V):M Fl :=
ret (.next [(Qc,vself),(Qk,vtext)])
theorem Uc7(vself vtext:V):J_Stream_feed_1 p c [(Qc,vself),(Qk,vtext)]=J_Stream_feed_1_T0 p c vself vtext:=by kernel_rfl
noncomputable def J_Stream_feed_1_T1(p:Params)(c:CC)(vself vtext vc:V):M Fl :=
ret (.next [(Qc,vself),(Qk,vtext),(Qd,vc)])
theorem Ucz(vself vtext vc:V):J_Stream_feed_1 p c [(Qc,vself),(Qk,vtext),(Qd,vc)]=J_Stream_feed_1_T1 p c vself vtext vc:=by kernel_rfl
noncomputable def J_Stream_feed_1_T2(p:Params)(c:CC)(vself vtext vc vcode:V):M Fl :=
ret (.next [(Qc,vself),(Qk,vtext),(Qd,vc),(Qz,vcode)])
theorem Ucy(vself vtext vc vcode:V):J_Stream_feed_1 p c [(Qc,vself),(Qk,vtext),(Qd,vc),(Qz,vcode)]=J_Stream_feed_1_T2 p c vself vtext vc vcode:=by kernel_rfl
noncomputable def J_Stream_feed_2_T0(p:Params)(c:CC)(vself vtext vc:V):M Fl :=
bnd (look (cmpV .Eq vc (.str Qdg))) fun x49 =>
bnd (setAttrV (P p) vself Qaw (.bool x49)) fun w0 =>
ret (.next [(Qc,vself),(Qk,vtext),(Qd,vc)])
theorem Udc(vself vtext vc:V):J_Stream_feed_2 p c [(Qc,vself),(Qk,vtext),(Qd,vc)]=J_Stream_feed_2_T0 p c vself vtext vc:=by kernel_rfl
noncomputable def J_Stream_feed_2_T1(p:Params)(c:CC)(vself vtext vc vcode:V):M Fl :=
bnd (look (cmpV .Eq vc (.str Qdg))) fun x50 =>
bnd (setAttrV (P p) vself Qaw (.bool x50)) fun w0 =>
ret (.next [(Qc,vself),(Qk,vtext),(Qd,vc),(Qz,vcode)])
theorem Uc1(vself vtext vc vcode:V):J_Stream_feed_2 p c [(Qc,vself),(Qk,vtext),(Qd,vc),(Qz,vcode)]=J_Stream_feed_2_T1 p c vself vtext vc vcode:=by kernel_rfl
def J_Stream_feed_3_T0(vself vtext vc vcode:V):M Fl :=
bnd (attrV (P p) vself Qa) fun x51 =>
mc p c x51 Qv [vc] fun x53 =>
J_Stream_feed_2 p c [(Qc,vself),(Qk,vtext),(Qd,vc),(Qz,vcode)]
theorem Udg(vself vtext vc vcode:V):J_Stream_feed_3 p c [(Qc,vself),(Qk,vtext),(Qd,vc),(Qz,vcode)]=J_Stream_feed_3_T0 p c vself vtext vc vcode:=by kernel_rfl
def F_Stream_feed(vself vtext:V):M Fl :=
bnd (attrV (P p) vself Qbe) fun x1 =>
(match isT x1 with
| some x2=>(if x2 then
fail
else
J_Stream_feed_0 p c [(Qc,vself),(Qk,vtext)])
| none=>fail)
theorem Uht(d:Nat)(vself vtext:V):callK (P p) (d+1) a_Stream_feed [vself,vtext]=bnd (F_Stream_feed p (callK (P p) d) vself vtext) unFl:=by kernel_rfl
def F_Tokenizer_init(vself vstates vstate vlast:V):M Fl :=
bnd (setAttrV (P p) vself Qax vstates) fun w0 =>
bnd (applyV (P p) c (.fn c_Stream) []) fun x1 =>
bnd (setAttrV (P p) vself Qbq x1) fun w0 =>
bnd (setAttrV (P p) vself Qao (.int 0)) fun w0 =>
bnd (setAttrV (P p) vself Qap vstate) fun w0 =>
bnd (setAttrV (P p) vself Qdd (.str Qbi)) fun w0 =>
bnd (newL 9 []) fun x2 =>
bnd (setAttrV (P p) vself Qad x2) fun w0 =>
bnd (newL 10 []) fun x3 =>
bnd (setAttrV (P p) vself Qb x3) fun w0 =>
bnd (setAttrV (P p) vself Qw .none) fun w0 =>
bnd (setAttrV (P p) vself (Y "buffer") (.str Qt)) fun w0 =>
bnd (setAttrV (P p) vself Qz (.int 0)) fun w0 =>
bnd (setAttrV (P p) vself Qal vlast) fun w0 =>
bnd (setAttrV (P p) vself (Y "is_foreign") (.bool false)) fun w0 =>
bnd (setAttrV (P p) vself Qbr (.bool false)) fun w0 =>
bnd (setAttrV (P p) vself Qcd (.bool false)) fun w0 =>
ret (.next [(Qc,vself),(Qax,vstates),(Qap,vstate),(Qal,vlast)])
theorem Ufn(d:Nat)(vself vstates vstate vlast:V):callK (P p) (d+1) a_Tokenizer_init [vself,vstates,vstate,vlast]=bnd (F_Tokenizer_init p (callK (P p) d) vself vstates vstate vlast) unFl:=by kernel_rfl
def F_Tokenizer_feed(vself vtext:V):M Fl :=
bnd (attrV (P p) vself Qbq) fun x1 =>
mc p c x1 Qci [vtext] fun x3 =>
bnd (setAttrV (P p) vself Qbr (.bool false)) fun w0 =>
ret (.next [(Qc,vself),(Qk,vtext)])
theorem Ue3(d:Nat)(vself vtext:V):callK (P p) (d+1) a_Tokenizer_feed [vself,vtext]=bnd (F_Tokenizer_feed p (callK (P p) d) vself vtext) unFl:=by kernel_rfl
def fd_Tokenizer_next:Fn:=fnAt (K p) [] a_Tokenizer_next
def sc_Tokenizer_next:Scope:=(fd_Tokenizer_next p).scope
def bo_Tokenizer_next:List Stmt:=(fd_Tokenizer_next p).body
def J_Tokenizer_next_0(fr:Fr):M Fl:=execK (P p) c (sc_Tokenizer_next p) 57 fr ((bo_Tokenizer_next p).drop 3) (fun fr=>ret (.next fr))
noncomputable def J_Tokenizer_next_0_T0(p:Params)(c:CC)(vself vat:V):M Fl :=
ret (.ret (.str Qt))
theorem Uca(vself vat:V):J_Tokenizer_next_0 p c [(Qc,vself),(Qao,vat)]=J_Tokenizer_next_0_T0 p c vself vat:=by kernel_rfl
def F_Tokenizer_next(vself:V):M Fl :=
bnd (attrV (P p) vself Qao) fun x1 =>
bnd (look (binV .Add x1 (.int 1))) fun x2 =>
bnd (setAttrV (P p) vself Qao x2) fun w0 =>
bnd (attrV (P p) vself Qbq) fun x3 =>
bnd (attrV (P p) x3 Qa) fun x4 =>
bnd (builtinV .len [x4]) fun x5 =>
bnd (look (cmpV .Lt x1 x5)) fun x6 =>
(if x6 then
bnd (attrV (P p) vself Qbq) fun x7 =>
bnd (attrV (P p) x7 Qa) fun x8 =>
bnd (look (itemV x8 x1)) fun x9 =>
ret (.ret x9)
else
J_Tokenizer_next_0 p c [(Qc,vself),(Qao,x1)])
theorem Uen(d:Nat)(vself:V):callK (P p) (d+1) a_Tokenizer_next [vself]=bnd (F_Tokenizer_next p (callK (P p) d) vself) unFl:=by kernel_rfl
noncomputable def F_Tokenizer_to(p:Params)(c:CC)(vself vstate:V):M Fl :=
bnd (setAttrV (P p) vself Qap vstate) fun w0 =>
ret (.next [(Qc,vself),(Qap,vstate)])
theorem Ugu(d:Nat)(vself vstate:V):callK (P p) (d+1) a_Tokenizer_to [vself,vstate]=bnd (F_Tokenizer_to p (callK (P p) d) vself vstate) unFl:=by kernel_rfl
noncomputable def F_Tokenizer_again(p:Params)(c:CC)(vself vstate:V):M Fl :=
bnd (attrV (P p) vself Qao) fun x1 =>
bnd (look (augV .Sub x1 (.int 1))) fun x2 =>
bnd (setAttrV (P p) vself Qao x2) fun w0 =>
bnd (setAttrV (P p) vself Qap vstate) fun w0 =>
ret (.next [(Qc,vself),(Qap,vstate)])
theorem Ueb(d:Nat)(vself vstate:V):callK (P p) (d+1) a_Tokenizer_again [vself,vstate]=bnd (F_Tokenizer_again p (callK (P p) d) vself vstate) unFl:=by kernel_rfl
def F_Tokenizer_error(vself vcode:V):M Fl :=
bnd (attrV (P p) vself Qb) fun x1 =>
bnd (look (methK (P p) x1 Qv)) fun x2 =>
if isRepl x2 then fail else bnd (attrV (P p) vself Qao) fun x3 =>
bnd (look (binV .Sub x3 (.int 1))) fun x4 =>
bnd (methodV c x2 x1 [(.tup [vcode,x4])]) fun x5 =>
ret (.next [(Qc,vself),(Qz,vcode)])
theorem Uef(d:Nat)(vself vcode:V):callK (P p) (d+1) a_Tokenizer_error [vself,vcode]=bnd (F_Tokenizer_error p (callK (P p) d) vself vcode) unFl:=by kernel_rfl
def fd_Tokenizer_emit:Fn:=fnAt (K p) [] a_Tokenizer_emit
def sc_Tokenizer_emit:Scope:=(fd_Tokenizer_emit p).scope
def bo_Tokenizer_emit:List Stmt:=(fd_Tokenizer_emit p).body
def J_Tokenizer_emit_0(fr:Fr):M Fl:=execK (P p) c (sc_Tokenizer_emit p) 59 fr ((bo_Tokenizer_emit p).drop 1) (fun fr=>ret (.next fr))
def J_Tokenizer_emit_0_T0(vself vtoken:V):M Fl :=
bnd (attrV (P p) vself Qad) fun x4 =>
mc p c x4 Qv [vtoken] fun x6 =>
ret (.next [(Qc,vself),(Qbc,vtoken)])
theorem Uav(vself vtoken:V):J_Tokenizer_emit_0 p c [(Qc,vself),(Qbc,vtoken)]=J_Tokenizer_emit_0_T0 p c vself vtoken:=by kernel_rfl
def F_Tokenizer_emit(vself vtoken:V):M Fl :=
bnd (look (itemV vtoken (.int 0))) fun x1 =>
bnd (look (cmpV .Eq x1 (.str Qbo))) fun x2 =>
(if x2 then
bnd (look (itemV vtoken (.int 1))) fun x3 =>
bnd (setAttrV (P p) vself Qal x3) fun w0 =>
J_Tokenizer_emit_0 p c [(Qc,vself),(Qbc,vtoken)]
else
J_Tokenizer_emit_0 p c [(Qc,vself),(Qbc,vtoken)])
theorem Uew(d:Nat)(vself vtoken:V):callK (P p) (d+1) a_Tokenizer_emit [vself,vtoken]=bnd (F_Tokenizer_emit p (callK (P p) d) vself vtoken) unFl:=by kernel_rfl
def F_Tokenizer_emit_sign(vself vsign:V):M Fl :=
bnd (attrV (P p) vself Qad) fun x1 =>
mc p c x1 Qv [(.tup [(.str (Y "char")),vsign])] fun x3 =>
ret (.next [(Qc,vself),(Qx,vsign)])
theorem Uci(d:Nat)(vself vsign:V):callK (P p) (d+1) a_Tokenizer_emit_sign [vself,vsign]=bnd (F_Tokenizer_emit_sign p (callK (P p) d) vself vsign) unFl:=by kernel_rfl
def fd_Tokenizer_emit_text:Fn:=fnAt (K p) [] a_Tokenizer_emit_text
def sc_Tokenizer_emit_text:Scope:=(fd_Tokenizer_emit_text p).scope
def bo_Tokenizer_emit_text:List Stmt:=(fd_Tokenizer_emit_text p).body
def st_Tokenizer_emit_text_l0:Stmt:=(stAt (bo_Tokenizer_emit_text p) 0)
def J_Tokenizer_emit_text_0(fr:Fr):M Fl:=execK (P p) c (sc_Tokenizer_emit_text p) 59 fr ((bo_Tokenizer_emit_text p).drop 1) (fun fr=>ret (.next fr))
def T_Tokenizer_emit_text_l0_0(vself vtext vsign:V):M Fl :=
bnd (attrV (P p) vself Qad) fun x1 =>
mc p c x1 Qv [(.tup [(.str (Y "char")),vsign])] fun x3 =>
ret (.next [(Qc,vself),(Qk,vtext),(Qx,vsign)])
theorem Ua1(vself vtext vsign:V):turnL (P p) c (sc_Tokenizer_emit_text p) 58 (st_Tokenizer_emit_text_l0 p) [(Qc,vself),(Qk,vtext),(Qx,vsign)]=T_Tokenizer_emit_text_l0_0 p c vself vtext vsign:=by kernel_rfl
noncomputable def J_Tokenizer_emit_text_0_T0(p:Params)(c:CC)(vself vtext:V):M Fl :=
ret (.next [(Qc,vself),(Qk,vtext)])
theorem Ubb(vself vtext:V):J_Tokenizer_emit_text_0 p c [(Qc,vself),(Qk,vtext)]=J_Tokenizer_emit_text_0_T0 p c vself vtext:=by kernel_rfl
noncomputable def J_Tokenizer_emit_text_0_T1(p:Params)(c:CC)(vself vtext vsign:V):M Fl :=
ret (.next [(Qc,vself),(Qk,vtext),(Qx,vsign)])
theorem Ubc(vself vtext vsign:V):J_Tokenizer_emit_text_0 p c [(Qc,vself),(Qk,vtext),(Qx,vsign)]=J_Tokenizer_emit_text_0_T1 p c vself vtext vsign:=by kernel_rfl
def F_Tokenizer_emit_text(vself vtext:V):M Fl :=
bnd (loopF vtext (setL (sc_Tokenizer_emit_text p) Qx) (turnL (P p) c (sc_Tokenizer_emit_text p) 58 (st_Tokenizer_emit_text_l0 p)) 5000 0 [(Qc,vself),(Qk,vtext)]) (goOn (J_Tokenizer_emit_text_0 p c))
theorem Uch(d:Nat)(vself vtext:V):callK (P p) (d+1) a_Tokenizer_emit_text [vself,vtext]=bnd (F_Tokenizer_emit_text p (callK (P p) d) vself vtext) unFl:=by kernel_rfl
def fd_Tokenizer_emit_draft:Fn:=fnAt (K p) [] a_Tokenizer_emit_draft
def sc_Tokenizer_emit_draft:Scope:=(fd_Tokenizer_emit_draft p).scope
def bo_Tokenizer_emit_draft:List Stmt:=(fd_Tokenizer_emit_draft p).body
def J_Tokenizer_emit_draft_0(fr:Fr):M Fl:=execK (P p) c (sc_Tokenizer_emit_draft p) 58 fr ((bo_Tokenizer_emit_draft p).drop 2) (fun fr=>ret (.next fr))
def J_Tokenizer_emit_draft_1(fr:Fr):M Fl:=execK (P p) c (sc_Tokenizer_emit_draft p) 56 fr ((inner (stAt (bo_Tokenizer_emit_draft p) 1)).drop 1) (J_Tokenizer_emit_draft_0 p c)
def J_Tokenizer_emit_draft_0_T0(vself vdraft:V):M Fl :=
bnd (setAttrV (P p) vself Qw .none) fun w0 =>
bnd (look (methK (P p) vself (Y "emit"))) fun x9 =>
if isRepl x9 then fail else mc p c vdraft Qbc [] fun x11 =>
bnd (methodV c x9 vself [x11]) fun x12 =>
ret (.next [(Qc,vself),(Qw,vdraft)])
theorem Ua8(vself vdraft:V):J_Tokenizer_emit_draft_0 p c [(Qc,vself),(Qw,vdraft)]=J_Tokenizer_emit_draft_0_T0 p c vself vdraft:=by kernel_rfl
def J_Tokenizer_emit_draft_1_T0(vself vdraft:V):M Fl :=
bnd (attrV (P p) vdraft Qs) fun x13 =>
(match isT x13 with
| some x14=>(if x14 then
mc p c vself Qaa [(.str Qcv)] fun x16 =>
J_Tokenizer_emit_draft_0 p c [(Qc,vself),(Qw,vdraft)]
else
J_Tokenizer_emit_draft_0 p c [(Qc,vself),(Qw,vdraft)])
| none=>fail)
theorem Ua9(vself vdraft:V):J_Tokenizer_emit_draft_1 p c [(Qc,vself),(Qw,vdraft)]=J_Tokenizer_emit_draft_1_T0 p c vself vdraft:=by kernel_rfl
def F_Tokenizer_emit_draft(vself:V):M Fl :=
bnd (attrV (P p) vself Qw) fun x1 =>
bnd (attrV (P p) x1 Ql) fun x2 =>
bnd (look (cmpV .Eq x2 (.str Qh))) fun x3 =>
(if x3 then
bnd (attrV (P p) x1 Qe) fun x4 =>
bnd (builtinV .len [x4]) fun x5 =>
bnd (look (cmpV .Gt x5 (.int 0))) fun x6 =>
(if x6 then
mc p c vself Qaa [(.str Qcw)] fun x8 =>
J_Tokenizer_emit_draft_1 p c [(Qc,vself),(Qw,x1)]
else
J_Tokenizer_emit_draft_1 p c [(Qc,vself),(Qw,x1)])
else
J_Tokenizer_emit_draft_0 p c [(Qc,vself),(Qw,x1)])
theorem Ub6(d:Nat)(vself:V):callK (P p) (d+1) a_Tokenizer_emit_draft [vself]=bnd (F_Tokenizer_emit_draft p (callK (P p) d) vself) unFl:=by kernel_rfl
def F_Tokenizer_emit_eof(vself:V):M Fl :=
bnd (attrV (P p) vself Qad) fun x1 =>
mc p c x1 Qv [(.tup [(.str (Y "eof"))])] fun x3 =>
bnd (setAttrV (P p) vself Qcd (.bool true)) fun w0 =>
ret (.next [(Qc,vself)])
theorem Ucs(d:Nat)(vself:V):callK (P p) (d+1) a_Tokenizer_emit_eof [vself]=bnd (F_Tokenizer_emit_eof p (callK (P p) d) vself) unFl:=by kernel_rfl
def fd_Tokenizer_step:Fn:=fnAt (K p) [] a_Tokenizer_step
def sc_Tokenizer_step:Scope:=(fd_Tokenizer_step p).scope
def bo_Tokenizer_step:List Stmt:=(fd_Tokenizer_step p).body
def J_Tokenizer_step_0(fr:Fr):M Fl:=execK (P p) c (sc_Tokenizer_step p) 59 fr ((bo_Tokenizer_step p).drop 1) (fun fr=>ret (.next fr))
def J_Tokenizer_step_0_T0(vself:V):M Fl :=
bnd (setAttrV (P p) vself Qbr (.bool false)) fun w0 =>
bnd (attrV (P p) vself Qao) fun x4 =>
bnd (attrV (P p) vself Qax) fun x5 =>
bnd (attrV (P p) vself Qap) fun x6 =>
bnd (look (itemV x5 x6)) fun x7 =>
bnd (applyV (P p) c x7 [vself]) fun x8 =>
bnd (attrV (P p) vself Qbr) fun x9 =>
(match isT x9 with
| some x10=>(if x10 then
bnd (setAttrV (P p) vself Qao x4) fun w0 =>
ret (.next [(Qc,vself),(Y "begun",x4),(Y "rule",x7)])
else
ret (.next [(Qc,vself),(Y "begun",x4),(Y "rule",x7)]))
| none=>fail)
theorem Ub8(vself:V):J_Tokenizer_step_0 p c [(Qc,vself)]=J_Tokenizer_step_0_T0 p c vself:=by kernel_rfl
def F_Tokenizer_step(vself:V):M Fl :=
bnd (attrV (P p) vself Qap) fun x1 =>
bnd (attrV (P p) vself Qax) fun x2 =>
bnd (look (cmpV .NotIn x1 x2)) fun x3 =>
(if x3 then
fail
else
J_Tokenizer_step_0 p c [(Qc,vself)])
theorem Ue0(d:Nat)(vself:V):callK (P p) (d+1) a_Tokenizer_step [vself]=bnd (F_Tokenizer_step p (callK (P p) d) vself) unFl:=by kernel_rfl
def fd_Tokenizer_is_ready:Fn:=fnAt (K p) [] a_Tokenizer_is_ready
def sc_Tokenizer_is_ready:Scope:=(fd_Tokenizer_is_ready p).scope
def bo_Tokenizer_is_ready:List Stmt:=(fd_Tokenizer_is_ready p).body
def J_Tokenizer_is_ready_0(fr:Fr):M Fl:=execK (P p) c (sc_Tokenizer_is_ready p) 59 fr ((bo_Tokenizer_is_ready p).drop 1) (fun fr=>ret (.next fr))
noncomputable def J_Tokenizer_is_ready_0_T0(p:Params)(c:CC)(vself:V):M Fl :=
bnd (attrV (P p) vself Qbq) fun x8 =>
bnd (attrV (P p) x8 Qbe) fun x9 =>
(match isT x9 with
| some x10=>(cond x10
(ret (.ret x9))
(bnd (attrV (P p) vself Qao) fun x11 =>
bnd (attrV (P p) vself Qbq) fun x12 =>
bnd (attrV (P p) x12 Qa) fun x13 =>
bnd (builtinV .len [x13]) fun x14 =>
bnd (look (cmpV .Lt x11 x14)) fun x15 =>
ret (.ret (.bool x15))))
| none=>fail)
theorem Ubi(vself:V):J_Tokenizer_is_ready_0 p c [(Qc,vself)]=J_Tokenizer_is_ready_0_T0 p c vself:=by kernel_rfl
def F_Tokenizer_is_ready(vself:V):M Fl :=
bnd (attrV (P p) vself Qcd) fun x1 =>
(match isT x1 with
| some x2=>(cond x2
(ret (.ret (.bool false)))
(bnd (attrV (P p) vself Qbr) fun x3 =>
(match isT x3 with
| some x4=>(cond x4
(ret (.ret (.bool false)))
(bnd (attrV (P p) vself Qap) fun x5 =>
bnd (attrV (P p) vself Qax) fun x6 =>
bnd (look (cmpV .NotIn x5 x6)) fun x7 =>
(cond x7
(ret (.ret (.bool false)))
(J_Tokenizer_is_ready_0 p c [(Qc,vself)]))))
| none=>fail)))
| none=>fail)
theorem Uct(d:Nat)(vself:V):callK (P p) (d+1) a_Tokenizer_is_ready [vself]=bnd (F_Tokenizer_is_ready p (callK (P p) d) vself) unFl:=by kernel_rfl
def fd_Tokenizer_run:Fn:=fnAt (K p) [] a_Tokenizer_run
def sc_Tokenizer_run:Scope:=(fd_Tokenizer_run p).scope
def bo_Tokenizer_run:List Stmt:=(fd_Tokenizer_run p).body
def st_Tokenizer_run_l0:Stmt:=(stAt (bo_Tokenizer_run p) 0)
def J_Tokenizer_run_0(fr:Fr):M Fl:=execK (P p) c (sc_Tokenizer_run p) 59 fr ((bo_Tokenizer_run p).drop 1) (fun fr=>ret (.next fr))
def T_Tokenizer_run_l0_0(vself:V):M Fl :=
mc p c vself (Y "step") [] fun x2 =>
ret (.next [(Qc,vself)])
theorem Ubz(vself:V):turnL (P p) c (sc_Tokenizer_run p) 58 (st_Tokenizer_run_l0 p) [(Qc,vself)]=T_Tokenizer_run_l0_0 p c vself:=by kernel_rfl
def Q_Tokenizer_run_l0_0(vself:V):M Bool :=
bnd (mc p c vself Qda [] fun x4 =>
(match isT x4 with
| some x5=>ret (.ret (.bool x5))
| none=>fail)) unB
theorem Ub0(vself:V):testL (P p) c (sc_Tokenizer_run p) 58 (st_Tokenizer_run_l0 p) [(Qc,vself)]=Q_Tokenizer_run_l0_0 p c vself:=by kernel_rfl
noncomputable def J_Tokenizer_run_0_T0(p:Params)(c:CC)(vself:V):M Fl :=
bnd (attrV (P p) vself Qcd) fun x6 =>
ret (.ret x6)
theorem Ucl(vself:V):J_Tokenizer_run_0 p c [(Qc,vself)]=J_Tokenizer_run_0_T0 p c vself:=by kernel_rfl
def F_Tokenizer_run(vself:V):M Fl :=
bnd (loopW (testL (P p) c (sc_Tokenizer_run p) 58 (st_Tokenizer_run_l0 p)) (turnL (P p) c (sc_Tokenizer_run p) 58 (st_Tokenizer_run_l0 p)) 5000 [(Qc,vself)]) (goOn (J_Tokenizer_run_0 p c))
theorem Uf1(d:Nat)(vself:V):callK (P p) (d+1) a_Tokenizer_run [vself]=bnd (F_Tokenizer_run p (callK (P p) d) vself) unFl:=by kernel_rfl
noncomputable def F__law_number(p:Params)(c:CC)(vscript vplace:V):M Fl :=
bnd (builtinV .len [vscript]) fun x1 =>
bnd (look (cmpV .Lt vplace x1)) fun x2 =>
(if x2 then
bnd (look (itemV vscript vplace)) fun x3 =>
bnd (look (binV .Mod x3 (.int 1000000007))) fun x4 =>
ret (.ret x4)
else
bnd (look (binV .Mult (.int 37) vplace)) fun x5 =>
bnd (look (binV .Mod x5 (.int 1000000007))) fun x6 =>
ret (.ret x6))
theorem Ug3(d:Nat)(vscript vplace:V):callK (P p) (d+1) a__law_number [vscript,vplace]=bnd (F__law_number p (callK (P p) d) vscript vplace) unFl:=by kernel_rfl
def fd__law_drawn:Fn:=fnAt (K p) [] a__law_drawn
def sc__law_drawn:Scope:=(fd__law_drawn p).scope
def bo__law_drawn:List Stmt:=(fd__law_drawn p).body
def st__law_drawn_l0:Stmt:=(stAt (bo__law_drawn p) 1)
def J__law_drawn_0(fr:Fr):M Fl:=execK (P p) c (sc__law_drawn p) 58 fr ((bo__law_drawn p).drop 2) (fun fr=>ret (.next fr))
def T__law_drawn_l0_0(vnumber vpool vmany vout vk:V):M Fl :=
bnd (look (methK (P p) vout Qv)) fun x3 =>
if isRepl x3 then fail else bnd (builtinV .len [vpool]) fun x4 =>
bnd (look (binV .Mod vnumber x4)) fun x5 =>
bnd (look (itemV vpool x5)) fun x6 =>
bnd (methodV c x3 vout [x6]) fun x7 =>
bnd (builtinV .len [vpool]) fun x8 =>
bnd (look (binV .FloorDiv vnumber x8)) fun x9 =>
ret (.next [(Qae,x9),(Qr,vpool),(Qbf,vmany),(Qad,vout),(Qn,vk)])
theorem Ucu(vnumber vpool vmany vout vk:V):turnL (P p) c (sc__law_drawn p) 57 (st__law_drawn_l0 p) [(Qae,vnumber),(Qr,vpool),(Qbf,vmany),(Qad,vout),(Qn,vk)]=T__law_drawn_l0_0 p c vnumber vpool vmany vout vk:=by kernel_rfl
noncomputable def J__law_drawn_0_T0(p:Params)(c:CC)(vnumber vpool vmany vout:V):M Fl :=
ret (.ret vout)
theorem Udr(vnumber vpool vmany vout:V):J__law_drawn_0 p c [(Qae,vnumber),(Qr,vpool),(Qbf,vmany),(Qad,vout)]=J__law_drawn_0_T0 p c vnumber vpool vmany vout:=by kernel_rfl
noncomputable def J__law_drawn_0_T1(p:Params)(c:CC)(vnumber vpool vmany vout vk:V):M Fl :=
ret (.ret vout)
theorem Udk(vnumber vpool vmany vout vk:V):J__law_drawn_0 p c [(Qae,vnumber),(Qr,vpool),(Qbf,vmany),(Qad,vout),(Qn,vk)]=J__law_drawn_0_T1 p c vnumber vpool vmany vout vk:=by kernel_rfl
def F__law_drawn(vnumber vpool vmany:V):M Fl :=
bnd (newL 14 []) fun x1 =>
bnd (builtinV .range [vmany]) fun x2 =>
bnd (loopF x2 (setL (sc__law_drawn p) Qn) (turnL (P p) c (sc__law_drawn p) 57 (st__law_drawn_l0 p)) 5000 0 [(Qae,vnumber),(Qr,vpool),(Qbf,vmany),(Qad,x1)]) (goOn (J__law_drawn_0 p c))
theorem Uio(d:Nat)(vnumber vpool vmany:V):callK (P p) (d+1) a__law_drawn [vnumber,vpool,vmany]=bnd (F__law_drawn p (callK (P p) d) vnumber vpool vmany) unFl:=by kernel_rfl
def fd__law_cased:Fn:=fnAt (K p) [] a__law_cased
def sc__law_cased:Scope:=(fd__law_cased p).scope
def bo__law_cased:List Stmt:=(fd__law_cased p).body
def st__law_cased_l0:Stmt:=(stAt (bo__law_cased p) 3)
def J__law_cased_0(fr:Fr):M Fl:=execK (P p) c (sc__law_cased p) 58 fr ((bo__law_cased p).drop 2) (fun fr=>ret (.next fr))
def J__law_cased_1(fr:Fr):M Fl:=execK (P p) c (sc__law_cased p) 56 fr ((bo__law_cased p).drop 4) (fun fr=>ret (.next fr))
def J__law_cased_0_T0(vtext vis_up vhere vthere:V):M Fl :=
bnd (loopF vtext (setL (sc__law_cased p) Qx) (turnL (P p) c (sc__law_cased p) 55 (st__law_cased_l0 p)) 5000 0 [(Qk,vtext),(Qas,vis_up),(Qat,vhere),(Qau,vthere),(Qad,(.str Qt))]) (goOn (J__law_cased_1 p c))
theorem Udp(vtext vis_up vhere vthere:V):J__law_cased_0 p c [(Qk,vtext),(Qas,vis_up),(Qat,vhere),(Qau,vthere)]=J__law_cased_0_T0 p c vtext vis_up vhere vthere:=by kernel_rfl
def T__law_cased_l0_0(vtext vis_up vhere vthere vout vsign:V):M Fl :=
mc p c vhere (Y "find") [vsign] fun x3 =>
bnd (look (cmpV .GtE x3 (.int 0))) fun x4 =>
(if x4 then
bnd (look (itemV vthere x3)) fun x5 =>
bnd (look (binV .Add vout x5)) fun x6 =>
ret (.next [(Qk,vtext),(Qas,vis_up),(Qat,vhere),(Qau,vthere),(Qad,x6),(Qx,vsign),(Qbs,x3)])
else
bnd (look (binV .Add vout vsign)) fun x7 =>
ret (.next [(Qk,vtext),(Qas,vis_up),(Qat,vhere),(Qau,vthere),(Qad,x7),(Qx,vsign),(Qbs,x3)]))
theorem Ucp(vtext vis_up vhere vthere vout vsign:V):turnL (P p) c (sc__law_cased p) 55 (st__law_cased_l0 p) [(Qk,vtext),(Qas,vis_up),(Qat,vhere),(Qau,vthere),(Qad,vout),(Qx,vsign)]=T__law_cased_l0_0 p c vtext vis_up vhere vthere vout vsign:=by kernel_rfl
def T__law_cased_l0_1(vtext vis_up vhere vthere vout vsign vplace:V):M Fl :=
mc p c vhere (Y "find") [vsign] fun x9 =>
bnd (look (cmpV .GtE x9 (.int 0))) fun x10 =>
(if x10 then
bnd (look (itemV vthere x9)) fun x11 =>
bnd (look (binV .Add vout x11)) fun x12 =>
ret (.next [(Qk,vtext),(Qas,vis_up),(Qat,vhere),(Qau,vthere),(Qad,x12),(Qx,vsign),(Qbs,x9)])
else
bnd (look (binV .Add vout vsign)) fun x13 =>
ret (.next [(Qk,vtext),(Qas,vis_up),(Qat,vhere),(Qau,vthere),(Qad,x13),(Qx,vsign),(Qbs,x9)]))
theorem Uco(vtext vis_up vhere vthere vout vsign vplace:V):turnL (P p) c (sc__law_cased p) 55 (st__law_cased_l0 p) [(Qk,vtext),(Qas,vis_up),(Qat,vhere),(Qau,vthere),(Qad,vout),(Qx,vsign),(Qbs,vplace)]=T__law_cased_l0_1 p c vtext vis_up vhere vthere vout vsign vplace:=by kernel_rfl
noncomputable def J__law_cased_1_T0(p:Params)(c:CC)(vtext vis_up vhere vthere vout:V):M Fl :=
ret (.ret vout)
theorem Uds(vtext vis_up vhere vthere vout:V):J__law_cased_1 p c [(Qk,vtext),(Qas,vis_up),(Qat,vhere),(Qau,vthere),(Qad,vout)]=J__law_cased_1_T0 p c vtext vis_up vhere vthere vout:=by kernel_rfl
noncomputable def J__law_cased_1_T2(p:Params)(c:CC)(vtext vis_up vhere vthere vout vsign vplace:V):M Fl :=
ret (.ret vout)
theorem Udw(vtext vis_up vhere vthere vout vsign vplace:V):J__law_cased_1 p c [(Qk,vtext),(Qas,vis_up),(Qat,vhere),(Qau,vthere),(Qad,vout),(Qx,vsign),(Qbs,vplace)]=J__law_cased_1_T2 p c vtext vis_up vhere vthere vout vsign vplace:=by kernel_rfl
def F__law_cased(vtext vis_up:V):M Fl :=
(match isT vis_up with
| some x1=>(if x1 then
J__law_cased_0 p c [(Qk,vtext),(Qas,vis_up),(Qat,(.str (Y "abcdefghijklmnopqrstuvwxyz"))),(Qau,(.str (Y "ABCDEFGHIJKLMNOPQRSTUVWXYZ")))]
else
J__law_cased_0 p c [(Qk,vtext),(Qas,vis_up),(Qat,(.str (Y "ABCDEFGHIJKLMNOPQRSTUVWXYZ"))),(Qau,(.str (Y "abcdefghijklmnopqrstuvwxyz")))])
| none=>fail)
theorem Uil(d:Nat)(vtext vis_up:V):callK (P p) (d+1) a__law_cased [vtext,vis_up]=bnd (F__law_cased p (callK (P p) d) vtext vis_up) unFl:=by kernel_rfl
def fd__law_put:Fn:=fnAt (K p) [] a__law_put
def sc__law_put:Scope:=(fd__law_put p).scope
def bo__law_put:List Stmt:=(fd__law_put p).body
def st__law_put_l0:Stmt:=(stAt (bo__law_put p) 1)
def J__law_put_0(fr:Fr):M Fl:=execK (P p) c (sc__law_put p) 58 fr ((bo__law_put p).drop 2) (fun fr=>ret (.next fr))
def J__law_put_1(fr:Fr):M Fl:=execK (P p) c (sc__law_put p) 56 fr ((inner (st__law_put_l0 p)).drop 1) (fun fr=>ret (.next fr))
def T__law_put_l0_0(vsigns verrors vdrawn vodd vwhy vtext vsign:V):M Fl :=
bnd (look (cmpV .Eq vsign (.str Qab))) fun x1 =>
(if x1 then
bnd (look (methK (P p) verrors Qv)) fun x2 =>
if isRepl x2 then fail else bnd (builtinV .len [vsigns]) fun x3 =>
bnd (methodV c x2 verrors [(.tup [(.str Qcs),x3])]) fun x4 =>
J__law_put_1 p c [(Qa,vsigns),(Qb,verrors),(Qi,vdrawn),(Qbg,vodd),(Qbh,vwhy),(Qk,vtext),(Qx,vsign)]
else
bnd (look (cmpV .In vsign vodd)) fun x5 =>
(if x5 then
bnd (look (methK (P p) verrors Qv)) fun x6 =>
if isRepl x6 then fail else bnd (builtinV .len [vsigns]) fun x7 =>
bnd (methodV c x6 verrors [(.tup [vwhy,x7])]) fun x8 =>
J__law_put_1 p c [(Qa,vsigns),(Qb,verrors),(Qi,vdrawn),(Qbg,vodd),(Qbh,vwhy),(Qk,vtext),(Qx,vsign)]
else
J__law_put_1 p c [(Qa,vsigns),(Qb,verrors),(Qi,vdrawn),(Qbg,vodd),(Qbh,vwhy),(Qk,vtext),(Qx,vsign)]))
theorem Udq(vsigns verrors vdrawn vodd vwhy vtext vsign:V):turnL (P p) c (sc__law_put p) 57 (st__law_put_l0 p) [(Qa,vsigns),(Qb,verrors),(Qi,vdrawn),(Qbg,vodd),(Qbh,vwhy),(Qk,vtext),(Qx,vsign)]=T__law_put_l0_0 p c vsigns verrors vdrawn vodd vwhy vtext vsign:=by kernel_rfl
noncomputable def J__law_put_0_T0(p:Params)(c:CC)(vsigns verrors vdrawn vodd vwhy vtext:V):M Fl :=
ret (.ret vtext)
theorem Uez(vsigns verrors vdrawn vodd vwhy vtext:V):J__law_put_0 p c [(Qa,vsigns),(Qb,verrors),(Qi,vdrawn),(Qbg,vodd),(Qbh,vwhy),(Qk,vtext)]=J__law_put_0_T0 p c vsigns verrors vdrawn vodd vwhy vtext:=by kernel_rfl
noncomputable def J__law_put_0_T1(p:Params)(c:CC)(vsigns verrors vdrawn vodd vwhy vtext vsign:V):M Fl :=
ret (.ret vtext)
theorem Ufe(vsigns verrors vdrawn vodd vwhy vtext vsign:V):J__law_put_0 p c [(Qa,vsigns),(Qb,verrors),(Qi,vdrawn),(Qbg,vodd),(Qbh,vwhy),(Qk,vtext),(Qx,vsign)]=J__law_put_0_T1 p c vsigns verrors vdrawn vodd vwhy vtext vsign:=by kernel_rfl
def J__law_put_1_T0(vsigns verrors vdrawn vodd vwhy vtext vsign:V):M Fl :=
mc p c vsigns Qv [vsign] fun x10 =>
bnd (newD 15 [(Qab,(.str Qaz)),(Qdh,(.str Qbj))]) fun x11 =>
mc p c x11 (Y "get") [vsign,vsign] fun x13 =>
bnd (look (binV .Add vtext x13)) fun x14 =>
ret (.next [(Qa,vsigns),(Qb,verrors),(Qi,vdrawn),(Qbg,vodd),(Qbh,vwhy),(Qk,x14),(Qx,vsign)])
theorem Uff(vsigns verrors vdrawn vodd vwhy vtext vsign:V):J__law_put_1 p c [(Qa,vsigns),(Qb,verrors),(Qi,vdrawn),(Qbg,vodd),(Qbh,vwhy),(Qk,vtext),(Qx,vsign)]=J__law_put_1_T0 p c vsigns verrors vdrawn vodd vwhy vtext vsign:=by kernel_rfl
def F__law_put(vsigns verrors vdrawn vodd vwhy:V):M Fl :=
bnd (loopF vdrawn (setL (sc__law_put p) Qx) (turnL (P p) c (sc__law_put p) 57 (st__law_put_l0 p)) 5000 0 [(Qa,vsigns),(Qb,verrors),(Qi,vdrawn),(Qbg,vodd),(Qbh,vwhy),(Qk,(.str Qt))]) (goOn (J__law_put_0 p c))
theorem Ukj(d:Nat)(vsigns verrors vdrawn vodd vwhy:V):callK (P p) (d+1) a__law_put [vsigns,verrors,vdrawn,vodd,vwhy]=bnd (F__law_put p (callK (P p) d) vsigns verrors vdrawn vodd vwhy) unFl:=by kernel_rfl
def fd__law_gap:Fn:=fnAt (K p) [] a__law_gap
def sc__law_gap:Scope:=(fd__law_gap p).scope
def bo__law_gap:List Stmt:=(fd__law_gap p).body
def J__law_gap_0(fr:Fr):M Fl:=execK (P p) c (sc__law_gap p) 58 fr ((bo__law_gap p).drop 2) (fun fr=>ret (.next fr))
noncomputable def J__law_gap_0_T0(p:Params)(c:CC)(vnumber vmany vahead vgap:V):M Fl :=
ret (.ret vgap)
theorem Ue5(vnumber vmany vahead vgap:V):J__law_gap_0 p c [(Qae,vnumber),(Qbf,vmany),(Qj,vahead),(Qf,vgap)]=J__law_gap_0_T0 p c vnumber vmany vahead vgap:=by kernel_rfl
def F__law_gap(vnumber vmany vahead:V):M Fl :=
bnd (ret (V.lst [(.str Qbv),(.str Qy),(.str Qbj),(.str Qdc),(.str Qy),(.str Qdb),(.str Qdh)])) fun x1 =>
bnd (c a__law_drawn [vnumber,x1,vmany]) fun x2 =>
bnd (look (cmpV .Eq vahead (.str Qcx))) fun x3 =>
(cond x3
(bnd (look (sliceV x2 none (some (.int 1)))) fun x4 =>
bnd (ret (V.lst [(.str Qy)])) fun x5 =>
bnd (look (cmpV .Eq x4 x5)) fun x6 =>
(cond x6
(bnd (ret (V.lst [(.str Qbv)])) fun x7 =>
bnd (look (binV .Add x7 x2)) fun x8 =>
ret (.ret x8))
(J__law_gap_0 p c [(Qae,vnumber),(Qbf,vmany),(Qj,vahead),(Qf,x2)])))
(J__law_gap_0 p c [(Qae,vnumber),(Qbf,vmany),(Qj,vahead),(Qf,x2)]))
theorem Ul5(d:Nat)(vnumber vmany vahead:V):callK (P p) (d+1) a__law_gap [vnumber,vmany,vahead]=bnd (F__law_gap p (callK (P p) d) vnumber vmany vahead) unFl:=by kernel_rfl
def fd__law_lay:Fn:=fnAt (K p) [] a__law_lay
def sc__law_lay:Scope:=(fd__law_lay p).scope
def bo__law_lay:List Stmt:=(fd__law_lay p).body
def st__law_lay_l0:Stmt:=(stAt (bo__law_lay p) 0)
def J__law_lay_0(fr:Fr):M Fl:=execK (P p) c (sc__law_lay p) 59 fr ((bo__law_lay p).drop 1) (fun fr=>ret (.next fr))
def T__law_lay_l0_0(vsigns verrors vgap vsign:V):M Fl :=
mc p c vsigns Qv [vsign] fun x2 =>
bnd (look (cmpV .Eq vsign (.str Qy))) fun x3 =>
(if x3 then
bnd (look (methK (P p) verrors Qv)) fun x4 =>
if isRepl x4 then fail else bnd (builtinV .len [vsigns]) fun x5 =>
bnd (methodV c x4 verrors [(.tup [(.str (Y "unexpected-solidus-in-tag")),x5])]) fun x6 =>
ret (.next [(Qa,vsigns),(Qb,verrors),(Qf,vgap),(Qx,vsign)])
else
ret (.next [(Qa,vsigns),(Qb,verrors),(Qf,vgap),(Qx,vsign)]))
theorem Udj(vsigns verrors vgap vsign:V):turnL (P p) c (sc__law_lay p) 58 (st__law_lay_l0 p) [(Qa,vsigns),(Qb,verrors),(Qf,vgap),(Qx,vsign)]=T__law_lay_l0_0 p c vsigns verrors vgap vsign:=by kernel_rfl
noncomputable def J__law_lay_0_T0(p:Params)(c:CC)(vsigns verrors vgap:V):M Fl :=
ret (.next [(Qa,vsigns),(Qb,verrors),(Qf,vgap)])
theorem Ue4(vsigns verrors vgap:V):J__law_lay_0 p c [(Qa,vsigns),(Qb,verrors),(Qf,vgap)]=J__law_lay_0_T0 p c vsigns verrors vgap:=by kernel_rfl
noncomputable def J__law_lay_0_T1(p:Params)(c:CC)(vsigns verrors vgap vsign:V):M Fl :=
ret (.next [(Qa,vsigns),(Qb,verrors),(Qf,vgap),(Qx,vsign)])
theorem Ufz(vsigns verrors vgap vsign:V):J__law_lay_0 p c [(Qa,vsigns),(Qb,verrors),(Qf,vgap),(Qx,vsign)]=J__law_lay_0_T1 p c vsigns verrors vgap vsign:=by kernel_rfl
def F__law_lay(vsigns verrors vgap:V):M Fl :=
bnd (loopF vgap (setL (sc__law_lay p) Qx) (turnL (P p) c (sc__law_lay p) 58 (st__law_lay_l0 p)) 5000 0 [(Qa,vsigns),(Qb,verrors),(Qf,vgap)]) (goOn (J__law_lay_0 p c))
theorem Ulk(d:Nat)(vsigns verrors vgap:V):callK (P p) (d+1) a__law_lay [vsigns,verrors,vgap]=bnd (F__law_lay p (callK (P p) d) vsigns verrors vgap) unFl:=by kernel_rfl
def fd__law_name:Fn:=fnAt (K p) [] a__law_name
def sc__law_name:Scope:=(fd__law_name p).scope
def bo__law_name:List Stmt:=(fd__law_name p).body
def J__law_name_0(fr:Fr):M Fl:=execK (P p) c (sc__law_name p) 59 fr ((bo__law_name p).drop 1) (fun fr=>ret (.next fr))
noncomputable def J__law_name_0_T0(p:Params)(c:CC)(vnumber vknown:V):M Fl :=
bnd (ret (V.lst [(.str Qbl),(.str Qdi),(.str Qav),(.str Qab),(.str Qbm),(.str (Y "K")),(.str Qan),(.str Qbk),(.str Qaf),(.str (Y "@")),(.str Qbb),(.str (Y "[")),(.str (Y "b")),(.str (Y "É"))])) fun x15 =>
bnd (look (binV .FloorDiv vnumber (.int 6))) fun x16 =>
bnd (look (binV .FloorDiv vnumber (.int 3))) fun x17 =>
bnd (look (binV .Mod x17 (.int 2))) fun x18 =>
bnd (look (binV .Add (.int 1) x18)) fun x19 =>
bnd (c a__law_drawn [x16,x15,x19]) fun x20 =>
ret (.ret x20)
theorem Ud6(vnumber vknown:V):J__law_name_0 p c [(Qae,vnumber),(Qak,vknown)]=J__law_name_0_T0 p c vnumber vknown:=by kernel_rfl
def F__law_name(vnumber vknown:V):M Fl :=
bnd (look (binV .Mod vnumber (.int 3))) fun x1 =>
bnd (look (cmpV .Eq x1 (.int 0))) fun x2 =>
(cond x2
(bnd (ret (V.lst [])) fun x3 =>
bnd (look (cmpV .NotEq vknown x3)) fun x4 =>
(cond x4
(bnd (look (binV .FloorDiv vnumber (.int 6))) fun x5 =>
bnd (builtinV .len [vknown]) fun x6 =>
bnd (look (binV .Mod x5 x6)) fun x7 =>
bnd (look (itemV vknown x7)) fun x8 =>
bnd (look (binV .FloorDiv vnumber (.int 3))) fun x9 =>
bnd (look (binV .Mod x9 (.int 2))) fun x10 =>
bnd (look (cmpV .Eq x10 (.int 0))) fun x11 =>
(if x11 then
bnd (c a__law_cased [x8,(.bool true)]) fun x12 =>
bnd (builtinV .list [x12]) fun x13 =>
ret (.ret x13)
else
bnd (builtinV .list [x8]) fun x14 =>
ret (.ret x14)))
(J__law_name_0 p c [(Qae,vnumber),(Qak,vknown)])))
(J__law_name_0 p c [(Qae,vnumber),(Qak,vknown)]))
theorem Uj3(d:Nat)(vnumber vknown:V):callK (P p) (d+1) a__law_name [vnumber,vknown]=bnd (F__law_name p (callK (P p) d) vnumber vknown) unFl:=by kernel_rfl
def fd__law_value:Fn:=fnAt (K p) [] a__law_value
def sc__law_value:Scope:=(fd__law_value p).scope
def bo__law_value:List Stmt:=(fd__law_value p).body
def J__law_value_0(fr:Fr):M Fl:=execK (P p) c (sc__law_value p) 59 fr ((bo__law_value p).drop 1) (fun fr=>ret (.next fr))
def J__law_value_1(fr:Fr):M Fl:=execK (P p) c (sc__law_value p) 56 fr ((inner (stAt (bo__law_value p) 0)).drop 2) (J__law_value_0 p c)
def J__law_value_2(fr:Fr):M Fl:=execK (P p) c (sc__law_value p) 58 fr ((bo__law_value p).drop 2) (fun fr=>ret (.next fr))
def J__law_value_0_T0(vsigns verrors vnumber vway:V):M Fl :=
bnd (look (cmpV .Eq vway (.str (Y "double")))) fun x12 =>
(if x12 then
J__law_value_2 p c [(Qa,vsigns),(Qb,verrors),(Qae,vnumber),(Qah,vway),(Qbp,(.str Qan)),(Qdj,(.str Qbb))]
else
J__law_value_2 p c [(Qa,vsigns),(Qb,verrors),(Qae,vnumber),(Qah,vway),(Qbp,(.str Qbb)),(Qdj,(.str Qan))])
theorem Ubl(vsigns verrors vnumber vway:V):J__law_value_0 p c [(Qa,vsigns),(Qb,verrors),(Qae,vnumber),(Qah,vway)]=J__law_value_0_T0 p c vsigns verrors vnumber vway:=by kernel_rfl
noncomputable def J__law_value_1_T0(p:Params)(c:CC)(vsigns verrors vnumber vway vdrawn:V):M Fl :=
bnd (ret (V.lst [(.str Qan),(.str Qbb),(.str Qaf),(.str Qbd),(.str Qdf)])) fun x13 =>
bnd (c a__law_put [vsigns,verrors,vdrawn,x13,(.str (Y "unexpected-character-in-unquoted-attribute-value"))]) fun x14 =>
ret (.ret x14)
theorem Udn(vsigns verrors vnumber vway vdrawn:V):J__law_value_1 p c [(Qa,vsigns),(Qb,verrors),(Qae,vnumber),(Qah,vway),(Qi,vdrawn)]=J__law_value_1_T0 p c vsigns verrors vnumber vway vdrawn:=by kernel_rfl
def J__law_value_2_T0(vsigns verrors vnumber vway vquote vother:V):M Fl :=
mc p c vsigns Qv [vquote] fun x16 =>
bnd (look (binV .FloorDiv vnumber (.int 4))) fun x17 =>
bnd (ret (V.lst [(.str Qbl),(.str Qar),(.str Qab),vother,(.str Qy),(.str Qbv),(.str Qbd),(.str Qaf),(.str Qdi),(.str Qdh),(.str Qdf)])) fun x18 =>
bnd (look (binV .Mod vnumber (.int 4))) fun x19 =>
bnd (c a__law_drawn [x17,x18,x19]) fun x20 =>
bnd (ret (V.lst [])) fun x21 =>
bnd (c a__law_put [vsigns,verrors,x20,x21,(.str Qt)]) fun x22 =>
mc p c vsigns Qv [vquote] fun x24 =>
ret (.ret x22)
theorem Udv(vsigns verrors vnumber vway vquote vother:V):J__law_value_2 p c [(Qa,vsigns),(Qb,verrors),(Qae,vnumber),(Qah,vway),(Qbp,vquote),(Qdj,vother)]=J__law_value_2_T0 p c vsigns verrors vnumber vway vquote vother:=by kernel_rfl
def F__law_value(vsigns verrors vnumber vway:V):M Fl :=
bnd (look (cmpV .Eq vway (.str Qcx))) fun x1 =>
(if x1 then
bnd (look (binV .FloorDiv vnumber (.int 3))) fun x2 =>
bnd (ret (V.lst [(.str Qbl),(.str Qy),(.str Qdi),(.str Qan),(.str Qbd),(.str Qab),(.str Qbb),(.str Qaf),(.str Qdf),(.str (Y "K"))])) fun x3 =>
bnd (look (binV .Mod vnumber (.int 3))) fun x4 =>
bnd (look (binV .Add (.int 1) x4)) fun x5 =>
bnd (c a__law_drawn [x2,x3,x5]) fun x6 =>
bnd (look (itemV x6 (.int 0))) fun x7 =>
bnd (ret (V.lst [(.str Qan),(.str Qbb)])) fun x8 =>
bnd (look (cmpV .In x7 x8)) fun x9 =>
(if x9 then
bnd (ret (V.lst [(.str Qd)])) fun x10 =>
bnd (look (binV .Add x10 x6)) fun x11 =>
J__law_value_1 p c [(Qa,vsigns),(Qb,verrors),(Qae,vnumber),(Qah,vway),(Qi,x11)]
else
J__law_value_1 p c [(Qa,vsigns),(Qb,verrors),(Qae,vnumber),(Qah,vway),(Qi,x6)])
else
J__law_value_0 p c [(Qa,vsigns),(Qb,verrors),(Qae,vnumber),(Qah,vway)])
theorem Ufc(d:Nat)(vsigns verrors vnumber vway:V):callK (P p) (d+1) a__law_value [vsigns,verrors,vnumber,vway]=bnd (F__law_value p (callK (P p) d) vsigns verrors vnumber vway) unFl:=by kernel_rfl
def fd__law_attr:Fn:=fnAt (K p) [] a__law_attr
def sc__law_attr:Scope:=(fd__law_attr p).scope
def bo__law_attr:List Stmt:=(fd__law_attr p).body
def J__law_attr_0(fr:Fr):M Fl:=execK (P p) c (sc__law_attr p) 58 fr ((bo__law_attr p).drop 2) (fun fr=>ret (.next fr))
def J__law_attr_1(fr:Fr):M Fl:=execK (P p) c (sc__law_attr p) 53 fr ((bo__law_attr p).drop 7) (fun fr=>ret (.next fr))
def J__law_attr_2(fr:Fr):M Fl:=execK (P p) c (sc__law_attr p) 50 fr ((bo__law_attr p).drop 10) (fun fr=>ret (.next fr))
def J__law_attr_3(fr:Fr):M Fl:=execK (P p) c (sc__law_attr p) 49 fr ((bo__law_attr p).drop 11) (fun fr=>ret (.next fr))
def J__law_attr_0_T0(vsigns verrors vattrs vnumbers vahead vgap:V):M Fl :=
bnd (c a__law_lay [vsigns,verrors,vgap]) fun x19 =>
bnd (compK vattrs (fun x20=>bnd (bnd (look (itemV x20 (.int 0))) fun x21 =>
ret (.ret x21)) unFl) (fun x20=>ret true) 200 0 []) fun x22 =>
bnd (look (itemV vnumbers (.int 1))) fun x23 =>
bnd (c a__law_name [x23,x22]) fun x24 =>
bnd (ret (V.lst [(.str Qan),(.str Qbb),(.str Qaf)])) fun x25 =>
bnd (c a__law_put [vsigns,verrors,x24,x25,(.str (Y "unexpected-character-in-attribute-name"))]) fun x26 =>
bnd (c a__law_cased [x26,(.bool false)]) fun x27 =>
bnd (look (cmpV .In x27 x22)) fun x28 =>
(if x28 then
bnd (look (methK (P p) verrors Qv)) fun x29 =>
if isRepl x29 then fail else bnd (builtinV .len [vsigns]) fun x30 =>
bnd (methodV c x29 verrors [(.tup [(.str (Y "duplicate-attribute")),x30])]) fun x31 =>
J__law_attr_1 p c [(Qa,vsigns),(Qb,verrors),(Qe,vattrs),(Qu,vnumbers),(Qj,vahead),(Qf,vgap),(Qak,x22),(Qi,x24),(Qg,x27)]
else
J__law_attr_1 p c [(Qa,vsigns),(Qb,verrors),(Qe,vattrs),(Qu,vnumbers),(Qj,vahead),(Qf,vgap),(Qak,x22),(Qi,x24),(Qg,x27)])
theorem Uea(vsigns verrors vattrs vnumbers vahead vgap:V):J__law_attr_0 p c [(Qa,vsigns),(Qb,verrors),(Qe,vattrs),(Qu,vnumbers),(Qj,vahead),(Qf,vgap)]=J__law_attr_0_T0 p c vsigns verrors vattrs vnumbers vahead vgap:=by kernel_rfl
def J__law_attr_1_T0(vsigns verrors vattrs vnumbers vahead vgap vknown vdrawn vname:V):M Fl :=
bnd (ret (V.lst [(.str (Y "none")),(.str Qcx),(.str (Y "single")),(.str (Y "double")),(.str Qac)])) fun x32 =>
bnd (look (itemV vnumbers (.int 2))) fun x33 =>
bnd (look (binV .Mod x33 (.int 5))) fun x34 =>
bnd (look (itemV x32 x34)) fun x35 =>
bnd (look (cmpV .NotEq x35 (.str (Y "none")))) fun x36 =>
(if x36 then
bnd (ret (V.lst [(.str Qbv),(.str Qbj),(.str Qdb),(.str Qdc)])) fun x37 =>
bnd (look (itemV vnumbers (.int 2))) fun x38 =>
bnd (look (binV .FloorDiv x38 (.int 5))) fun x39 =>
bnd (look (binV .Mod x39 (.int 5))) fun x40 =>
bnd (look (itemV vnumbers (.int 2))) fun x41 =>
bnd (look (binV .FloorDiv x41 (.int 25))) fun x42 =>
bnd (look (binV .Mod x42 (.int 5))) fun x43 =>
bnd (look (methK (P p) vsigns (Y "extend"))) fun x44 =>
if isRepl x44 then fail else bnd (look (binV .Add x40 (.int 1))) fun x45 =>
bnd (look (sliceV x37 (some x40) (some x45))) fun x46 =>
bnd (ret (V.lst [(.str Qbd)])) fun x47 =>
bnd (look (binV .Add x46 x47)) fun x48 =>
bnd (look (binV .Add x43 (.int 1))) fun x49 =>
bnd (look (sliceV x37 (some x43) (some x49))) fun x50 =>
bnd (look (binV .Add x48 x50)) fun x51 =>
bnd (methodV c x44 vsigns [x51]) fun x52 =>
bnd (look (cmpV .NotEq x35 (.str Qac))) fun x53 =>
(if x53 then
bnd (look (itemV vnumbers (.int 3))) fun x54 =>
bnd (c a__law_value [vsigns,verrors,x54,x35]) fun x55 =>
J__law_attr_2 p c [(Qa,vsigns),(Qb,verrors),(Qe,vattrs),(Qu,vnumbers),(Qj,vahead),(Qf,vgap),(Qak,vknown),(Qi,vdrawn),(Qg,vname),(Qah,x35),(Qay,x55),(Qce,x37),(Qcf,x40),(Qcg,x43)]
else
J__law_attr_2 p c [(Qa,vsigns),(Qb,verrors),(Qe,vattrs),(Qu,vnumbers),(Qj,vahead),(Qf,vgap),(Qak,vknown),(Qi,vdrawn),(Qg,vname),(Qah,x35),(Qay,(.str Qt)),(Qce,x37),(Qcf,x40),(Qcg,x43)])
else
J__law_attr_2 p c [(Qa,vsigns),(Qb,verrors),(Qe,vattrs),(Qu,vnumbers),(Qj,vahead),(Qf,vgap),(Qak,vknown),(Qi,vdrawn),(Qg,vname),(Qah,x35),(Qay,(.str Qt))])
theorem Ud7(vsigns verrors vattrs vnumbers vahead vgap vknown vdrawn vname:V):J__law_attr_1 p c [(Qa,vsigns),(Qb,verrors),(Qe,vattrs),(Qu,vnumbers),(Qj,vahead),(Qf,vgap),(Qak,vknown),(Qi,vdrawn),(Qg,vname)]=J__law_attr_1_T0 p c vsigns verrors vattrs vnumbers vahead vgap vknown vdrawn vname:=by kernel_rfl
def J__law_attr_2_T0(vsigns verrors vattrs vnumbers vahead vgap vknown vdrawn vname vway vvalue vblanks vfirst vsecond:V):M Fl :=
bnd (look (cmpV .NotIn vname vknown)) fun x56 =>
(if x56 then
mc p c vattrs Qv [(.tup [vname,vvalue])] fun x58 =>
J__law_attr_3 p c [(Qa,vsigns),(Qb,verrors),(Qe,vattrs),(Qu,vnumbers),(Qj,vahead),(Qf,vgap),(Qak,vknown),(Qi,vdrawn),(Qg,vname),(Qah,vway),(Qay,vvalue),(Qce,vblanks),(Qcf,vfirst),(Qcg,vsecond)]
else
J__law_attr_3 p c [(Qa,vsigns),(Qb,verrors),(Qe,vattrs),(Qu,vnumbers),(Qj,vahead),(Qf,vgap),(Qak,vknown),(Qi,vdrawn),(Qg,vname),(Qah,vway),(Qay,vvalue),(Qce,vblanks),(Qcf,vfirst),(Qcg,vsecond)])
theorem Ud9(vsigns verrors vattrs vnumbers vahead vgap vknown vdrawn vname vway vvalue vblanks vfirst vsecond:V):J__law_attr_2 p c [(Qa,vsigns),(Qb,verrors),(Qe,vattrs),(Qu,vnumbers),(Qj,vahead),(Qf,vgap),(Qak,vknown),(Qi,vdrawn),(Qg,vname),(Qah,vway),(Qay,vvalue),(Qce,vblanks),(Qcf,vfirst),(Qcg,vsecond)]=J__law_attr_2_T0 p c vsigns verrors vattrs vnumbers vahead vgap vknown vdrawn vname vway vvalue vblanks vfirst vsecond:=by kernel_rfl
def J__law_attr_2_T1(vsigns verrors vattrs vnumbers vahead vgap vknown vdrawn vname vway vvalue:V):M Fl :=
bnd (look (cmpV .NotIn vname vknown)) fun x59 =>
(if x59 then
mc p c vattrs Qv [(.tup [vname,vvalue])] fun x61 =>
J__law_attr_3 p c [(Qa,vsigns),(Qb,verrors),(Qe,vattrs),(Qu,vnumbers),(Qj,vahead),(Qf,vgap),(Qak,vknown),(Qi,vdrawn),(Qg,vname),(Qah,vway),(Qay,vvalue)]
else
J__law_attr_3 p c [(Qa,vsigns),(Qb,verrors),(Qe,vattrs),(Qu,vnumbers),(Qj,vahead),(Qf,vgap),(Qak,vknown),(Qi,vdrawn),(Qg,vname),(Qah,vway),(Qay,vvalue)])
theorem Ud8(vsigns verrors vattrs vnumbers vahead vgap vknown vdrawn vname vway vvalue:V):J__law_attr_2 p c [(Qa,vsigns),(Qb,verrors),(Qe,vattrs),(Qu,vnumbers),(Qj,vahead),(Qf,vgap),(Qak,vknown),(Qi,vdrawn),(Qg,vname),(Qah,vway),(Qay,vvalue)]=J__law_attr_2_T1 p c vsigns verrors vattrs vnumbers vahead vgap vknown vdrawn vname vway vvalue:=by kernel_rfl
noncomputable def J__law_attr_3_T0(p:Params)(c:CC)(vsigns verrors vattrs vnumbers vahead vgap vknown vdrawn vname vway vvalue vblanks vfirst vsecond:V):M Fl :=
ret (.ret vway)
theorem Ud4(vsigns verrors vattrs vnumbers vahead vgap vknown vdrawn vname vway vvalue vblanks vfirst vsecond:V):J__law_attr_3 p c [(Qa,vsigns),(Qb,verrors),(Qe,vattrs),(Qu,vnumbers),(Qj,vahead),(Qf,vgap),(Qak,vknown),(Qi,vdrawn),(Qg,vname),(Qah,vway),(Qay,vvalue),(Qce,vblanks),(Qcf,vfirst),(Qcg,vsecond)]=J__law_attr_3_T0 p c vsigns verrors vattrs vnumbers vahead vgap vknown vdrawn vname vway vvalue vblanks vfirst vsecond:=by kernel_rfl
noncomputable def J__law_attr_3_T1(p:Params)(c:CC)(vsigns verrors vattrs vnumbers vahead vgap vknown vdrawn vname vway vvalue:V):M Fl :=
ret (.ret vway)
theorem Uec(vsigns verrors vattrs vnumbers vahead vgap vknown vdrawn vname vway vvalue:V):J__law_attr_3 p c [(Qa,vsigns),(Qb,verrors),(Qe,vattrs),(Qu,vnumbers),(Qj,vahead),(Qf,vgap),(Qak,vknown),(Qi,vdrawn),(Qg,vname),(Qah,vway),(Qay,vvalue)]=J__law_attr_3_T1 p c vsigns verrors vattrs vnumbers vahead vgap vknown vdrawn vname vway vvalue:=by kernel_rfl
def F__law_attr(vsigns verrors vattrs vnumbers vahead:V):M Fl :=
bnd (look (itemV vnumbers (.int 0))) fun x1 =>
bnd (look (binV .FloorDiv x1 (.int 3))) fun x2 =>
bnd (look (itemV vnumbers (.int 0))) fun x3 =>
bnd (look (binV .Mod x3 (.int 3))) fun x4 =>
bnd (c a__law_gap [x2,x4,vahead]) fun x5 =>
bnd (ret (V.lst [])) fun x6 =>
bnd (look (cmpV .Eq x5 x6)) fun x7 =>
(cond x7
(bnd (ret (V.lst [(.str (Y "single")),(.str (Y "double"))])) fun x8 =>
bnd (look (cmpV .In vahead x8)) fun x9 =>
(cond x9
(bnd (look (methK (P p) verrors Qv)) fun x10 =>
if isRepl x10 then fail else bnd (builtinV .len [vsigns]) fun x11 =>
bnd (methodV c x10 verrors [(.tup [(.str (Y "missing-whitespace-between-attributes")),x11])]) fun x12 =>
J__law_attr_0 p c [(Qa,vsigns),(Qb,verrors),(Qe,vattrs),(Qu,vnumbers),(Qj,vahead),(Qf,x5)])
(bnd (ret (V.lst [])) fun x13 =>
bnd (look (cmpV .Eq x5 x13)) fun x14 =>
(if x14 then
bnd (ret (V.lst [(.str Qbv)])) fun x15 =>
J__law_attr_0 p c [(Qa,vsigns),(Qb,verrors),(Qe,vattrs),(Qu,vnumbers),(Qj,vahead),(Qf,x15)]
else
J__law_attr_0 p c [(Qa,vsigns),(Qb,verrors),(Qe,vattrs),(Qu,vnumbers),(Qj,vahead),(Qf,x5)]))))
(bnd (ret (V.lst [])) fun x16 =>
bnd (look (cmpV .Eq x5 x16)) fun x17 =>
(if x17 then
bnd (ret (V.lst [(.str Qbv)])) fun x18 =>
J__law_attr_0 p c [(Qa,vsigns),(Qb,verrors),(Qe,vattrs),(Qu,vnumbers),(Qj,vahead),(Qf,x18)]
else
J__law_attr_0 p c [(Qa,vsigns),(Qb,verrors),(Qe,vattrs),(Qu,vnumbers),(Qj,vahead),(Qf,x5)])))
theorem Ukc(d:Nat)(vsigns verrors vattrs vnumbers vahead:V):callK (P p) (d+1) a__law_attr [vsigns,verrors,vattrs,vnumbers,vahead]=bnd (F__law_attr p (callK (P p) d) vsigns verrors vattrs vnumbers vahead) unFl:=by kernel_rfl
def fd__law_tag:Fn:=fnAt (K p) [] a__law_tag
def sc__law_tag:Scope:=(fd__law_tag p).scope
def bo__law_tag:List Stmt:=(fd__law_tag p).body
def st__law_tag_l0:Stmt:=(stAt (bo__law_tag p) 7)
def J__law_tag_0(fr:Fr):M Fl:=execK (P p) c (sc__law_tag p) 58 fr ((bo__law_tag p).drop 2) (fun fr=>ret (.next fr))
def J__law_tag_1(fr:Fr):M Fl:=execK (P p) c (sc__law_tag p) 57 fr ((bo__law_tag p).drop 3) (fun fr=>ret (.next fr))
def J__law_tag_2(fr:Fr):M Fl:=execK (P p) c (sc__law_tag p) 52 fr ((bo__law_tag p).drop 8) (fun fr=>ret (.next fr))
def J__law_tag_3(fr:Fr):M Fl:=execK (P p) c (sc__law_tag p) 51 fr ((bo__law_tag p).drop 9) (fun fr=>ret (.next fr))
def J__law_tag_4(fr:Fr):M Fl:=execK (P p) c (sc__law_tag p) 48 fr ((bo__law_tag p).drop 12) (fun fr=>ret (.next fr))
def J__law_tag_5(fr:Fr):M Fl:=execK (P p) c (sc__law_tag p) 47 fr ((bo__law_tag p).drop 13) (fun fr=>ret (.next fr))
def J__law_tag_6(fr:Fr):M Fl:=execK (P p) c (sc__law_tag p) 46 fr ((bo__law_tag p).drop 14) (fun fr=>ret (.next fr))
def J__law_tag_7(fr:Fr):M Fl:=execK (P p) c (sc__law_tag p) 45 fr ((bo__law_tag p).drop 15) (fun fr=>ret (.next fr))
def J__law_tag_0_T0(vscript vsigns verrors vhead vtag vend vkind:V):M Fl :=
bnd (look (cmpV .Eq vkind (.str Qh))) fun x6 =>
(if x6 then
mc p c vsigns Qv [(.str Qy)] fun x8 =>
J__law_tag_1 p c [(Qo,vscript),(Qa,vsigns),(Qb,verrors),(Qp,vhead),(Qq,vtag),(Qh,vend),(Ql,vkind)]
else
J__law_tag_1 p c [(Qo,vscript),(Qa,vsigns),(Qb,verrors),(Qp,vhead),(Qq,vtag),(Qh,vend),(Ql,vkind)])
theorem Ub4(vscript vsigns verrors vhead vtag vend vkind:V):J__law_tag_0 p c [(Qo,vscript),(Qa,vsigns),(Qb,verrors),(Qp,vhead),(Qq,vtag),(Qh,vend),(Ql,vkind)]=J__law_tag_0_T0 p c vscript vsigns verrors vhead vtag vend vkind:=by kernel_rfl
def J__law_tag_1_T0(vscript vsigns verrors vhead vtag vend vkind:V):M Fl :=
bnd (ret (V.lst [(.str Qbl),(.str Qbk),(.str Qab),(.str (Y "K")),(.str Qav),(.str Qbd),(.str Qbm),(.str Qan),(.str (Y "[")),(.str (Y "@")),(.str (Y "1")),(.str Qaf),(.str (Y "É")),(.str (Y "{"))])) fun x9 =>
bnd (ret (V.lst [(.str Qbl),(.str Qbk),(.str (Y "b")),(.str Qav),(.str Qbm),(.str Qdi)])) fun x10 =>
bnd (look (binV .Mod vtag (.int 6))) fun x11 =>
bnd (look (itemV x10 x11)) fun x12 =>
bnd (ret (V.lst [x12])) fun x13 =>
bnd (look (binV .FloorDiv vtag (.int 18))) fun x14 =>
bnd (look (binV .FloorDiv vtag (.int 6))) fun x15 =>
bnd (look (binV .Mod x15 (.int 3))) fun x16 =>
bnd (c a__law_drawn [x14,x9,x16]) fun x17 =>
bnd (look (binV .Add x13 x17)) fun x18 =>
bnd (ret (V.lst [])) fun x19 =>
bnd (c a__law_put [vsigns,verrors,x18,x19,(.str Qt)]) fun x20 =>
bnd (c a__law_cased [x20,(.bool false)]) fun x21 =>
bnd (newL 13 []) fun x22 =>
bnd (look (binV .FloorDiv vhead (.int 2))) fun x23 =>
bnd (look (binV .Mod x23 (.int 5))) fun x24 =>
bnd (look (binV .Sub (.int 4) x24)) fun x25 =>
bnd (builtinV .range [x25]) fun x26 =>
bnd (loopF x26 (setL (sc__law_tag p) Qn) (turnL (P p) c (sc__law_tag p) 51 (st__law_tag_l0 p)) 5000 0 [(Qo,vscript),(Qa,vsigns),(Qb,verrors),(Qp,vhead),(Qq,vtag),(Qh,vend),(Ql,vkind),(Qr,x9),(Qi,x18),(Qg,x21),(Qe,x22),(Qj,(.str Qg))]) (goOn (J__law_tag_2 p c))
theorem Ueo(vscript vsigns verrors vhead vtag vend vkind:V):J__law_tag_1 p c [(Qo,vscript),(Qa,vsigns),(Qb,verrors),(Qp,vhead),(Qq,vtag),(Qh,vend),(Ql,vkind)]=J__law_tag_1_T0 p c vscript vsigns verrors vhead vtag vend vkind:=by kernel_rfl
noncomputable def T__law_tag_l0_0(p:Params)(c:CC)(vscript vsigns verrors vhead vtag vend vkind vpool vdrawn vname vattrs vahead vk:V):M Fl :=
bnd (look (cmpV .NotEq vahead (.str Qac))) fun x27 =>
(if x27 then
bnd (builtinV .range [(.int 4)]) fun x28 =>
bnd (compK x28 (fun x29=>bnd (bnd (look (binV .Mult (.int 4) vk)) fun x30 =>
bnd (look (binV .Add (.int 2) x30)) fun x31 =>
bnd (look (binV .Add x31 x29)) fun x32 =>
bnd (c a__law_number [vscript,x32]) fun x33 =>
ret (.ret x33)) unFl) (fun x29=>ret true) 200 0 []) fun x34 =>
bnd (c a__law_attr [vsigns,verrors,vattrs,x34,vahead]) fun x35 =>
ret (.next [(Qo,vscript),(Qa,vsigns),(Qb,verrors),(Qp,vhead),(Qq,vtag),(Qh,vend),(Ql,vkind),(Qr,vpool),(Qi,vdrawn),(Qg,vname),(Qe,vattrs),(Qj,x35),(Qn,vk),(Qu,x34)])
else
ret (.next [(Qo,vscript),(Qa,vsigns),(Qb,verrors),(Qp,vhead),(Qq,vtag),(Qh,vend),(Ql,vkind),(Qr,vpool),(Qi,vdrawn),(Qg,vname),(Qe,vattrs),(Qj,vahead),(Qn,vk)]))
theorem Ubo(vscript vsigns verrors vhead vtag vend vkind vpool vdrawn vname vattrs vahead vk:V):turnL (P p) c (sc__law_tag p) 51 (st__law_tag_l0 p) [(Qo,vscript),(Qa,vsigns),(Qb,verrors),(Qp,vhead),(Qq,vtag),(Qh,vend),(Ql,vkind),(Qr,vpool),(Qi,vdrawn),(Qg,vname),(Qe,vattrs),(Qj,vahead),(Qn,vk)]=T__law_tag_l0_0 p c vscript vsigns verrors vhead vtag vend vkind vpool vdrawn vname vattrs vahead vk:=by kernel_rfl
noncomputable def T__law_tag_l0_1(p:Params)(c:CC)(vscript vsigns verrors vhead vtag vend vkind vpool vdrawn vname vattrs vahead vk vnumbers:V):M Fl :=
bnd (look (cmpV .NotEq vahead (.str Qac))) fun x36 =>
(if x36 then
bnd (builtinV .range [(.int 4)]) fun x37 =>
bnd (compK x37 (fun x38=>bnd (bnd (look (binV .Mult (.int 4) vk)) fun x39 =>
bnd (look (binV .Add (.int 2) x39)) fun x40 =>
bnd (look (binV .Add x40 x38)) fun x41 =>
bnd (c a__law_number [vscript,x41]) fun x42 =>
ret (.ret x42)) unFl) (fun x38=>ret true) 200 0 []) fun x43 =>
bnd (c a__law_attr [vsigns,verrors,vattrs,x43,vahead]) fun x44 =>
ret (.next [(Qo,vscript),(Qa,vsigns),(Qb,verrors),(Qp,vhead),(Qq,vtag),(Qh,vend),(Ql,vkind),(Qr,vpool),(Qi,vdrawn),(Qg,vname),(Qe,vattrs),(Qj,x44),(Qn,vk),(Qu,x43)])
else
ret (.next [(Qo,vscript),(Qa,vsigns),(Qb,verrors),(Qp,vhead),(Qq,vtag),(Qh,vend),(Ql,vkind),(Qr,vpool),(Qi,vdrawn),(Qg,vname),(Qe,vattrs),(Qj,vahead),(Qn,vk),(Qu,vnumbers)]))
theorem Udt(vscript vsigns verrors vhead vtag vend vkind vpool vdrawn vname vattrs vahead vk vnumbers:V):turnL (P p) c (sc__law_tag p) 51 (st__law_tag_l0 p) [(Qo,vscript),(Qa,vsigns),(Qb,verrors),(Qp,vhead),(Qq,vtag),(Qh,vend),(Ql,vkind),(Qr,vpool),(Qi,vdrawn),(Qg,vname),(Qe,vattrs),(Qj,vahead),(Qn,vk),(Qu,vnumbers)]=T__law_tag_l0_1 p c vscript vsigns verrors vhead vtag vend vkind vpool vdrawn vname vattrs vahead vk vnumbers:=by kernel_rfl
def J__law_tag_2_T0(vscript vsigns verrors vhead vtag vend vkind vpool vdrawn vname vattrs vahead:V):M Fl :=
bnd (look (cmpV .Eq vahead (.str Qac))) fun x45 =>
(if x45 then
bnd (ret (V.lst [])) fun x46 =>
J__law_tag_3 p c [(Qo,vscript),(Qa,vsigns),(Qb,verrors),(Qp,vhead),(Qq,vtag),(Qh,vend),(Ql,vkind),(Qr,vpool),(Qi,vdrawn),(Qg,vname),(Qe,vattrs),(Qj,vahead),(Qf,x46)]
else
bnd (look (binV .FloorDiv vend (.int 4))) fun x47 =>
bnd (look (binV .Mod vend (.int 4))) fun x48 =>
bnd (c a__law_gap [x47,x48,vahead]) fun x49 =>
J__law_tag_3 p c [(Qo,vscript),(Qa,vsigns),(Qb,verrors),(Qp,vhead),(Qq,vtag),(Qh,vend),(Ql,vkind),(Qr,vpool),(Qi,vdrawn),(Qg,vname),(Qe,vattrs),(Qj,vahead),(Qf,x49)])
theorem Ufq(vscript vsigns verrors vhead vtag vend vkind vpool vdrawn vname vattrs vahead:V):J__law_tag_2 p c [(Qo,vscript),(Qa,vsigns),(Qb,verrors),(Qp,vhead),(Qq,vtag),(Qh,vend),(Ql,vkind),(Qr,vpool),(Qi,vdrawn),(Qg,vname),(Qe,vattrs),(Qj,vahead)]=J__law_tag_2_T0 p c vscript vsigns verrors vhead vtag vend vkind vpool vdrawn vname vattrs vahead:=by kernel_rfl
def J__law_tag_2_T1(vscript vsigns verrors vhead vtag vend vkind vpool vdrawn vname vattrs vahead vk:V):M Fl :=
bnd (look (cmpV .Eq vahead (.str Qac))) fun x50 =>
(if x50 then
bnd (ret (V.lst [])) fun x51 =>
J__law_tag_3 p c [(Qo,vscript),(Qa,vsigns),(Qb,verrors),(Qp,vhead),(Qq,vtag),(Qh,vend),(Ql,vkind),(Qr,vpool),(Qi,vdrawn),(Qg,vname),(Qe,vattrs),(Qj,vahead),(Qn,vk),(Qf,x51)]
else
bnd (look (binV .FloorDiv vend (.int 4))) fun x52 =>
bnd (look (binV .Mod vend (.int 4))) fun x53 =>
bnd (c a__law_gap [x52,x53,vahead]) fun x54 =>
J__law_tag_3 p c [(Qo,vscript),(Qa,vsigns),(Qb,verrors),(Qp,vhead),(Qq,vtag),(Qh,vend),(Ql,vkind),(Qr,vpool),(Qi,vdrawn),(Qg,vname),(Qe,vattrs),(Qj,vahead),(Qn,vk),(Qf,x54)])
theorem Ufp(vscript vsigns verrors vhead vtag vend vkind vpool vdrawn vname vattrs vahead vk:V):J__law_tag_2 p c [(Qo,vscript),(Qa,vsigns),(Qb,verrors),(Qp,vhead),(Qq,vtag),(Qh,vend),(Ql,vkind),(Qr,vpool),(Qi,vdrawn),(Qg,vname),(Qe,vattrs),(Qj,vahead),(Qn,vk)]=J__law_tag_2_T1 p c vscript vsigns verrors vhead vtag vend vkind vpool vdrawn vname vattrs vahead vk:=by kernel_rfl
def J__law_tag_2_T2(vscript vsigns verrors vhead vtag vend vkind vpool vdrawn vname vattrs vahead vk vnumbers:V):M Fl :=
bnd (look (cmpV .Eq vahead (.str Qac))) fun x55 =>
(if x55 then
bnd (ret (V.lst [])) fun x56 =>
J__law_tag_3 p c [(Qo,vscript),(Qa,vsigns),(Qb,verrors),(Qp,vhead),(Qq,vtag),(Qh,vend),(Ql,vkind),(Qr,vpool),(Qi,vdrawn),(Qg,vname),(Qe,vattrs),(Qj,vahead),(Qn,vk),(Qu,vnumbers),(Qf,x56)]
else
bnd (look (binV .FloorDiv vend (.int 4))) fun x57 =>
bnd (look (binV .Mod vend (.int 4))) fun x58 =>
bnd (c a__law_gap [x57,x58,vahead]) fun x59 =>
J__law_tag_3 p c [(Qo,vscript),(Qa,vsigns),(Qb,verrors),(Qp,vhead),(Qq,vtag),(Qh,vend),(Ql,vkind),(Qr,vpool),(Qi,vdrawn),(Qg,vname),(Qe,vattrs),(Qj,vahead),(Qn,vk),(Qu,vnumbers),(Qf,x59)])
theorem Ue1(vscript vsigns verrors vhead vtag vend vkind vpool vdrawn vname vattrs vahead vk vnumbers:V):J__law_tag_2 p c [(Qo,vscript),(Qa,vsigns),(Qb,verrors),(Qp,vhead),(Qq,vtag),(Qh,vend),(Ql,vkind),(Qr,vpool),(Qi,vdrawn),(Qg,vname),(Qe,vattrs),(Qj,vahead),(Qn,vk),(Qu,vnumbers)]=J__law_tag_2_T2 p c vscript vsigns verrors vhead vtag vend vkind vpool vdrawn vname vattrs vahead vk vnumbers:=by kernel_rfl
def J__law_tag_3_T0(vscript vsigns verrors vhead vtag vend vkind vpool vdrawn vname vattrs vahead vgap:V):M Fl :=
bnd (c a__law_lay [vsigns,verrors,vgap]) fun x60 =>
bnd (look (sliceV vgap (some (.int (-1))) none)) fun x61 =>
bnd (ret (V.lst [(.str Qy)])) fun x62 =>
bnd (look (cmpV .Eq x61 x62)) fun x63 =>
(if x63 then
mc p c verrors Qdk [] fun x65 =>
J__law_tag_4 p c [(Qo,vscript),(Qa,vsigns),(Qb,verrors),(Qp,vhead),(Qq,vtag),(Qh,vend),(Ql,vkind),(Qr,vpool),(Qi,vdrawn),(Qg,vname),(Qe,vattrs),(Qj,vahead),(Qf,vgap),(Qs,(.bool x63))]
else
J__law_tag_4 p c [(Qo,vscript),(Qa,vsigns),(Qb,verrors),(Qp,vhead),(Qq,vtag),(Qh,vend),(Ql,vkind),(Qr,vpool),(Qi,vdrawn),(Qg,vname),(Qe,vattrs),(Qj,vahead),(Qf,vgap),(Qs,(.bool x63))])
theorem Ue9(vscript vsigns verrors vhead vtag vend vkind vpool vdrawn vname vattrs vahead vgap:V):J__law_tag_3 p c [(Qo,vscript),(Qa,vsigns),(Qb,verrors),(Qp,vhead),(Qq,vtag),(Qh,vend),(Ql,vkind),(Qr,vpool),(Qi,vdrawn),(Qg,vname),(Qe,vattrs),(Qj,vahead),(Qf,vgap)]=J__law_tag_3_T0 p c vscript vsigns verrors vhead vtag vend vkind vpool vdrawn vname vattrs vahead vgap:=by kernel_rfl
def J__law_tag_3_T1(vscript vsigns verrors vhead vtag vend vkind vpool vdrawn vname vattrs vahead vk vgap:V):M Fl :=
bnd (c a__law_lay [vsigns,verrors,vgap]) fun x66 =>
bnd (look (sliceV vgap (some (.int (-1))) none)) fun x67 =>
bnd (ret (V.lst [(.str Qy)])) fun x68 =>
bnd (look (cmpV .Eq x67 x68)) fun x69 =>
(if x69 then
mc p c verrors Qdk [] fun x71 =>
J__law_tag_4 p c [(Qo,vscript),(Qa,vsigns),(Qb,verrors),(Qp,vhead),(Qq,vtag),(Qh,vend),(Ql,vkind),(Qr,vpool),(Qi,vdrawn),(Qg,vname),(Qe,vattrs),(Qj,vahead),(Qn,vk),(Qf,vgap),(Qs,(.bool x69))]
else
J__law_tag_4 p c [(Qo,vscript),(Qa,vsigns),(Qb,verrors),(Qp,vhead),(Qq,vtag),(Qh,vend),(Ql,vkind),(Qr,vpool),(Qi,vdrawn),(Qg,vname),(Qe,vattrs),(Qj,vahead),(Qn,vk),(Qf,vgap),(Qs,(.bool x69))])
theorem Ufg(vscript vsigns verrors vhead vtag vend vkind vpool vdrawn vname vattrs vahead vk vgap:V):J__law_tag_3 p c [(Qo,vscript),(Qa,vsigns),(Qb,verrors),(Qp,vhead),(Qq,vtag),(Qh,vend),(Ql,vkind),(Qr,vpool),(Qi,vdrawn),(Qg,vname),(Qe,vattrs),(Qj,vahead),(Qn,vk),(Qf,vgap)]=J__law_tag_3_T1 p c vscript vsigns verrors vhead vtag vend vkind vpool vdrawn vname vattrs vahead vk vgap:=by kernel_rfl
def J__law_tag_3_T2(vscript vsigns verrors vhead vtag vend vkind vpool vdrawn vname vattrs vahead vk vnumbers vgap:V):M Fl :=
bnd (c a__law_lay [vsigns,verrors,vgap]) fun x72 =>
bnd (look (sliceV vgap (some (.int (-1))) none)) fun x73 =>
bnd (ret (V.lst [(.str Qy)])) fun x74 =>
bnd (look (cmpV .Eq x73 x74)) fun x75 =>
(if x75 then
mc p c verrors Qdk [] fun x77 =>
J__law_tag_4 p c [(Qo,vscript),(Qa,vsigns),(Qb,verrors),(Qp,vhead),(Qq,vtag),(Qh,vend),(Ql,vkind),(Qr,vpool),(Qi,vdrawn),(Qg,vname),(Qe,vattrs),(Qj,vahead),(Qn,vk),(Qu,vnumbers),(Qf,vgap),(Qs,(.bool x75))]
else
J__law_tag_4 p c [(Qo,vscript),(Qa,vsigns),(Qb,verrors),(Qp,vhead),(Qq,vtag),(Qh,vend),(Ql,vkind),(Qr,vpool),(Qi,vdrawn),(Qg,vname),(Qe,vattrs),(Qj,vahead),(Qn,vk),(Qu,vnumbers),(Qf,vgap),(Qs,(.bool x75))])
theorem Ufh(vscript vsigns verrors vhead vtag vend vkind vpool vdrawn vname vattrs vahead vk vnumbers vgap:V):J__law_tag_3 p c [(Qo,vscript),(Qa,vsigns),(Qb,verrors),(Qp,vhead),(Qq,vtag),(Qh,vend),(Ql,vkind),(Qr,vpool),(Qi,vdrawn),(Qg,vname),(Qe,vattrs),(Qj,vahead),(Qn,vk),(Qu,vnumbers),(Qf,vgap)]=J__law_tag_3_T2 p c vscript vsigns verrors vhead vtag vend vkind vpool vdrawn vname vattrs vahead vk vnumbers vgap:=by kernel_rfl
def J__law_tag_4_T0(vscript vsigns verrors vhead vtag vend vkind vpool vdrawn vname vattrs vahead vgap vis_closing:V):M Fl :=
bnd (look (cmpV .Eq vahead (.str Qac))) fun x78 =>
(if x78 then
bnd (look (methK (P p) verrors Qv)) fun x79 =>
if isRepl x79 then fail else bnd (builtinV .len [vsigns]) fun x80 =>
bnd (methodV c x79 verrors [(.tup [(.str Qcu),x80])]) fun x81 =>
J__law_tag_5 p c [(Qo,vscript),(Qa,vsigns),(Qb,verrors),(Qp,vhead),(Qq,vtag),(Qh,vend),(Ql,vkind),(Qr,vpool),(Qi,vdrawn),(Qg,vname),(Qe,vattrs),(Qj,vahead),(Qf,vgap),(Qs,vis_closing)]
else
J__law_tag_5 p c [(Qo,vscript),(Qa,vsigns),(Qb,verrors),(Qp,vhead),(Qq,vtag),(Qh,vend),(Ql,vkind),(Qr,vpool),(Qi,vdrawn),(Qg,vname),(Qe,vattrs),(Qj,vahead),(Qf,vgap),(Qs,vis_closing)])
theorem Ue7(vscript vsigns verrors vhead vtag vend vkind vpool vdrawn vname vattrs vahead vgap vis_closing:V):J__law_tag_4 p c [(Qo,vscript),(Qa,vsigns),(Qb,verrors),(Qp,vhead),(Qq,vtag),(Qh,vend),(Ql,vkind),(Qr,vpool),(Qi,vdrawn),(Qg,vname),(Qe,vattrs),(Qj,vahead),(Qf,vgap),(Qs,vis_closing)]=J__law_tag_4_T0 p c vscript vsigns verrors vhead vtag vend vkind vpool vdrawn vname vattrs vahead vgap vis_closing:=by kernel_rfl
def J__law_tag_4_T1(vscript vsigns verrors vhead vtag vend vkind vpool vdrawn vname vattrs vahead vk vgap vis_closing:V):M Fl :=
bnd (look (cmpV .Eq vahead (.str Qac))) fun x82 =>
(if x82 then
bnd (look (methK (P p) verrors Qv)) fun x83 =>
if isRepl x83 then fail else bnd (builtinV .len [vsigns]) fun x84 =>
bnd (methodV c x83 verrors [(.tup [(.str Qcu),x84])]) fun x85 =>
J__law_tag_5 p c [(Qo,vscript),(Qa,vsigns),(Qb,verrors),(Qp,vhead),(Qq,vtag),(Qh,vend),(Ql,vkind),(Qr,vpool),(Qi,vdrawn),(Qg,vname),(Qe,vattrs),(Qj,vahead),(Qn,vk),(Qf,vgap),(Qs,vis_closing)]
else
J__law_tag_5 p c [(Qo,vscript),(Qa,vsigns),(Qb,verrors),(Qp,vhead),(Qq,vtag),(Qh,vend),(Ql,vkind),(Qr,vpool),(Qi,vdrawn),(Qg,vname),(Qe,vattrs),(Qj,vahead),(Qn,vk),(Qf,vgap),(Qs,vis_closing)])
theorem Uer(vscript vsigns verrors vhead vtag vend vkind vpool vdrawn vname vattrs vahead vk vgap vis_closing:V):J__law_tag_4 p c [(Qo,vscript),(Qa,vsigns),(Qb,verrors),(Qp,vhead),(Qq,vtag),(Qh,vend),(Ql,vkind),(Qr,vpool),(Qi,vdrawn),(Qg,vname),(Qe,vattrs),(Qj,vahead),(Qn,vk),(Qf,vgap),(Qs,vis_closing)]=J__law_tag_4_T1 p c vscript vsigns verrors vhead vtag vend vkind vpool vdrawn vname vattrs vahead vk vgap vis_closing:=by kernel_rfl
def J__law_tag_4_T2(vscript vsigns verrors vhead vtag vend vkind vpool vdrawn vname vattrs vahead vk vnumbers vgap vis_closing:V):M Fl :=
bnd (look (cmpV .Eq vahead (.str Qac))) fun x86 =>
(if x86 then
bnd (look (methK (P p) verrors Qv)) fun x87 =>
if isRepl x87 then fail else bnd (builtinV .len [vsigns]) fun x88 =>
bnd (methodV c x87 verrors [(.tup [(.str Qcu),x88])]) fun x89 =>
J__law_tag_5 p c [(Qo,vscript),(Qa,vsigns),(Qb,verrors),(Qp,vhead),(Qq,vtag),(Qh,vend),(Ql,vkind),(Qr,vpool),(Qi,vdrawn),(Qg,vname),(Qe,vattrs),(Qj,vahead),(Qn,vk),(Qu,vnumbers),(Qf,vgap),(Qs,vis_closing)]
else
J__law_tag_5 p c [(Qo,vscript),(Qa,vsigns),(Qb,verrors),(Qp,vhead),(Qq,vtag),(Qh,vend),(Ql,vkind),(Qr,vpool),(Qi,vdrawn),(Qg,vname),(Qe,vattrs),(Qj,vahead),(Qn,vk),(Qu,vnumbers),(Qf,vgap),(Qs,vis_closing)])
theorem Ueu(vscript vsigns verrors vhead vtag vend vkind vpool vdrawn vname vattrs vahead vk vnumbers vgap vis_closing:V):J__law_tag_4 p c [(Qo,vscript),(Qa,vsigns),(Qb,verrors),(Qp,vhead),(Qq,vtag),(Qh,vend),(Ql,vkind),(Qr,vpool),(Qi,vdrawn),(Qg,vname),(Qe,vattrs),(Qj,vahead),(Qn,vk),(Qu,vnumbers),(Qf,vgap),(Qs,vis_closing)]=J__law_tag_4_T2 p c vscript vsigns verrors vhead vtag vend vkind vpool vdrawn vname vattrs vahead vk vnumbers vgap vis_closing:=by kernel_rfl
def J__law_tag_5_T0(vscript vsigns verrors vhead vtag vend vkind vpool vdrawn vname vattrs vahead vgap vis_closing:V):M Fl :=
bnd (look (cmpV .Eq vkind (.str Qh))) fun x90 =>
(cond x90
(bnd (ret (V.lst [])) fun x91 =>
bnd (look (cmpV .NotEq vattrs x91)) fun x92 =>
(cond x92
(bnd (look (methK (P p) verrors Qv)) fun x93 =>
if isRepl x93 then fail else bnd (builtinV .len [vsigns]) fun x94 =>
bnd (methodV c x93 verrors [(.tup [(.str Qcw),x94])]) fun x95 =>
J__law_tag_6 p c [(Qo,vscript),(Qa,vsigns),(Qb,verrors),(Qp,vhead),(Qq,vtag),(Qh,vend),(Ql,vkind),(Qr,vpool),(Qi,vdrawn),(Qg,vname),(Qe,vattrs),(Qj,vahead),(Qf,vgap),(Qs,vis_closing)])
(J__law_tag_6 p c [(Qo,vscript),(Qa,vsigns),(Qb,verrors),(Qp,vhead),(Qq,vtag),(Qh,vend),(Ql,vkind),(Qr,vpool),(Qi,vdrawn),(Qg,vname),(Qe,vattrs),(Qj,vahead),(Qf,vgap),(Qs,vis_closing)])))
(J__law_tag_6 p c [(Qo,vscript),(Qa,vsigns),(Qb,verrors),(Qp,vhead),(Qq,vtag),(Qh,vend),(Ql,vkind),(Qr,vpool),(Qi,vdrawn),(Qg,vname),(Qe,vattrs),(Qj,vahead),(Qf,vgap),(Qs,vis_closing)]))
theorem Ufb(vscript vsigns verrors vhead vtag vend vkind vpool vdrawn vname vattrs vahead vgap vis_closing:V):J__law_tag_5 p c [(Qo,vscript),(Qa,vsigns),(Qb,verrors),(Qp,vhead),(Qq,vtag),(Qh,vend),(Ql,vkind),(Qr,vpool),(Qi,vdrawn),(Qg,vname),(Qe,vattrs),(Qj,vahead),(Qf,vgap),(Qs,vis_closing)]=J__law_tag_5_T0 p c vscript vsigns verrors vhead vtag vend vkind vpool vdrawn vname vattrs vahead vgap vis_closing:=by kernel_rfl
def J__law_tag_5_T1(vscript vsigns verrors vhead vtag vend vkind vpool vdrawn vname vattrs vahead vk vgap vis_closing:V):M Fl :=
bnd (look (cmpV .Eq vkind (.str Qh))) fun x96 =>
(cond x96
(bnd (ret (V.lst [])) fun x97 =>
bnd (look (cmpV .NotEq vattrs x97)) fun x98 =>
(cond x98
(bnd (look (methK (P p) verrors Qv)) fun x99 =>
if isRepl x99 then fail else bnd (builtinV .len [vsigns]) fun x100 =>
bnd (methodV c x99 verrors [(.tup [(.str Qcw),x100])]) fun x101 =>
J__law_tag_6 p c [(Qo,vscript),(Qa,vsigns),(Qb,verrors),(Qp,vhead),(Qq,vtag),(Qh,vend),(Ql,vkind),(Qr,vpool),(Qi,vdrawn),(Qg,vname),(Qe,vattrs),(Qj,vahead),(Qn,vk),(Qf,vgap),(Qs,vis_closing)])
(J__law_tag_6 p c [(Qo,vscript),(Qa,vsigns),(Qb,verrors),(Qp,vhead),(Qq,vtag),(Qh,vend),(Ql,vkind),(Qr,vpool),(Qi,vdrawn),(Qg,vname),(Qe,vattrs),(Qj,vahead),(Qn,vk),(Qf,vgap),(Qs,vis_closing)])))
(J__law_tag_6 p c [(Qo,vscript),(Qa,vsigns),(Qb,verrors),(Qp,vhead),(Qq,vtag),(Qh,vend),(Ql,vkind),(Qr,vpool),(Qi,vdrawn),(Qg,vname),(Qe,vattrs),(Qj,vahead),(Qn,vk),(Qf,vgap),(Qs,vis_closing)]))
theorem Uev(vscript vsigns verrors vhead vtag vend vkind vpool vdrawn vname vattrs vahead vk vgap vis_closing:V):J__law_tag_5 p c [(Qo,vscript),(Qa,vsigns),(Qb,verrors),(Qp,vhead),(Qq,vtag),(Qh,vend),(Ql,vkind),(Qr,vpool),(Qi,vdrawn),(Qg,vname),(Qe,vattrs),(Qj,vahead),(Qn,vk),(Qf,vgap),(Qs,vis_closing)]=J__law_tag_5_T1 p c vscript vsigns verrors vhead vtag vend vkind vpool vdrawn vname vattrs vahead vk vgap vis_closing:=by kernel_rfl
def J__law_tag_5_T2(vscript vsigns verrors vhead vtag vend vkind vpool vdrawn vname vattrs vahead vk vnumbers vgap vis_closing:V):M Fl :=
bnd (look (cmpV .Eq vkind (.str Qh))) fun x102 =>
(cond x102
(bnd (ret (V.lst [])) fun x103 =>
bnd (look (cmpV .NotEq vattrs x103)) fun x104 =>
(cond x104
(bnd (look (methK (P p) verrors Qv)) fun x105 =>
if isRepl x105 then fail else bnd (builtinV .len [vsigns]) fun x106 =>
bnd (methodV c x105 verrors [(.tup [(.str Qcw),x106])]) fun x107 =>
J__law_tag_6 p c [(Qo,vscript),(Qa,vsigns),(Qb,verrors),(Qp,vhead),(Qq,vtag),(Qh,vend),(Ql,vkind),(Qr,vpool),(Qi,vdrawn),(Qg,vname),(Qe,vattrs),(Qj,vahead),(Qn,vk),(Qu,vnumbers),(Qf,vgap),(Qs,vis_closing)])
(J__law_tag_6 p c [(Qo,vscript),(Qa,vsigns),(Qb,verrors),(Qp,vhead),(Qq,vtag),(Qh,vend),(Ql,vkind),(Qr,vpool),(Qi,vdrawn),(Qg,vname),(Qe,vattrs),(Qj,vahead),(Qn,vk),(Qu,vnumbers),(Qf,vgap),(Qs,vis_closing)])))
(J__law_tag_6 p c [(Qo,vscript),(Qa,vsigns),(Qb,verrors),(Qp,vhead),(Qq,vtag),(Qh,vend),(Ql,vkind),(Qr,vpool),(Qi,vdrawn),(Qg,vname),(Qe,vattrs),(Qj,vahead),(Qn,vk),(Qu,vnumbers),(Qf,vgap),(Qs,vis_closing)]))
theorem Ueq(vscript vsigns verrors vhead vtag vend vkind vpool vdrawn vname vattrs vahead vk vnumbers vgap vis_closing:V):J__law_tag_5 p c [(Qo,vscript),(Qa,vsigns),(Qb,verrors),(Qp,vhead),(Qq,vtag),(Qh,vend),(Ql,vkind),(Qr,vpool),(Qi,vdrawn),(Qg,vname),(Qe,vattrs),(Qj,vahead),(Qn,vk),(Qu,vnumbers),(Qf,vgap),(Qs,vis_closing)]=J__law_tag_5_T2 p c vscript vsigns verrors vhead vtag vend vkind vpool vdrawn vname vattrs vahead vk vnumbers vgap vis_closing:=by kernel_rfl
def J__law_tag_6_T0(vscript vsigns verrors vhead vtag vend vkind vpool vdrawn vname vattrs vahead vgap vis_closing:V):M Fl :=
bnd (look (cmpV .Eq vkind (.str Qh))) fun x108 =>
(cond x108
((match isT vis_closing with
| some x109=>(cond x109
(bnd (look (methK (P p) verrors Qv)) fun x110 =>
if isRepl x110 then fail else bnd (builtinV .len [vsigns]) fun x111 =>
bnd (methodV c x110 verrors [(.tup [(.str Qcv),x111])]) fun x112 =>
J__law_tag_7 p c [(Qo,vscript),(Qa,vsigns),(Qb,verrors),(Qp,vhead),(Qq,vtag),(Qh,vend),(Ql,vkind),(Qr,vpool),(Qi,vdrawn),(Qg,vname),(Qe,vattrs),(Qj,vahead),(Qf,vgap),(Qs,vis_closing)])
(J__law_tag_7 p c [(Qo,vscript),(Qa,vsigns),(Qb,verrors),(Qp,vhead),(Qq,vtag),(Qh,vend),(Ql,vkind),(Qr,vpool),(Qi,vdrawn),(Qg,vname),(Qe,vattrs),(Qj,vahead),(Qf,vgap),(Qs,vis_closing)]))
| none=>fail))
(J__law_tag_7 p c [(Qo,vscript),(Qa,vsigns),(Qb,verrors),(Qp,vhead),(Qq,vtag),(Qh,vend),(Ql,vkind),(Qr,vpool),(Qi,vdrawn),(Qg,vname),(Qe,vattrs),(Qj,vahead),(Qf,vgap),(Qs,vis_closing)]))
theorem Ufs(vscript vsigns verrors vhead vtag vend vkind vpool vdrawn vname vattrs vahead vgap vis_closing:V):J__law_tag_6 p c [(Qo,vscript),(Qa,vsigns),(Qb,verrors),(Qp,vhead),(Qq,vtag),(Qh,vend),(Ql,vkind),(Qr,vpool),(Qi,vdrawn),(Qg,vname),(Qe,vattrs),(Qj,vahead),(Qf,vgap),(Qs,vis_closing)]=J__law_tag_6_T0 p c vscript vsigns verrors vhead vtag vend vkind vpool vdrawn vname vattrs vahead vgap vis_closing:=by kernel_rfl
def J__law_tag_6_T1(vscript vsigns verrors vhead vtag vend vkind vpool vdrawn vname vattrs vahead vk vgap vis_closing:V):M Fl :=
bnd (look (cmpV .Eq vkind (.str Qh))) fun x113 =>
(cond x113
((match isT vis_closing with
| some x114=>(cond x114
(bnd (look (methK (P p) verrors Qv)) fun x115 =>
if isRepl x115 then fail else bnd (builtinV .len [vsigns]) fun x116 =>
bnd (methodV c x115 verrors [(.tup [(.str Qcv),x116])]) fun x117 =>
J__law_tag_7 p c [(Qo,vscript),(Qa,vsigns),(Qb,verrors),(Qp,vhead),(Qq,vtag),(Qh,vend),(Ql,vkind),(Qr,vpool),(Qi,vdrawn),(Qg,vname),(Qe,vattrs),(Qj,vahead),(Qn,vk),(Qf,vgap),(Qs,vis_closing)])
(J__law_tag_7 p c [(Qo,vscript),(Qa,vsigns),(Qb,verrors),(Qp,vhead),(Qq,vtag),(Qh,vend),(Ql,vkind),(Qr,vpool),(Qi,vdrawn),(Qg,vname),(Qe,vattrs),(Qj,vahead),(Qn,vk),(Qf,vgap),(Qs,vis_closing)]))
| none=>fail))
(J__law_tag_7 p c [(Qo,vscript),(Qa,vsigns),(Qb,verrors),(Qp,vhead),(Qq,vtag),(Qh,vend),(Ql,vkind),(Qr,vpool),(Qi,vdrawn),(Qg,vname),(Qe,vattrs),(Qj,vahead),(Qn,vk),(Qf,vgap),(Qs,vis_closing)]))
theorem Ues(vscript vsigns verrors vhead vtag vend vkind vpool vdrawn vname vattrs vahead vk vgap vis_closing:V):J__law_tag_6 p c [(Qo,vscript),(Qa,vsigns),(Qb,verrors),(Qp,vhead),(Qq,vtag),(Qh,vend),(Ql,vkind),(Qr,vpool),(Qi,vdrawn),(Qg,vname),(Qe,vattrs),(Qj,vahead),(Qn,vk),(Qf,vgap),(Qs,vis_closing)]=J__law_tag_6_T1 p c vscript vsigns verrors vhead vtag vend vkind vpool vdrawn vname vattrs vahead vk vgap vis_closing:=by kernel_rfl
def J__law_tag_6_T2(vscript vsigns verrors vhead vtag vend vkind vpool vdrawn vname vattrs vahead vk vnumbers vgap vis_closing:V):M Fl :=
bnd (look (cmpV .Eq vkind (.str Qh))) fun x118 =>
(cond x118
((match isT vis_closing with
| some x119=>(cond x119
(bnd (look (methK (P p) verrors Qv)) fun x120 =>
if isRepl x120 then fail else bnd (builtinV .len [vsigns]) fun x121 =>
bnd (methodV c x120 verrors [(.tup [(.str Qcv),x121])]) fun x122 =>
J__law_tag_7 p c [(Qo,vscript),(Qa,vsigns),(Qb,verrors),(Qp,vhead),(Qq,vtag),(Qh,vend),(Ql,vkind),(Qr,vpool),(Qi,vdrawn),(Qg,vname),(Qe,vattrs),(Qj,vahead),(Qn,vk),(Qu,vnumbers),(Qf,vgap),(Qs,vis_closing)])
(J__law_tag_7 p c [(Qo,vscript),(Qa,vsigns),(Qb,verrors),(Qp,vhead),(Qq,vtag),(Qh,vend),(Ql,vkind),(Qr,vpool),(Qi,vdrawn),(Qg,vname),(Qe,vattrs),(Qj,vahead),(Qn,vk),(Qu,vnumbers),(Qf,vgap),(Qs,vis_closing)]))
| none=>fail))
(J__law_tag_7 p c [(Qo,vscript),(Qa,vsigns),(Qb,verrors),(Qp,vhead),(Qq,vtag),(Qh,vend),(Ql,vkind),(Qr,vpool),(Qi,vdrawn),(Qg,vname),(Qe,vattrs),(Qj,vahead),(Qn,vk),(Qu,vnumbers),(Qf,vgap),(Qs,vis_closing)]))
theorem Ufj(vscript vsigns verrors vhead vtag vend vkind vpool vdrawn vname vattrs vahead vk vnumbers vgap vis_closing:V):J__law_tag_6 p c [(Qo,vscript),(Qa,vsigns),(Qb,verrors),(Qp,vhead),(Qq,vtag),(Qh,vend),(Ql,vkind),(Qr,vpool),(Qi,vdrawn),(Qg,vname),(Qe,vattrs),(Qj,vahead),(Qn,vk),(Qu,vnumbers),(Qf,vgap),(Qs,vis_closing)]=J__law_tag_6_T2 p c vscript vsigns verrors vhead vtag vend vkind vpool vdrawn vname vattrs vahead vk vnumbers vgap vis_closing:=by kernel_rfl
def J__law_tag_7_T0(vscript vsigns verrors vhead vtag vend vkind vpool vdrawn vname vattrs vahead vgap vis_closing:V):M Fl :=
mc p c vsigns Qv [(.str Qar)] fun x124 =>
bnd (builtinV .tuple [vattrs]) fun x125 =>
ret (.ret (.tup [vkind,vname,x125,vis_closing]))
theorem Uex(vscript vsigns verrors vhead vtag vend vkind vpool vdrawn vname vattrs vahead vgap vis_closing:V):J__law_tag_7 p c [(Qo,vscript),(Qa,vsigns),(Qb,verrors),(Qp,vhead),(Qq,vtag),(Qh,vend),(Ql,vkind),(Qr,vpool),(Qi,vdrawn),(Qg,vname),(Qe,vattrs),(Qj,vahead),(Qf,vgap),(Qs,vis_closing)]=J__law_tag_7_T0 p c vscript vsigns verrors vhead vtag vend vkind vpool vdrawn vname vattrs vahead vgap vis_closing:=by kernel_rfl
def J__law_tag_7_T1(vscript vsigns verrors vhead vtag vend vkind vpool vdrawn vname vattrs vahead vk vgap vis_closing:V):M Fl :=
mc p c vsigns Qv [(.str Qar)] fun x127 =>
bnd (builtinV .tuple [vattrs]) fun x128 =>
ret (.ret (.tup [vkind,vname,x128,vis_closing]))
theorem Ufl(vscript vsigns verrors vhead vtag vend vkind vpool vdrawn vname vattrs vahead vk vgap vis_closing:V):J__law_tag_7 p c [(Qo,vscript),(Qa,vsigns),(Qb,verrors),(Qp,vhead),(Qq,vtag),(Qh,vend),(Ql,vkind),(Qr,vpool),(Qi,vdrawn),(Qg,vname),(Qe,vattrs),(Qj,vahead),(Qn,vk),(Qf,vgap),(Qs,vis_closing)]=J__law_tag_7_T1 p c vscript vsigns verrors vhead vtag vend vkind vpool vdrawn vname vattrs vahead vk vgap vis_closing:=by kernel_rfl
def J__law_tag_7_T2(vscript vsigns verrors vhead vtag vend vkind vpool vdrawn vname vattrs vahead vk vnumbers vgap vis_closing:V):M Fl :=
mc p c vsigns Qv [(.str Qar)] fun x130 =>
bnd (builtinV .tuple [vattrs]) fun x131 =>
ret (.ret (.tup [vkind,vname,x131,vis_closing]))
theorem Ue6(vscript vsigns verrors vhead vtag vend vkind vpool vdrawn vname vattrs vahead vk vnumbers vgap vis_closing:V):J__law_tag_7 p c [(Qo,vscript),(Qa,vsigns),(Qb,verrors),(Qp,vhead),(Qq,vtag),(Qh,vend),(Ql,vkind),(Qr,vpool),(Qi,vdrawn),(Qg,vname),(Qe,vattrs),(Qj,vahead),(Qn,vk),(Qu,vnumbers),(Qf,vgap),(Qs,vis_closing)]=J__law_tag_7_T2 p c vscript vsigns verrors vhead vtag vend vkind vpool vdrawn vname vattrs vahead vk vnumbers vgap vis_closing:=by kernel_rfl
def F__law_tag(vscript vsigns verrors:V):M Fl :=
bnd (c a__law_number [vscript,(.int 0)]) fun x1 =>
bnd (c a__law_number [vscript,(.int 1)]) fun x2 =>
bnd (c a__law_number [vscript,(.int 18)]) fun x3 =>
bnd (look (binV .Mod x1 (.int 2))) fun x4 =>
bnd (look (cmpV .Eq x4 (.int 1))) fun x5 =>
(if x5 then
J__law_tag_0 p c [(Qo,vscript),(Qa,vsigns),(Qb,verrors),(Qp,x1),(Qq,x2),(Qh,x3),(Ql,(.str Qh))]
else
J__law_tag_0 p c [(Qo,vscript),(Qa,vsigns),(Qb,verrors),(Qp,x1),(Qq,x2),(Qh,x3),(Ql,(.str Qbo))])
theorem Uk2(d:Nat)(vscript vsigns verrors:V):callK (P p) (d+1) a__law_tag [vscript,vsigns,verrors]=bnd (F__law_tag p (callK (P p) d) vscript vsigns verrors) unFl:=by kernel_rfl
def fd_law:Fn:=fnAt (K p) [] a_law
def sc_law:Scope:=(fd_law p).scope
def bo_law:List Stmt:=(fd_law p).body
def J_law_0(fr:Fr):M Fl:=execK (P p) c (sc_law p) 53 fr ((bo_law p).drop 7) (fun fr=>ret (.next fr))
noncomputable def J_law_0_T0(p:Params)(c:CC)(vscript vsigns verrors vtoken vstates vt:V):M Fl :=
bnd (attrV (P p) vt Qad) fun x23 =>
bnd (attrV (P p) vt Qb) fun x24 =>
bnd (attrV (P p) vt Qap) fun x25 =>
bnd (attrV (P p) vt Qao) fun x26 =>
bnd (attrV (P p) vt Qal) fun x27 =>
bnd (ret (V.lst [vtoken])) fun x28 =>
bnd (builtinV .len [vsigns]) fun x29 =>
bnd (look (itemV vtoken (.int 0))) fun x30 =>
bnd (look (cmpV .Eq x30 (.str Qbo))) fun x31 =>
(if x31 then
bnd (look (itemV vtoken (.int 1))) fun x32 =>
bnd (look (cmpV .Eq (.tup [x23,x24,x25,x26,x27]) (.tup [x28,verrors,(.str Qbi),x29,x32]))) fun x33 =>
ret (.ret (.bool x33))
else
bnd (look (cmpV .Eq (.tup [x23,x24,x25,x26,x27]) (.tup [x28,verrors,(.str Qbi),x29,(.str (Y "ta"))]))) fun x34 =>
ret (.ret (.bool x34)))
theorem Uj5(vscript vsigns verrors vtoken vstates vt:V):J_law_0 p c [(Qo,vscript),(Qa,vsigns),(Qb,verrors),(Qbc,vtoken),(Qax,vstates),(Qm,vt)]=J_law_0_T0 p c vscript vsigns verrors vtoken vstates vt:=by kernel_rfl
def F_law(vscript:V):M Fl :=
bnd (newL 11 []) fun x1 =>
bnd (newL 12 []) fun x2 =>
bnd (c a__law_tag [vscript,x1,x2]) fun x3 =>
bnd (c a_tag_states []) fun x4 =>
bnd (look (methK (P p) x4 (Y "update"))) fun x5 =>
if isRepl x5 then fail else bnd (c a_attr_states []) fun x6 =>
bnd (methodV c x5 x4 [x6]) fun x7 =>
bnd (applyV (P p) c (.fn c_Tokenizer) [x4,(.str Qba),(.str (Y "ta"))]) fun x8 =>
bnd (look (methK (P p) x8 Qci)) fun x9 =>
if isRepl x9 then fail else bnd (look (methK (P p) (.str Qt) (Y "join"))) fun x10 =>
if isRepl x10 then fail else bnd (methodV c x10 (.str Qt) [x1]) fun x11 =>
bnd (look (binV .Add x11 (.str Qbm))) fun x12 =>
bnd (methodV c x9 x8 [x12]) fun x13 =>
mc p c x8 (Y "run") [] fun x15 =>
(match isT x15 with
| some x16=>(cond x16
(ret (.ret (.bool false)))
(bnd (attrV (P p) x8 Qw) fun x17 =>
bnd (look (cmpV .IsNot x17 .none)) fun x18 =>
(cond x18
(ret (.ret (.bool false)))
(bnd (attrV (P p) x8 Qbq) fun x19 =>
bnd (attrV (P p) x19 Qb) fun x20 =>
bnd (ret (V.lst [])) fun x21 =>
bnd (look (cmpV .NotEq x20 x21)) fun x22 =>
(cond x22
(ret (.ret (.bool false)))
(J_law_0 p c [(Qo,vscript),(Qa,x1),(Qb,x2),(Qbc,x3),(Qax,x4),(Qm,x8)]))))))
| none=>fail)
theorem B_law(d:Nat)(vscript:V):callK (P p) (d+1) a_law [vscript]=bnd (F_law p (callK (P p) d) vscript) unFl:=by kernel_rfl
end
noncomputable def Run{α:Type}(m:M α)(O:Store)(Q:α->Store->Prop):Prop:=∃ a O',m O=some (a,O')/\Q a O'
noncomputable def RF(m:M Fl)(O:Store)(Q:V->Store->Prop):Prop:=Run (bnd m unFl) O Q
section
variable {α β:Type}{O O' O₁:Store}
theorem bnd_of{m:M α}{k:α->M β}{a:α}(h:m O=some (a,O₁)):bnd m k O=k a O₁:=by delta bnd;rw [h]
theorem b_of{m:M α}{k:α->M β}{a:α}{r:Option (β×Store)}(h:m O=some (a,O₁))(g:k a O₁=r):bnd m k O=r:=(bnd_of h).trans g
theorem ba_of{γ:Type}{m:M γ}{j:γ->M α}{k:α->M β}{a:γ}{r:Option (β×Store)}(h:m O=some (a,O₁))(g:bnd (j a) k O₁=r):bnd (bnd m j) k O=r:=by rw [Ua3];exact b_of h g
theorem Run.b{m:M α}{k:α->M β}{a:α}{Q:β->Store->Prop}(h:m O=some (a,O₁))(g:Run (k a) O₁ Q):Run (bnd m k) O Q:=xEEAA g fun b s e q=>⟨b,s,(bnd_of h).trans e,q⟩
theorem Run.c{m:M α}{k:α->M β}{Q1:α->Store->Prop}{Q:β->Store->Prop}(h:Run m O Q1)(g:∀ a O',Q1 a O'->Run (k a) O' Q):Run (bnd m k) O Q:=xEEAA h fun a s e q=>Run.b e (g a s q)
theorem Run.r{a:α}{Q:α->Store->Prop}(h:Q a O):Run (ret a) O Q:=⟨a,O,rfl,h⟩
theorem Run.mono{m:M α}{Q Q':α->Store->Prop}(h:Run m O Q)(g:∀ a s,Q a s->Q' a s):Run m O Q':=by refine xEEAA h fun a s e q=>?_;exact ⟨a,s,e,g a s q⟩
theorem RF.b{m:M α}{k:α->M Fl}{a:α}{Q:V->Store->Prop}(h:m O=some (a,O₁))(g:RF (k a) O₁ Q):RF (bnd m k) O Q:=by
 delta RF at *;rw [Ua3];exact Run.b h g
theorem RF.c{m:M α}{k:α->M Fl}{Q1:α->Store->Prop}{Q:V->Store->Prop}(h:Run m O Q1)(g:∀ a O',Q1 a O'->RF (k a) O' Q):RF (bnd m k) O Q:=by
 refine xEEAA h fun a s e q=>?_;exact RF.b e (g a s q)
theorem RF.r{v:V}{Q:V->Store->Prop}(h:Q v O):RF (ret (.ret v)) O Q:=⟨v,O,rfl,h⟩
theorem RF.n{fr:Fr}{Q:V->Store->Prop}(h:Q .none O):RF (ret (.next fr)) O Q:=⟨.none,O,rfl,h⟩
theorem RF.b1{a:α}{k:α->M Fl}{Q:V->Store->Prop}(g:RF (k a) O Q):RF (bnd (ret a) k) O Q:=RF.b rfl g
theorem RF.l{f:Store->Option α}{k:α->M Fl}{a:α}{Q:V->Store->Prop}(h:f O=some a)(g:RF (k a) O Q):RF (bnd (look f) k) O Q:=RF.b (by delta look;rw [h]) g
theorem RF.pos{c:Prop}[Decidable c]{a b:M Fl}{Q:V->Store->Prop}(h:c)(g:RF a O Q):RF (if c then a else b) O Q:=by rw [if_pos h];exact g
theorem RF.neg{c:Prop}[Decidable c]{a b:M Fl}{Q:V->Store->Prop}(h:¬ c)(g:RF b O Q):RF (if c then a else b) O Q:=by rw [if_neg h];exact g
theorem RF.mono{m:M Fl}{Q Q':V->Store->Prop}(h:RF m O Q)(g:∀ a s,Q a s->Q' a s):RF m O Q':=Run.mono h g
theorem ob_of{x:Option α}{f:α->β}{z:β}{a:α}(h:x=some a):ob x f z=f a:=by rw [h]
theorem ob_no{x:Option α}{f:α->β}{z:β}(h:x=none):ob x f z=z:=by rw [h]
noncomputable def clsHas(c:Addr)(x:Str):Bool:=ob (lkN c clsL) (fun k=>k.attrs.contains x) false
theorem Upa{c:Addr}{x:Str}{P:Prop}(h:clsHas c x=true)(k:∀ k,lkN c clsL=some k->k.attrs.contains x=true->P):P:=by
 delta clsHas at h;cases q:lkN c clsL with
 | none=>rw [q] at h;cases h
 | some a=>rw [q] at h;exact k a q h
theorem Uep{r i:Nat}{o:Ob}(h:O.get r i=some o):objO O (.ref r i)=some (r,i,o):=ob_of h
theorem Um5{p:Params}{r i:Nat}{c:Addr}{es:List (Str×V)}{k:Cls}(h:O.get r i=some (.inst c es))(hk:lkN c clsL=some k):instO (P p) O (.ref r i)=some (r,i,c,es,k) :=
 (ob_of (Uep h)).trans (ob_of (f:=fun k=>some (r,i,c,es,k)) (z:=none) hk)
theorem Uao{p:Params}{r i:Nat}{c:Addr}{es:List (Str×V)}{x:Str}{v:V}(h:O.get r i=some (.inst c es))(hx:clsHas c x=true)(hv:lk x es=some v):attrV (P p) (.ref r i) x O=some (v,O):=Upa hx fun k hk ha=>by
 have e:attrO (P p) (.ref r i) x O=some v:=(ob_of (Um5 h hk)).trans ((if_pos ha).trans hv);delta attrV look;rw [e]
theorem Uag{p:Params}{r i:Nat}{c:Addr}{es es':List (Str×V)}{x:Str}{v:V}(h:O.get r i=some (.inst c es))(hx:clsHas c x=true)(hl:es.length < 100)(hv:setK x v es=es') :
  setAttrV (P p) (.ref r i) x v O=some ((),O.put r i (.inst c es')):=Upa hx fun k hk ha=>hv▸(ob_of (Um5 h hk)).trans (if_pos (Bool.and_eq_true_iff.mpr ⟨ha,decide_eq_true hl⟩))
noncomputable def clsMeth(c:Addr)(x:Str):Option Addr:=ob (lkN c clsL) (fun k=>lk x k.meths) none
theorem Uf6{r i:Nat}{vs:List V}(h:O.get r i=some (.list vs)):lref O (.ref r i)=some (r,i,vs):=ob_of (Uep h)
theorem Uhk{r i:Nat}{vs:List (Str×V)}(h:O.get r i=some (.dict vs)):dref O (.ref r i)=some (r,i,vs):=ob_of (Uep h)
theorem asl_of{r i:Nat}{vs:List V}(h:O.get r i=some (.list vs)):asList O (.ref r i)=some vs:=ob_of (f:=fun z:Nat×Nat×List V=>some z.2.2) (z:=none) (Uf6 h)
theorem Uam{p:Params}{r i:Nat}{c f:Addr}{es:List (Str×V)}{x:Str}(h:O.get r i=some (.inst c es))(hx:clsMeth c x=some f)(hn:lk x es=none):methK (P p) (.ref r i) x O=some (.fn f):=obS hx fun k hk hf =>
 (ob_no (ob_of (Uep h))).trans ((ob_no (ob_of (Uep h))).trans ((ob_of (Um5 h hk)).trans ((ob_of hf).trans (ob_no hn))))
theorem Ujy{p:Params}{r i:Nat}{vs:List V}{x:Str}(h:O.get r i=some (.list vs)):methK (P p) (.ref r i) x O=(listM x).map .bi:=ob_of (f:=fun w0=>(listM x).map MK.bi) (Uf6 h)
theorem Ujc{p:Params}{r i:Nat}{es:List (Str×V)}{x:Str}(h:O.get r i=some (.dict es)):methK (P p) (.ref r i) x O=(dictM x).map .bi :=
 (ob_no (ob_of (Uep h))).trans (ob_of (f:=fun w0=>(dictM x).map MK.bi) (Uhk h))
theorem RF.m{p:Params}{c:CC}{r i:Nat}{C f:Addr}{es:List (Str×V)}{x:Str}{k:MK->M Fl}{Q:V->Store->Prop}(h:O.get r i=some (.inst C es))(hx:clsMeth C x=some f)(hn:lk x es=none)
  (g:RF (k (.fn f)) O Q):RF (bnd (look (methK (P p) (.ref r i) x)) fun m=>if isRepl m then fail else k m) O Q :=
 RF.l (Uam h hx hn) (RF.neg (by delta isRepl;exact Bool.false_ne_true) g)
theorem RF.ml{p:Params}{r i:Nat}{vs:List V}{x:Str}{id:Mi}{k:MK->M Fl}{Q:V->Store->Prop}(h:O.get r i=some (.list vs))(hx:listM x=some id)(hr:isRepl (.bi id)=false)
  (g:RF (k (.bi id)) O Q):RF (bnd (look (methK (P p) (.ref r i) x)) fun m=>if isRepl m then fail else k m) O Q :=
 RF.l ((Ujy h).trans (by rw [hx];rfl)) (RF.neg (by rw [hr];decide) g)
theorem RF.md{p:Params}{r i:Nat}{es:List (Str×V)}{x:Str}{id:Mi}{k:MK->M Fl}{Q:V->Store->Prop}(h:O.get r i=some (.dict es))(hx:dictM x=some id)(hr:isRepl (.bi id)=false)
  (g:RF (k (.bi id)) O Q):RF (bnd (look (methK (P p) (.ref r i) x)) fun m=>if isRepl m then fail else k m) O Q :=
 RF.l ((Ujc h).trans (by rw [hx];rfl)) (RF.neg (by rw [hr];decide) g)
theorem RF.ms{p:Params}{s x:Str}{id:Mi}{k:MK->M Fl}{Q:V->Store->Prop}(hx:strM x=some id)(hr:isRepl (.bi id)=false)
  (g:RF (k (.bi id)) O Q):RF (bnd (look (methK (P p) (.str s) x)) fun m=>if isRepl m then fail else k m) O Q :=
 RF.l (a:=.bi id) (show (strM x).map MK.bi=_ by rw [hx];rfl) (RF.neg (by rw [hr];decide) g)
theorem bi_of{n:Bi}{args:List V}{v:V}(h:bV n O args=some v):builtinV n args O=some (v,O):=by delta builtinV look;dsimp only;rw [h]
theorem Uad{c:CC}{r i:Nat}{vs:List V}{v:V}(h:O.get r i=some (.list vs))(hl:vs.length < lim):methodV c (.bi .append) (.ref r i) [v] O=some (.none,O.put r i (.list (vs++[v]))):=by
 show ob (lref O (.ref r i)) _ _=_;exact (ob_of (Uf6 h)).trans (if_pos hl)
theorem Uaq{r i:Nat}{o:Ob}:(O.put r i o).length=O.length:=by delta Store.put;rw [List.length_modify]
theorem Uba{r:Nat}{o:Ob}:(O.add r o).length=O.length:=by delta Store.add;rw [List.length_modify]
theorem reg_of{r:Nat}(h:O.length=24)(hr:r < 24):∃ l,O[r]?=some l:=⟨O[r]'(Nat.lt_of_lt_of_eq hr (id (Eq.symm h))),List.getElem?_eq_getElem _⟩
theorem Uaj{r i:Nat}{o o':Ob}(h:O.get r i=some o'):(O.put r i o).get r i=some o:=by rw [Store.get_put h];simp
theorem Uac{r i r' i':Nat}{o o':Ob}(h:O.get r i=some o')(hr:r'≠r):(O.put r i o).get r' i'=O.get r' i':=by rw [Store.get_put h];simp [hr]
theorem Ua0{r:Nat}{l:List Ob}{o:Ob}(h:O[r]?=some l):(O.add r o).get r l.length=some o:=by rw [Store.get_add h];simp
set_option tactic.hygienic true in
theorem Ub5{r r' i':Nat}{l:List Ob}{o o':Ob}(h:O[r]?=some l)(e:O.get r' i'=some o'):(O.add r o).get r' i'=some o':=by
 rw [Store.get_add h];split
 ·rename_i q;refine xAA q fun qz1 qz2=>?_;subst qz1;subst qz2;rw [Store.get_end h] at e;cases e
 ·exact e
theorem Uc6{r i r':Nat}{o:Ob}(hr:r'≠r):(O.put r i o)[r']?=O[r']?:=by
 delta Store.put;rw [List.getElem?_modify];simp only [if_neg (fun e:r=r'=>hr e.symm)];cases O[r']? <;> rfl
theorem Uft{r r':Nat}{o:Ob}(hr:r'≠r):(O.add r o)[r']?=O[r']?:=by
 delta Store.add;rw [List.getElem?_modify];simp only [if_neg (fun e:r=r'=>hr e.symm)];cases O[r']? <;> rfl
noncomputable def tokR(r:Nat):Bool:=r==0||r==1||r==2||(4<=r&&r<=10)
noncomputable def Fx(O O':Store):Prop:=∀ r,tokR r=false->O'[r]?=O[r]?
theorem Fx.rfl:Fx O O:=fun w0 w0=>Eq.refl _
theorem Fx.trans{a b c:Store}(x:Fx a b)(y:Fx b c):Fx a c:=fun r h=>(y r h).trans (x r h)
theorem Fx.put{r i:Nat}{o:Ob}(h:tokR r=true):Fx O (O.put r i o):=fun r' h'=>Uc6 fun e=>by subst e;rw [h] at h';cases h'
theorem Fx.add{r:Nat}{o:Ob}(h:tokR r=true):Fx O (O.add r o):=fun r' h'=>Uft fun e=>by subst e;rw [h] at h';cases h'
theorem Fx.get{r i:Nat}(x:Fx O O')(h:tokR r=false):O'.get r i=O.get r i:=by delta Store.get;rw [x r h]
end
structure At where
 i:Nat
 n:Str
 v:Str
 k:Bool
structure Dr where
 i:Nat
 kind:Str
 name:Str
 closing:Bool
 al:Nat
 attrs:List At
structure TS where
 pos:Int
 state:Str
 back:Str
 last:Str
 out:List V
 errs:List V
 draft:Option Dr
 waiting:Bool
 done:Bool
 signs:List Str
 closed:Bool
 isret:Bool
 serr:List V
structure Rf where
 i:Nat
 s:Nat
 o:Nat
 e:Nat
 sg:Nat
 se:Nat
 sd:Nat
noncomputable def drV:Option Dr->V
 | some d=>.ref 0 d.i
 | none=>.none
noncomputable def tokEs(τ:Rf)(t:TS):List (Str×V):=[(Qax,.ref 3 τ.sd),(Qbq,.ref 1 τ.s),(Qao,.int t.pos),(Qap,.str t.state),(Qdd,.str t.back),(Qad,.ref 9 τ.o),(Qb,.ref 10 τ.e),(Qw,drV t.draft),(Y "buffer",.str Qt),(Qz,.int 0),(Qal,.str t.last),(Y "is_foreign",.bool false),(Qbr,.bool t.waiting),(Qcd,.bool t.done)]
noncomputable def drEs(d:Dr):List (Str×V):=[(Ql,.str d.kind),(Qg,.str d.name),(Qk,.str Qt),(Qco,.none),(Qcp,.none),(Qcq,.bool false),(Qs,.bool d.closing),(Qe,.ref 4 d.al)]
noncomputable def strEs(τ:Rf)(t:TS):List (Str×V):=[(Qa,.ref 7 τ.sg),(Qbe,.bool t.closed),(Qaw,.bool t.isret),(Qb,.ref 8 τ.se)]
noncomputable def stEs:List (Str×V):=[(Qba,.fn a_tag_open_state),(Y "end tag open",.fn a_end_tag_open_state),(Qai,.fn a_tag_name_state),(Qcr,.fn a_self_closing_state),(Qcc,.fn a_before_attr_name_state),(Qaj,.fn a_attr_name_state),(Qct,.fn a_after_attr_name_state),(Qde,.fn a_before_attr_value_state),(Y "attribute value (double-quoted)",.fn a_double_quoted_state),(Y "attribute value (single-quoted)",.fn a_single_quoted_state),(Y "attribute value (unquoted)",.fn a_unquoted_state),(Y "after attribute value (quoted)",.fn a_after_quoted_state)]
structure DR(O:Store)(d:Dr):Prop where
 obj:O.get 0 d.i=some (.inst c_Draft (drEs d))
 al:O.get 4 d.al=some (.list (d.attrs.map fun a=>.ref 5 a.i))
 each:∀ a ∈ d.attrs,O.get 5 a.i=some (.list [.str a.n,.str a.v,.bool a.k])
 nd:(d.attrs.map (·.i)).Nodup
structure TR(O:Store)(τ:Rf)(t:TS):Prop where
 len:O.length=24
 tok:O.get 2 τ.i=some (.inst c_Tokenizer (tokEs τ t))
 str:O.get 1 τ.s=some (.inst c_Stream (strEs τ t))
 sg:O.get 7 τ.sg=some (.list (t.signs.map .str))
 se:O.get 8 τ.se=some (.list t.serr)
 out:O.get 9 τ.o=some (.list t.out)
 err:O.get 10 τ.e=some (.list t.errs)
 sd:O.get 3 τ.sd=some (.dict stEs)
 dr:∀ d,t.draft=some d->DR O d
section
variable {p:Params}{O:Store}{τ:Rf}{t:TS}{d:Dr}
theorem Ugq(h:TR O τ t):attrV (P p) (.ref 2 τ.i) Qax O=some (.ref 3 τ.sd,O):=Uao h.tok (by kernel_rfl) (by kernel_rfl)
theorem Ucc(h:TR O τ t):attrV (P p) (.ref 2 τ.i) Qbq O=some (.ref 1 τ.s,O):=Uao h.tok (by kernel_rfl) (by kernel_rfl)
theorem ga_at(h:TR O τ t):attrV (P p) (.ref 2 τ.i) Qao O=some (.int t.pos,O):=Uao h.tok (by kernel_rfl) (by kernel_rfl)
theorem Ue8(h:TR O τ t):attrV (P p) (.ref 2 τ.i) Qap O=some (.str t.state,O):=Uao h.tok (by kernel_rfl) (by kernel_rfl)
theorem ga_out(h:TR O τ t):attrV (P p) (.ref 2 τ.i) Qad O=some (.ref 9 τ.o,O):=Uao h.tok (by kernel_rfl) (by kernel_rfl)
theorem Ujr(h:TR O τ t):attrV (P p) (.ref 2 τ.i) Qb O=some (.ref 10 τ.e,O):=Uao h.tok (by kernel_rfl) (by kernel_rfl)
theorem Ubk(h:TR O τ t):attrV (P p) (.ref 2 τ.i) Qw O=some (drV t.draft,O):=Uao h.tok (by kernel_rfl) (by kernel_rfl)
theorem Utl(h:TR O τ t):attrV (P p) (.ref 2 τ.i) Qal O=some (.str t.last,O):=Uao h.tok (by kernel_rfl) (by kernel_rfl)
theorem Ud2(h:TR O τ t):attrV (P p) (.ref 2 τ.i) Qbr O=some (.bool t.waiting,O):=Uao h.tok (by kernel_rfl) (by kernel_rfl)
theorem Uhy(h:TR O τ t):attrV (P p) (.ref 2 τ.i) Qcd O=some (.bool t.done,O):=Uao h.tok (by kernel_rfl) (by kernel_rfl)
theorem Udu(h:TR O τ t):attrV (P p) (.ref 1 τ.s) Qa O=some (.ref 7 τ.sg,O):=Uao h.str (by kernel_rfl) (by kernel_rfl)
theorem Ufm(h:TR O τ t):attrV (P p) (.ref 1 τ.s) Qbe O=some (.bool t.closed,O):=Uao h.str (by kernel_rfl) (by kernel_rfl)
theorem Uf0(h:TR O τ t):attrV (P p) (.ref 1 τ.s) Qaw O=some (.bool t.isret,O):=Uao h.str (by kernel_rfl) (by kernel_rfl)
theorem Unh(h:TR O τ t):attrV (P p) (.ref 1 τ.s) Qb O=some (.ref 8 τ.se,O):=Uao h.str (by kernel_rfl) (by kernel_rfl)
theorem Ui5(h:DR O d):attrV (P p) (.ref 0 d.i) Ql O=some (.str d.kind,O):=Uao h.obj (by kernel_rfl) (by kernel_rfl)
theorem Uo9(h:DR O d):attrV (P p) (.ref 0 d.i) Qg O=some (.str d.name,O):=Uao h.obj (by kernel_rfl) (by kernel_rfl)
theorem Usi(h:DR O d):attrV (P p) (.ref 0 d.i) Qk O=some (.str Qt,O):=Uao h.obj (by kernel_rfl) (by kernel_rfl)
theorem Ud3(h:DR O d):attrV (P p) (.ref 0 d.i) Qs O=some (.bool d.closing,O):=Uao h.obj (by kernel_rfl) (by kernel_rfl)
theorem Ubs(h:DR O d):attrV (P p) (.ref 0 d.i) Qe O=some (.ref 4 d.al,O):=Uao h.obj (by kernel_rfl) (by kernel_rfl)
theorem Ur7(h:TR O τ t):methK (P p) (.ref 2 τ.i) Qci O=some (.fn a_Tokenizer_feed):=Uam h.tok (by kernel_rfl) (by kernel_rfl)
theorem Uto(h:TR O τ t):methK (P p) (.ref 2 τ.i) Qaq O=some (.fn a_Tokenizer_next):=Uam h.tok (by kernel_rfl) (by kernel_rfl)
theorem mt_to(h:TR O τ t):methK (P p) (.ref 2 τ.i) Qag O=some (.fn a_Tokenizer_to):=Uam h.tok (by kernel_rfl) (by kernel_rfl)
theorem Up8(h:TR O τ t):methK (P p) (.ref 2 τ.i) Qam O=some (.fn a_Tokenizer_again):=Uam h.tok (by kernel_rfl) (by kernel_rfl)
theorem Uh9(h:TR O τ t):methK (P p) (.ref 2 τ.i) Qaa O=some (.fn a_Tokenizer_error):=Uam h.tok (by kernel_rfl) (by kernel_rfl)
theorem Usv(h:TR O τ t):methK (P p) (.ref 2 τ.i) (Y "emit") O=some (.fn a_Tokenizer_emit):=Uam h.tok (by kernel_rfl) (by kernel_rfl)
theorem Uh3(h:TR O τ t):methK (P p) (.ref 2 τ.i) Qcn O=some (.fn a_Tokenizer_emit_sign):=Uam h.tok (by kernel_rfl) (by kernel_rfl)
theorem Uh2(h:TR O τ t):methK (P p) (.ref 2 τ.i) Qcz O=some (.fn a_Tokenizer_emit_text):=Uam h.tok (by kernel_rfl) (by kernel_rfl)
theorem Uhw(h:TR O τ t):methK (P p) (.ref 2 τ.i) Qcj O=some (.fn a_Tokenizer_emit_draft):=Uam h.tok (by kernel_rfl) (by kernel_rfl)
theorem Uj6(h:TR O τ t):methK (P p) (.ref 2 τ.i) Qbu O=some (.fn a_Tokenizer_emit_eof):=Uam h.tok (by kernel_rfl) (by kernel_rfl)
theorem Us2(h:TR O τ t):methK (P p) (.ref 2 τ.i) (Y "step") O=some (.fn a_Tokenizer_step):=Uam h.tok (by kernel_rfl) (by kernel_rfl)
theorem Ukf(h:TR O τ t):methK (P p) (.ref 2 τ.i) Qda O=some (.fn a_Tokenizer_is_ready):=Uam h.tok (by kernel_rfl) (by kernel_rfl)
theorem mt_run(h:TR O τ t):methK (P p) (.ref 2 τ.i) (Y "run") O=some (.fn a_Tokenizer_run):=Uam h.tok (by kernel_rfl) (by kernel_rfl)
theorem Uso(h:TR O τ t):methK (P p) (.ref 1 τ.s) Qci O=some (.fn a_Stream_feed):=Uam h.str (by kernel_rfl) (by kernel_rfl)
theorem Uhm(h:DR O d):methK (P p) (.ref 0 d.i) Qch O=some (.fn a_Draft_begin_attr):=Uam h.obj (by kernel_rfl) (by kernel_rfl)
theorem Uf9(h:DR O d):methK (P p) (.ref 0 d.i) Qbx O=some (.fn a_Draft_add_name):=Uam h.obj (by kernel_rfl) (by kernel_rfl)
theorem Uiq(h:DR O d):methK (P p) (.ref 0 d.i) Qby O=some (.fn a_Draft_add_value):=Uam h.obj (by kernel_rfl) (by kernel_rfl)
theorem Uhu(h:DR O d):methK (P p) (.ref 0 d.i) Qcy O=some (.fn a_Draft_check_attr):=Uam h.obj (by kernel_rfl) (by kernel_rfl)
theorem Upw(h:DR O d):methK (P p) (.ref 0 d.i) Qbc O=some (.fn a_Draft_token):=Uam h.obj (by kernel_rfl) (by kernel_rfl)
theorem DR.put{r i:Nat}{o o':Ob}(h:DR O d)(e:O.get r i=some o')(hr:r≠0/\r≠4/\r≠5):DR (O.put r i o) d :=
 ⟨(Uac e (fun z=>hr.1 z.symm)).trans h.obj,(Uac e (fun z=>hr.2.1 z.symm)).trans h.al,fun a m=>(Uac e (fun z=>hr.2.2 z.symm)).trans (h.each a m),h.nd⟩
theorem TR.setTok{t':TS}(h:TR O τ t)(e1:t'.signs=t.signs)(e2:t'.closed=t.closed)(e3:t'.isret=t.isret)(e4:t'.serr=t.serr)(e5:t'.out=t.out)(e6:t'.errs=t.errs)(hd:∀ d,t'.draft=some d->DR O d) :
  TR (O.put 2 τ.i (.inst c_Tokenizer (tokEs τ t'))) τ t':=by
 have es:strEs τ t'=strEs τ t:=by delta strEs;rw [e2,e3]
 refine ⟨Uaq.trans h.len,Uaj h.tok,?_,?_,?_,?_,?_,?_,fun d e=>(hd d e).put h.tok ⟨by decide,by decide,by decide⟩⟩
 ·rw [Uac h.tok (by decide),es];exact h.str
 ·rw [Uac h.tok (by decide),e1];exact h.sg
 ·rw [Uac h.tok (by decide),e4];exact h.se
 ·rw [Uac h.tok (by decide),e5];exact h.out
 ·rw [Uac h.tok (by decide),e6];exact h.err
 ·rw [Uac h.tok (by decide)];exact h.sd
theorem sa_at(h:TR O τ t)(v:Int):∃ O',setAttrV (P p) (.ref 2 τ.i) Qao (.int v) O=some ((),O')/\TR O' τ { t with pos:=v }/\Fx O O' :=
 ⟨_,Uag (es':=tokEs τ { t with pos:=v }) h.tok (by kernel_rfl) (by show 14 < 100;decide) (by kernel_rfl),h.setTok rfl rfl rfl rfl rfl rfl h.dr,Fx.put rfl⟩
theorem Ums(h:TR O τ t)(v:Str):∃ O',setAttrV (P p) (.ref 2 τ.i) Qap (.str v) O=some ((),O')/\TR O' τ { t with state:=v }/\Fx O O' :=
 ⟨_,Uag (es':=tokEs τ { t with state:=v }) h.tok (by kernel_rfl) (by show 14 < 100;decide) (by kernel_rfl),h.setTok rfl rfl rfl rfl rfl rfl h.dr,Fx.put rfl⟩
theorem Us6(h:TR O τ t)(v:Str):∃ O',setAttrV (P p) (.ref 2 τ.i) Qdd (.str v) O=some ((),O')/\TR O' τ { t with back:=v }/\Fx O O' :=
 ⟨_,Uag (es':=tokEs τ { t with back:=v }) h.tok (by kernel_rfl) (by show 14 < 100;decide) (by kernel_rfl),h.setTok rfl rfl rfl rfl rfl rfl h.dr,Fx.put rfl⟩
theorem Usw(h:TR O τ t)(v:Str):∃ O',setAttrV (P p) (.ref 2 τ.i) Qal (.str v) O=some ((),O')/\TR O' τ { t with last:=v }/\Fx O O' :=
 ⟨_,Uag (es':=tokEs τ { t with last:=v }) h.tok (by kernel_rfl) (by show 14 < 100;decide) (by kernel_rfl),h.setTok rfl rfl rfl rfl rfl rfl h.dr,Fx.put rfl⟩
theorem Ud0(h:TR O τ t)(v:Bool):∃ O',setAttrV (P p) (.ref 2 τ.i) Qbr (.bool v) O=some ((),O')/\TR O' τ { t with waiting:=v }/\Fx O O' :=
 ⟨_,Uag (es':=tokEs τ { t with waiting:=v }) h.tok (by kernel_rfl) (by show 14 < 100;decide) (by kernel_rfl),h.setTok rfl rfl rfl rfl rfl rfl h.dr,Fx.put rfl⟩
theorem Umr(h:TR O τ t)(v:Bool):∃ O',setAttrV (P p) (.ref 2 τ.i) Qcd (.bool v) O=some ((),O')/\TR O' τ { t with done:=v }/\Fx O O' :=
 ⟨_,Uag (es':=tokEs τ { t with done:=v }) h.tok (by kernel_rfl) (by show 14 < 100;decide) (by kernel_rfl),h.setTok rfl rfl rfl rfl rfl rfl h.dr,Fx.put rfl⟩
theorem Uq5(h:TR O τ t)(v:Option Dr)(hd:∀ d,v=some d->DR O d):∃ O',setAttrV (P p) (.ref 2 τ.i) Qw (drV v) O=some ((),O')/\TR O' τ { t with draft:=v }/\Fx O O' :=
 ⟨_,Uag (es':=tokEs τ { t with draft:=v }) h.tok (by kernel_rfl) (by show 14 < 100;decide) (by kernel_rfl),h.setTok rfl rfl rfl rfl rfl rfl hd,Fx.put rfl⟩
end
section
variable {p:Params}{O O' O₁:Store}{τ:Rf}{t:TS}{d:Nat}{dr:Dr}
theorem len_list{r i:Nat}{vs:List V}(h:O.get r i=some (.list vs)):builtinV .len [.ref r i] O=some (.int vs.length,O):=by
 refine bi_of ?_;show ob (asList O (.ref r i)) _ _=_;rw [asl_of h]
theorem seq_no{o:V}{vs:List V}(h:asSeq O o=some vs):strO o=none/\dictO O o=none:=obE h (fun ws q w0=>by cases Ugr q;exact ⟨rfl,rfl⟩) fun w0 e=>obE e (fun ws q w0=>by cases Ueh q;exact ⟨rfl,rfl⟩) fun w0 e=>obS e fun z q w0=>by
 have w:=Ua2 q;rw [w.1];exact ⟨rfl,ob_no (show dref O (.ref z.1 z.2.1)=none from ob_of (Uep w.2))⟩
theorem Uk3{o:V}{vs:List V}{k:Int}{j:Nat}{v:V}(h:asSeq O o=some vs)(hi:idx k vs.length=some j)(hk:vs[j]?=some v):itemV o (.int k) O=some v :=
 (ob_no (seq_no h).1).trans ((ob_no (seq_no h).2).trans ((ob_of h).trans ((ob_of hi).trans hk)))
theorem Uhe{o:V}{vs:List V}{k:Int}{v:V}(h:asSeq O o=some vs)(hs:∀ s,o≠.str s)(h0:0<=k)(hk:vs[k.toNat]?=some v):itemV o (.int k) O=some v:=by
 exact Uk3 h ((if_pos h0).trans (if_pos (List.getElem?_eq_some_iff.mp hk).1)) hk
theorem Uju{r i:Nat}{vs:List V}(h:O.get r i=some (.list vs)):asSeq O (.ref r i)=some vs:=asl_of h
theorem Upo{r i:Nat}{es:List (Str×V)}(h:O.get r i=some (.dict es)):dictO O (.ref r i)=some es:=ob_of (f:=fun z:Nat×Nat×List (Str×V)=>some z.2.2) (z:=none) (Uhk h)
theorem Usk{r i:Nat}{es:List (Str×V)}{x:Str}{v:V}(h:O.get r i=some (.dict es))(hx:lk x es=some v):itemV (.ref r i) (.str x) O=some v:=(ob_of (Upo h)).trans hx
theorem Uo6{r i:Nat}{es:List (Str×V)}{x:Str}(h:O.get r i=some (.dict es)):inV O (.str x) (.ref r i)=some (lk x es).isSome:=ob_of (f:=fun es=>some (lk x es).isSome) (Upo h)
theorem in_tup{x:Str}{vs:List V}{l:List Str}(hl:strsOf vs=some l):inV O (.str x) (.tup vs)=some (l.any (·==x)):=ob_of (f:=fun l:List Str=>some (l.any (·==x))) (z:=none) hl
theorem ne_ref{r i:Nat}:∀ s,V.ref r i≠.str s:=fun s e=>by cases e
noncomputable def TS.cur(t:TS):Str:=if t.pos < t.signs.length then t.signs.getD t.pos.toNat "" else ""
noncomputable def TS.nxt(t:TS):TS:={ t with pos:=t.pos+1 }
noncomputable def TS.to(t:TS)(s:Str):TS:={ t with state:=s }
noncomputable def TS.again(t:TS)(s:Str):TS:={ t with pos:=t.pos - 1,state:=s }
noncomputable def errV(code:Str)(k:Int):V:=.tup [.str code,.int k]
noncomputable def TS.error(t:TS)(code:Str):TS:={ t with errs:=t.errs++[errV code (t.pos - 1)] }
noncomputable def chV(s:Str):V:=.tup [.str "char",.str s]
noncomputable def TS.put(t:TS)(v:V):TS:={ t with out:=t.out++[v] }
noncomputable def eofV:V:=.tup [.str "eof"]
theorem Urg(h:TR O τ t)(h0:0<=t.pos):Run (callK (P p) (d+1) a_Tokenizer_next [.ref 2 τ.i]) O fun v O'=>v=.str t.cur/\TR O' τ t.nxt/\Fx O O':=by
 rw [Uen];show RF _ O _;delta F_Tokenizer_next;refine xEAAA (sa_at (p:=p) h (t.pos+1)) fun O1 e1 h1 f1=>?_;refine RF.b (ga_at h) (RF.l rfl (RF.b e1 (RF.b (Ucc h1) (RF.b (Udu h1) (RF.b (len_list h1.sg) (RF.l rfl ?_))))));rw [List.length_map]
 by_cases hl:t.pos < (t.signs.length:Int)
 ·have hg:(t.signs.map V.str)[t.pos.toNat]?=some (.str t.cur):=by
   delta TS.cur;rw [if_pos hl,List.getElem?_map,List.getD_eq_getElem?_getD];have:t.pos.toNat < t.signs.length:=(Int.toNat_lt h0).mpr hl;rw [List.getElem?_eq_getElem this];rfl
  refine RF.pos (by simpa using hl) (RF.b (Ucc h1) (RF.b (Udu h1) (RF.l (Uhe (Uju h1.sg) ne_ref h0 hg) (RF.r ⟨rfl,h1,f1⟩))))
 ·refine RF.neg (by simpa using hl) ?_;rw [Uca];exact RF.r ⟨by delta TS.cur;rw [if_neg hl],h1,f1⟩
theorem to_run(h:TR O τ t)(s:Str):Run (callK (P p) (d+1) a_Tokenizer_to [.ref 2 τ.i,.str s]) O fun v O'=>v=.none/\TR O' τ (t.to s)/\Fx O O':=by
 rw [Ugu];show RF _ O _;delta F_Tokenizer_to;refine xEAAA (Ums (p:=p) h s) fun O1 e1 h1 f1=>?_;exact RF.b e1 (RF.n ⟨rfl,h1,f1⟩)
theorem Uoh(h:TR O τ t)(s:Str):Run (callK (P p) (d+1) a_Tokenizer_again [.ref 2 τ.i,.str s]) O fun v O'=>v=.none/\TR O' τ (t.again s)/\Fx O O':=by
 rw [Ueb];show RF _ O _;delta F_Tokenizer_again;refine xEAAA (sa_at (p:=p) h (t.pos - 1)) fun O1 e1 h1 f1=>?_;refine xEAAA (Ums (p:=p) h1 s) fun O2 e2 h2 f2=>?_;exact RF.b (ga_at h) (RF.l rfl (RF.b e1 (RF.b e2 (RF.n ⟨rfl,h2,f1.trans f2⟩))))
theorem TR.setErr{l:List V}(h:TR O τ t):TR (O.put 10 τ.e (.list l)) τ { t with errs:=l }/\Fx O (O.put 10 τ.e (.list l)) :=
 ⟨⟨Uaq.trans h.len,(Uac h.err (by decide)).trans h.tok,(Uac h.err (by decide)).trans h.str,(Uac h.err (by decide)).trans h.sg,(Uac h.err (by decide)).trans h.se,(Uac h.err (by decide)).trans h.out,Uaj h.err,
  (Uac h.err (by decide)).trans h.sd,fun d e=>(h.dr d e).put h.err ⟨by decide,by decide,by decide⟩⟩,Fx.put rfl⟩
theorem TR.setOut{l:List V}(h:TR O τ t):TR (O.put 9 τ.o (.list l)) τ { t with out:=l }/\Fx O (O.put 9 τ.o (.list l)) :=
 ⟨⟨Uaq.trans h.len,(Uac h.out (by decide)).trans h.tok,(Uac h.out (by decide)).trans h.str,(Uac h.out (by decide)).trans h.sg,(Uac h.out (by decide)).trans h.se,Uaj h.out,(Uac h.out (by decide)).trans h.err,
  (Uac h.out (by decide)).trans h.sd,fun d e=>(h.dr d e).put h.out ⟨by decide,by decide,by decide⟩⟩,Fx.put rfl⟩
theorem Ugk(h:TR O τ t)(s:Str)(hl:t.errs.length < lim):Run (callK (P p) (d+1) a_Tokenizer_error [.ref 2 τ.i,.str s]) O fun v O'=>v=.none/\TR O' τ (t.error s)/\Fx O O':=by
 rw [Uef];show RF _ O _;delta F_Tokenizer_error;refine xAA (h.setErr (l:=t.errs++[errV s (t.pos - 1)])) fun h1 f1=>?_;exact RF.b (Ujr h) (RF.ml h.err (by kernel_rfl) (by decide) (RF.b (ga_at h) (RF.l rfl (RF.b (Uad h.err hl) (RF.n ⟨rfl,h1,f1⟩)))))
theorem Ug7(h:TR O τ t)(s:Str)(hl:t.out.length < lim):Run (callK (P p) (d+1) a_Tokenizer_emit_sign [.ref 2 τ.i,.str s]) O fun v O'=>v=.none/\TR O' τ (t.put (chV s))/\Fx O O':=by
 rw [Uci];show RF _ O _;delta F_Tokenizer_emit_sign;refine xAA (h.setOut (l:=t.out++[chV s])) fun h1 f1=>?_;exact RF.b (ga_out h) (RF.ml h.out (by kernel_rfl) (by decide) (RF.b (Uad h.out hl) (RF.n ⟨rfl,h1,f1⟩)))
theorem Uic(h:TR O τ t)(hl:t.out.length < lim):Run (callK (P p) (d+1) a_Tokenizer_emit_eof [.ref 2 τ.i]) O fun v O'=>v=.none/\TR O' τ { t.put eofV with done:=true }/\Fx O O':=by
 rw [Ucs];show RF _ O _;delta F_Tokenizer_emit_eof;refine xAA (h.setOut (l:=t.out++[eofV])) fun h1 f1=>?_;refine xEAAA (Umr (p:=p) h1 true) fun O2 e2 h2 f2=>?_;exact RF.b (ga_out h) (RF.ml h.out (by kernel_rfl) (by decide) (RF.b (Uad h.out hl) (RF.b e2 (RF.n ⟨rfl,h2,f1.trans f2⟩))))
noncomputable def TS.emit(t:TS)(kind:Str)(name:V)(l:Str)(v:V):TS:={ t with last:=if kind=="start" then l else t.last,out:=t.out++[v] }
theorem Uqx(h:TR O τ t)(kind name:Str)(r:List V)(hl:t.out.length < lim):Run (callK (P p) (d+1) a_Tokenizer_emit [.ref 2 τ.i,.tup (.str kind::.str name::r)]) O fun v O' =>
  v=.none/\TR O' τ { t with last:=if kind=="start" then name else t.last,out:=t.out++[.tup (.str kind::.str name::r)] }/\Fx O O':=by
 rw [Uew];show RF _ O _;delta F_Tokenizer_emit;have i0:∀ s,itemV (.tup (.str kind::.str name::r)) (.int 0) s=some (.str kind):=fun s=>Uhe (vs:=.str kind::.str name::r) rfl (fun w0 e=>by cases e) (by decide) rfl;have i1:∀ s,itemV (.tup (.str kind::.str name::r)) (.int 1) s=some (.str name):=fun s=>Uhe (vs:=.str kind::.str name::r) rfl (fun w0 e=>by cases e) (by decide) rfl;refine RF.l (i0 O) (RF.l rfl ?_)
 by_cases hk:(kind==Qbo)=true
 ·refine xEAAA (Usw (p:=p) h name) fun O1 e1 h1 f1=>?_;refine xAA (h1.setOut (l:=t.out++[.tup (.str kind::.str name::r)])) fun h2 f2=>?_;refine RF.pos hk (RF.l (i1 O) (RF.b e1 ?_));rw [Uav];delta J_Tokenizer_emit_0_T0;simp only [hk,if_true];exact RF.b (ga_out h1) (RF.ml h1.out (by kernel_rfl) (by decide) (RF.b (Uad h1.out hl) (RF.n ⟨rfl,h2,f1.trans f2⟩)))
 ·refine xAA (h.setOut (l:=t.out++[.tup (.str kind::.str name::r)])) fun h2 f2=>?_;refine RF.neg hk ?_;rw [Uav];delta J_Tokenizer_emit_0_T0;rw [if_neg hk];exact RF.b (ga_out h) (RF.ml h.out (by kernel_rfl) (by decide) (RF.b (Uad h.out hl) (RF.n ⟨rfl,h2,f2⟩)))
theorem Uin{s:Str}{k c:Nat}(h:s.cps[k]?=some c):drawV (.str s) k O=some (some (.str ⟨#[c]⟩)):=by
 have hk:=Array.getElem?_eq_some_iff.mp h;have:s.cps.getD k 0=c:=by simp [Array.getD,hk.1,hk.2]
 exact congrArg some ((if_pos hk.1).trans (by rw [this]))
theorem Umz{s:Str}{k:Nat}(h:s.cps.size<=k):drawV (.str s) k O=some none:=congrArg some (if_neg (Nat.not_lt.mpr h))
theorem Ubg{sc:Scope}{x:Str}{v:V}{fr:Fr}(h:setOk sc x=true):setL sc x v fr=ret (setK x v fr):=if_pos h
noncomputable abbrev nextF(o:V)(s:V->Fr->M Fr)(b:Fr->M Fl)(n k:Nat):Fl->M Fl:=goOn fun fr'=>loopF o s b n (k+1) fr'
theorem Uh0{o v:V}{s:V->Fr->M Fr}{b:Fr->M Fl}{n k:Nat}{fr fr₁:Fr}(hd:drawV o k O=some (some v))(hs:s v fr=ret fr₁) :
  loopF o s b (n+1) k fr O=bnd (b fr₁) (nextF o s b n k) O:=by
 refine (bnd_of (a:=some v) (O₁:=O) (by delta look;rw [hd])).trans ?_;show bnd (s v fr) _ O=_;rw [hs];rfl
theorem Um3{o:V}{s:V->Fr->M Fr}{b:Fr->M Fl}{n k:Nat}{fr:Fr}(hd:drawV o k O=some none):loopF o s b (n+1) k fr O=some (.next fr,O) :=
 bnd_of (a:=none) (O₁:=O) (by delta look;rw [hd])
end
section
variable {p:Params}{O O' O₁:Store}{τ:Rf}{t:TS}{n d:Nat}{dr:Dr}
theorem forL{o:V}{s:V->Fr->M Fr}{b:Fr->M Fl}(I:Nat->Fr->Store->Prop)(R:V->Store->Prop)(items:List V)
  (step:∀ k v fr O,items[k]?=some v->I k fr O->drawV o k O=some (some v)/\∃ fr1,s v fr=ret fr1/\Run (b fr1) O fun fl O'=>(∃ fr',fl=.next fr'/\I (k+1) fr' O')\/∃ v,fl=.ret v/\R v O')
  (fin:∀ fr O,I items.length fr O->drawV o items.length O=some none):∀ (m k:Nat) (fr:Fr) (O:Store) (n:Nat),items.length - k=m->I k fr O->k<=items.length->m < n ->
  Run (loopF o s b n k fr) O fun fl O'=>(∃ fr',fl=.next fr'/\I items.length fr' O')\/∃ v,fl=.ret v/\R v O'
 | m,k,fr,O,0,hm,hI,hk,hn=>absurd hn (Nat.not_lt_zero _)
 | 0,k,fr,O,n+1,hm,hI,hk,hn=>by
  have:k=items.length:=om25 hm hk;subst this;exact ⟨_,O,Um3 (fin fr O hI),.inl ⟨fr,rfl,hI⟩⟩
 | m+1,k,fr,O,n+1,hm,hI,hk,hn=>by
  have hk':k < items.length:=om26 hm hk;refine xAEAEEAA (step k items[k] fr O (List.getElem?_eq_getElem hk') hI) fun hd fr1 hs fl O1 e q=>?_;rcases q with ⟨fr',rfl,hI'⟩ | ⟨v,rfl,hR⟩
  ·refine xEEAA (forL I R items step fin m (k+1) fr' O1 n ((Nat.sub_succ _ _).trans (congrArg Nat.pred hm)) hI' (by omega) (om6 hn)) fun fl2 O2 e2 q2=>?_;exact ⟨fl2,O2,(Uh0 hd hs).trans ((bnd_of e).trans e2),q2⟩
  ·exact ⟨.ret v,O1,(Uh0 hd hs).trans (bnd_of e),.inr ⟨v,rfl,hR⟩⟩
theorem forRun{o:V}{s:V->Fr->M Fr}{b J:Fr->M Fl}{fr:Fr}{Q:V->Store->Prop}(I:Nat->Fr->Store->Prop)(items:List V)(h0:I 0 fr O)(hl:items.length < 5000)
  (step:∀ k v fr O,items[k]?=some v->I k fr O->drawV o k O=some (some v)/\∃ fr1,s v fr=ret fr1/\Run (b fr1) O fun fl O'=>(∃ fr',fl=.next fr'/\I (k+1) fr' O')\/∃ v,fl=.ret v/\Q v O')
  (fin:∀ fr O,I items.length fr O->drawV o items.length O=some none) (g:∀ fr' O',I items.length fr' O'->RF (J fr') O' Q):RF (bnd (loopF o s b 5000 0 fr) (goOn J)) O Q:=by
 refine xEEAA (forL I Q items step fin (items.length - 0) 0 fr O 5000 rfl h0 (Nat.zero_le _) (om22 hl)) fun fl O1 e q=>?_;refine RF.b e ?_;rcases q with ⟨fr',rfl,hI⟩ | ⟨v,rfl,hR⟩
 ·exact g fr' O1 hI
 ·exact RF.r hR
theorem Run.next{fr:Fr}{Q:Fl->Store->Prop}(h:Q (.next fr) O):Run (ret (Fl.next fr)) O Q:=⟨_,O,rfl,h⟩
theorem Run.l{α β:Type}{f:Store->Option α}{k:α->M β}{a:α}{Q:β->Store->Prop}(h:f O=some a)(g:Run (k a) O Q):Run (bnd (look f) k) O Q:=Run.b (by delta look;rw [h]) g
theorem Run.pos{α:Type}{c:Prop}[Decidable c]{a b:M α}{Q:α->Store->Prop}(h:c)(g:Run a O Q):Run (if c then a else b) O Q:=by rw [if_pos h];exact g
theorem Run.neg{α:Type}{c:Prop}[Decidable c]{a b:M α}{Q:α->Store->Prop}(h:¬ c)(g:Run b O Q):Run (if c then a else b) O Q:=by rw [if_neg h];exact g
theorem Run.ml{α:Type}{r i:Nat}{vs:List V}{x:Str}{id:Mi}{k:MK->M α}{Q:α->Store->Prop}(h:O.get r i=some (.list vs))(hx:listM x=some id)(hr:isRepl (.bi id)=false)
  (g:Run (k (.bi id)) O Q):Run (bnd (look (methK (P p) (.ref r i) x)) fun m=>if isRepl m then fail else k m) O Q :=
 Run.l ((Ujy h).trans (by rw [hx];rfl)) (Run.neg (by rw [hr];decide) g)
theorem Run.app{α:Type}{r i:Nat}{vs:List V}{k:MK->M α}{Q:α->Store->Prop}(h:O.get r i=some (.list vs))(g:Run (k (.bi .append)) O Q) :
  Run (bnd (look (methK (P p) (.ref r i) Qv)) fun m=>if isRepl m then fail else k m) O Q:=Run.ml h (by kernel_rfl) (by decide) g
theorem RF.app{r i:Nat}{vs:List V}{k:MK->M Fl}{Q:V->Store->Prop}(h:O.get r i=some (.list vs))(g:RF (k (.bi .append)) O Q) :
  RF (bnd (look (methK (P p) (.ref r i) Qv)) fun m=>if isRepl m then fail else k m) O Q:=RF.ml h (by kernel_rfl) (by decide) g
theorem Run.m{α:Type}{o:V}{x:Str}{f:Addr}{k:MK->M α}{Q:α->Store->Prop}(h:methK (P p) o x O=some (.fn f))(g:Run (k (.fn f)) O Q):Run (bnd (look (methK (P p) o x)) fun m=>if isRepl m then fail else k m) O Q :=
 Run.l h (Run.neg (by delta isRepl;exact Bool.false_ne_true) g)
theorem RF.mk{o:V}{x:Str}{f:Addr}{k:MK->M Fl}{Q:V->Store->Prop}(h:methK (P p) o x O=some (.fn f))(g:RF (k (.fn f)) O Q):RF (bnd (look (methK (P p) o x)) fun m=>if isRepl m then fail else k m) O Q :=
 RF.l h (RF.neg (by delta isRepl;exact Bool.false_ne_true) g)
theorem Uek{r i k:Nat}{vs:List V}(h:O.get r i=some (.list vs)):drawV (.ref r i) k O=some vs[k]?:=ob_of (f:=fun vs=>some vs[k]?) (z:=none) (asl_of h)
theorem Ufo{r i:Nat}{o o':Ob}{r' i':Nat}{x:Ob}(h:O.get r i=some o')(hx:O.get r' i'=some x)(hn:r'≠r\/i'≠i):(O.put r i o).get r' i'=some x:=by
 rw [Store.get_put h,if_neg (fun e=>hn.elim (fun q=>q e.1) (fun q=>q e.2))];exact hx
noncomputable def Dx(O O':Store):Prop:=O'.length=O.length/\∀ r,r≠0->r≠4->r≠5->r≠6->O'[r]?=O[r]?
theorem Dx.rfl:Dx O O:=⟨Eq.refl _,fun w0 w0 w0 w0 w0=>Eq.refl _⟩
theorem Dx.trans{a b c:Store}(x:Dx a b)(y:Dx b c):Dx a c:=⟨y.1.trans x.1,fun r h1 h2 h3 h4=>(y.2 r h1 h2 h3 h4).trans (x.2 r h1 h2 h3 h4)⟩
theorem Dx.put{r i:Nat}{o:Ob}(h:r=0\/r=4\/r=5\/r=6):Dx O (O.put r i o):=⟨Uaq,fun r' h1 h2 h3 h4=>Uc6 (by rcases h with rfl | rfl | rfl | rfl <;> assumption)⟩
theorem Dx.add{r:Nat}{o:Ob}(h:r=0\/r=4\/r=5\/r=6):Dx O (O.add r o):=⟨Uba,fun r' h1 h2 h3 h4=>Uft (by rcases h with rfl | rfl | rfl | rfl <;> assumption)⟩
theorem Dx.fx(x:Dx O O'):Fx O O':=fun r h=>x.2 r (by rintro rfl;cases h) (by rintro rfl;cases h) (by rintro rfl;cases h) (by rintro rfl;cases h)
theorem Dx.get(x:Dx O O'){r i:Nat}(h1:r≠0)(h2:r≠4)(h3:r≠5)(h4:r≠6):O'.get r i=O.get r i:=by delta Store.get;rw [x.2 r h1 h2 h3 h4]
theorem TR.dx{t':TS}(h:TR O τ t)(x:Dx O O')(e:{ t' with draft:=t.draft }=t)(ed:drV t'.draft=drV t.draft)(hd:∀ d,t'.draft=some d->DR O' d):TR O' τ t':=by
 obtain ⟨pos,state,back,last,out,errs,draft,waiting,done,signs,closed,isret,serr⟩:=t';obtain ⟨pos',state',back',last',out',errs',draft',waiting',done',signs',closed',isret',serr'⟩:=t;cases e;have et:tokEs τ ⟨pos,state,back,last,out,errs,draft,waiting,done,signs,closed,isret,serr⟩=tokEs τ ⟨pos,state,back,last,out,errs,draft',waiting,done,signs,closed,isret,serr⟩:=by
  have ed:drV draft=drV draft':=ed;simp only [tokEs,ed]
 exact ⟨x.1.trans h.len,by rw [x.get (by decide) (by decide) (by decide) (by decide),et];exact h.tok,(x.get (by decide) (by decide) (by decide) (by decide)).trans h.str,(x.get (by decide) (by decide) (by decide) (by decide)).trans h.sg,
  (x.get (by decide) (by decide) (by decide) (by decide)).trans h.se,(x.get (by decide) (by decide) (by decide) (by decide)).trans h.out,(x.get (by decide) (by decide) (by decide) (by decide)).trans h.err,(x.get (by decide) (by decide) (by decide) (by decide)).trans h.sd,hd⟩
noncomputable def keptV(as:List At):List V:=(as.filter (·.k)).map fun a=>.tup [.str a.n,.str a.v]
noncomputable def Dr.tok(d:Dr):V:=if d.kind=="comment" then .tup [.str "comment",.str ""] else .tup [.str d.kind,.str d.name,.tup (keptV d.attrs),.bool d.closing]
theorem DR.add6(h:DR O dr){o:Ob}{l:List Ob}(e:O[6]?=some l):DR (O.add 6 o) dr:=⟨Ub5 e h.obj,Ub5 e h.al,fun a m=>Ub5 e (h.each a m),h.nd⟩
theorem DR.put6(h:DR O dr){i:Nat}{o o':Ob}(e:O.get 6 i=some o'):DR (O.put 6 i o) dr:=h.put e ⟨by decide,by decide,by decide⟩
theorem Urq{r i:Nat}{vs:List V}(h:O.get r i=some (.list vs)):builtinV .tuple [.ref r i] O=some (.tup vs,O):=by
 refine bi_of ?_;show ob (asList O (.ref r i)) _ _=_;rw [asl_of h]
theorem itemL{r i:Nat}{vs:List V}{k:Nat}{v:V}(h:O.get r i=some (.list vs))(hk:vs[k]?=some v):itemV (.ref r i) (.int k) O=some v:=Uhe (Uju h) ne_ref (Int.natCast_nonneg _) (by simpa using hk)
theorem Unj(h:DR O dr)(hlen:O.length=24)(hk:(dr.kind==(Y "doctype"))=false)(hl:dr.attrs.length < 5000):Run (callK (P p) (d+1) a_Draft_token [.ref 0 dr.i]) O fun v O'=>v=dr.tok/\DR O' dr/\Dx O O':=by
 rw [Uhn];show RF _ O _;delta F_Draft_token;refine RF.b (Ui5 h) (RF.l rfl ?_)
 by_cases hc:(dr.kind==Qca)=true
 ·exact RF.pos hc (RF.b (Usi h) (RF.r ⟨by delta Dr.tok;rw [if_pos hc],h,Dx.rfl⟩))
 refine RF.neg hc ?_;rw [Ude];delta J_Draft_token_0_T0;refine RF.b (Ui5 h) (RF.l rfl (RF.neg (by rw [hk];decide) ?_));rw [Uc9];delta J_Draft_token_1_T0;refine xEA (reg_of hlen (by decide:6 < 24)) fun l hl6=>?_;have hn:newL 6 [] O=some (.ref 6 l.length,O.add 6 (.list [])):=by delta newL;rw [hl6]
 have h1:=h.add6 (o:=.list []) hl6;refine RF.b hn (RF.b (Ubs h1) ?_);refine forRun (fun k fr s=>DR s dr/\Dx O s/\s.get 6 l.length=some (.list (keptV (dr.attrs.take k)))/\(fr=[(Qc,.ref 0 dr.i),(Qbn,.ref 6 l.length)]\/∃ v,fr=[(Qc,.ref 0 dr.i),(Qbn,.ref 6 l.length),(Qbz,v)]))
  (dr.attrs.map fun a=>.ref 5 a.i) ⟨h1,Dx.add (by simp),by rw [List.take_zero];exact Ua0 hl6,.inl rfl⟩ (by rw [List.length_map];exact hl) (fun k v fr s hv hI=>?_) (fun fr s hI=>?_) fun fr s hI=>?_
 ·refine xAAAA hI fun hD hX h6 hfr=>?_;rw [List.getElem?_map] at hv;refine xEAA (Option.map_eq_some_iff.mp hv) fun a ha qz1=>?_;subst qz1;have hm:a ∈ dr.attrs:=List.mem_of_getElem? ha;have hk':k < dr.attrs.length:=by rw [List.getElem?_eq_some_iff] at ha;exact ha.1
  have ha':dr.attrs[k]=a:=by rw [List.getElem?_eq_some_iff] at ha;exact ha.2
  refine ⟨by rw [Uek hD.al,List.getElem?_map,ha];rfl,[(Qc,.ref 0 dr.i),(Qbn,.ref 6 l.length),(Qbz,.ref 5 a.i)],?_,?_⟩
  ·rw [Ubg (by kernel_rfl)];rcases hfr with rfl | ⟨v,rfl⟩ <;> kernel_rfl
  ·rw [Ucj];delta T_Draft_token_l0_0;have e5:=hD.each a hm;refine Run.l (itemL (k:=2) e5 rfl) ?_;show Run (if a.k then _ else _) s _;have tk:keptV (dr.attrs.take (k+1))=keptV (dr.attrs.take k)++(if a.k then [.tup [.str a.n,.str a.v]] else []):=by
    delta keptV;rw [List.take_succ_eq_append_getElem hk',ha',List.filter_append,List.map_append];cases hak:a.k <;> simp [hak]
   by_cases hak:a.k=true
   ·rw [if_pos hak] at tk;refine Run.pos hak (Run.app h6 (Run.l (itemL (k:=0) e5 rfl) (Run.l (itemL (k:=1) e5 rfl) ?_)));have hll:(keptV (dr.attrs.take k)).length < lim:=by
     delta keptV;rw [List.length_map];have h1:=List.length_filter_le (·.k) (dr.attrs.take k);have h2:=List.length_take_le k dr.attrs;delta lim;exact Nat.lt_of_le_of_lt (Nat.le_trans h1 h2) (Nat.lt_trans (Nat.lt_trans hk' hl) (by decide))
    refine Run.b (Uad h6 hll) (Run.next (.inl ⟨_,rfl,hD.put6 h6,hX.trans (Dx.put (by simp)),?_,.inr ⟨_,rfl⟩⟩));rw [tk];exact Uaj h6
   ·rw [if_neg hak,List.append_nil] at tk;exact Run.neg hak (Run.next (.inl ⟨_,rfl,hD,hX,by rw [tk];exact h6,.inr ⟨_,rfl⟩⟩))
 ·rw [Uek hI.1.al,List.getElem?_eq_none (Nat.le_refl _)]
 ·refine xAAAA hI fun hD hX h6 hfr=>?_;rw [List.length_map,List.take_length] at h6;have fin:RF (bnd (attrV (P p) (.ref 0 dr.i) Ql) fun x18=>bnd (attrV (P p) (.ref 0 dr.i) Qg) fun x19=>bnd (builtinV .tuple [.ref 6 l.length]) fun x20=>bnd (attrV (P p) (.ref 0 dr.i) Qs) fun x21=>ret (.ret (.tup [x18,x19,x20,x21]))) s
    (fun v O'=>v=dr.tok/\DR O' dr/\Dx O O') :=
   RF.b (Ui5 hD) (RF.b (Uo9 hD) (RF.b (Urq h6) (RF.b (Ud3 hD) (RF.r ⟨by delta Dr.tok;rw [if_neg hc],hD,hX⟩))))
  rcases hfr with rfl | ⟨v,rfl⟩
  ·rw [Udf];exact fin
  ·rw [Uc3];exact fin
end
section
variable {p:Params}{O O' O₁:Store}{τ:Rf}{t:TS}{n d:Nat}{dr:Dr}{init:List At}{a a':At}
theorem Up7(n:Nat):idx (-1) (n+1)=some n:=by
 refine (if_neg (by decide)).trans ((if_pos (by omega)).trans (congrArg some ?_));exact om311
theorem Ung{r i:Nat}{vs:List V}{v:V}(h:O.get r i=some (.list (vs++[v]))):itemV (.ref r i) (.int (-1)) O=some v :=
 Uk3 (Uju h) (by rw [List.length_append];exact Up7 _) List.getElem?_concat_length
theorem Ufx{r i m:Nat}{vs:List V}{v:V}(h:O.get r i=some (.list vs))(hm:m < vs.length):setItemV (.ref r i) (.int m) v O=some ((),O.put r i (.list (vs.set m v))) :=
 (ob_of (Uf6 h)).trans (ob_of (f:=fun m=>some ((),O.put r i (.list (vs.set m v)))) (z:=none) ((if_pos (Int.natCast_nonneg _)).trans (if_pos hm)))
theorem DR.last(h:DR O dr)(e:dr.attrs=init++[a])(hi:a'.i=a.i):DR (O.put 5 a.i (.list [.str a'.n,.str a'.v,.bool a'.k])) { dr with attrs:=init++[a'] }:=by
 have hm:a ∈ dr.attrs:=by rw [e];simp
 have h5:=h.each a hm;have hnd:=h.nd;rw [e,List.map_append,List.nodup_append] at hnd;have emap:(init++[a']).map (fun a=>V.ref 5 a.i)=dr.attrs.map (fun a=>V.ref 5 a.i):=by rw [e];simp [hi]
 have emap2:(init++[a']).map (·.i)=dr.attrs.map (·.i):=by rw [e];simp [hi]
 refine ⟨Ufo h5 h.obj (.inl (by decide)),?_,fun b hb=>?_,by show ((init++[a']).map (·.i)).Nodup;rw [emap2];exact h.nd⟩
 ·show _=some (Ob.list ((init++[a']).map fun a=>V.ref 5 a.i));rw [emap];exact Ufo h5 h.al (.inl (by decide))
 ·rcases List.mem_append.mp hb with hb | hb
  ·have hne:b.i≠a.i:=fun q=>hnd.2.2 b.i (List.mem_map.mpr ⟨b,hb,rfl⟩) a.i (by simp) q;exact Ufo h5 (h.each b (by rw [e];exact List.mem_append_left _ hb)) (.inr hne)
  ·rw [List.mem_singleton] at hb;subst hb;rw [hi];exact Uaj h5
theorem Ulc(h:DR O dr)(e:dr.attrs=init++[a]):itemV (.ref 4 dr.al) (.int (-1)) O=some (.ref 5 a.i)/\O.get 5 a.i=some (.list [.str a.n,.str a.v,.bool a.k]):=by
 have hm:a ∈ dr.attrs:=by rw [e];simp
 refine ⟨Ung (vs:=init.map fun a=>.ref 5 a.i) (by rw [h.al,e];simp),h.each a hm⟩
theorem add_str{x y:Str}(h:x.length+y.length<=lim):binV .Add (.str x) (.str y) O=some (.str (x++y)):=by
 show (if x.length+y.length<=lim then some (V.str (x++y)) else none)=_;exact if_pos h
theorem Ufi(h:DR O dr)(e:dr.attrs=init++[a])(s:Str)(hl:a.n.length+s.length<=lim):Run (callK (P p) (d+1) a_Draft_add_name [.ref 0 dr.i,.str s]) O fun v O' =>
  v=.none/\DR O' { dr with attrs:=init++[{ a with n:=a.n++s }] }/\Dx O O':=by
 rw [Ufv];show RF _ O _;delta F_Draft_add_name;refine xAA (Ulc h e) fun i1 i2=>?_;exact RF.b (Ubs h) (RF.l i1 (RF.l (itemL (k:=0) i2 rfl) (RF.l (add_str hl) (RF.b (Ufx (m:=0) i2 (by simp)) (RF.n ⟨rfl,h.last (a':={ a with n:=a.n++s }) e rfl,Dx.put (by simp)⟩)))))
theorem Ug4(h:DR O dr)(e:dr.attrs=init++[a])(s:Str)(hl:a.v.length+s.length<=lim):Run (callK (P p) (d+1) a_Draft_add_value [.ref 0 dr.i,.str s]) O fun v O' =>
  v=.none/\DR O' { dr with attrs:=init++[{ a with v:=a.v++s }] }/\Dx O O':=by
 rw [Uee];show RF _ O _;delta F_Draft_add_value;refine xAA (Ulc h e) fun i1 i2=>?_;exact RF.b (Ubs h) (RF.l i1 (RF.l (itemL (k:=1) i2 rfl) (RF.l (add_str hl) (RF.b (Ufx (m:=1) i2 (by simp)) (RF.n ⟨rfl,h.last (a':={ a with v:=a.v++s }) e rfl,Dx.put (by simp)⟩)))))
theorem Ugj(h:DR O dr)(hlen:O.length=24)(hl:dr.attrs.length < lim):Run (callK (P p) (d+1) a_Draft_begin_attr [.ref 0 dr.i]) O fun v O' =>
  v=.none/\(∃ i,DR O' { dr with attrs:=dr.attrs++[⟨i,"","",true⟩] })/\Dx O O':=by
 rw [Udm];show RF _ O _;delta F_Draft_begin_attr;refine xEA (reg_of hlen (by decide:5 < 24)) fun l h5=>?_;have hn:newL 5 [.str "",.str "",.bool true] O=some (.ref 5 l.length,O.add 5 (.list [.str "",.str "",.bool true])):=by delta newL;rw [h5]
 have al1:=Ub5 (o:=.list [.str "",.str "",.bool true]) h5 h.al;have new1:=Ua0 (o:=.list [.str "",.str "",.bool true]) h5;refine RF.b (Ubs h) (RF.app h.al (RF.b hn (RF.b (Uad al1 (by rw [List.length_map];exact hl)) (RF.n ⟨rfl,⟨l.length,?_⟩,(Dx.add (by simp)).trans (Dx.put (by simp))⟩))));refine ⟨Ufo al1 (Ub5 h5 h.obj) (.inl (by decide)),?_,fun b hb=>?_,?_⟩
 ·show _=some (Ob.list ((dr.attrs++[(⟨l.length,"","",true⟩:At)]).map fun a=>V.ref 5 a.i));rw [List.map_append];exact Uaj al1
 ·rcases List.mem_append.mp hb with hb | hb
  ·exact Ufo al1 (Ub5 h5 (h.each b hb)) (.inl (by decide))
  ·rw [List.mem_singleton] at hb;subst hb;exact Ufo al1 new1 (.inl (by decide))
 ·show ((dr.attrs++[(⟨l.length,"","",true⟩:At)]).map (·.i)).Nodup;rw [List.map_append,List.nodup_append];refine ⟨h.nd,by simp,fun x hx y hy=>?_⟩;simp only [List.map_cons,List.map_nil,List.mem_singleton] at hy;subst hy;refine xEAA (List.mem_map.mp hx) fun b hb qz1=>?_;subst qz1;intro q;have:=h.each b hb;rw [q,Store.get_end h5] at this;cases this
noncomputable def told(init:List At)(a:At):Bool:=init.any fun b=>b.k&&b.n==a.n
theorem Up3{b:Int}(h:b.natAbs<=lim):builtinV .range [.int b] O=some (.rng 0 b 1,O):=by
 exact bi_of (if_pos h)
theorem Ule{n k:Nat}:drawV (.rng 0 (n:Int) 1) k O=some (if k < n then some (.int (k:Int)) else none):=by
 show (if (0:Int) < 1 then some (if (0:Int)+(k:Int)*1 < n then some (V.int (0+(k:Int)*1)) else none) else none)=_;rw [if_pos (by decide)];have e:(0:Int)+(k:Int)*1=k:=by omega
 rw [e]
 by_cases h:k < n
 ·rw [if_pos h,if_pos (om51 h)]
 ·rw [if_neg h,if_neg (om52 h)]
theorem Ugv(h:DR O dr)(e:dr.attrs=init++[a])(hl:init.length < 5000):Run (callK (P p) (d+1) a_Draft_check_attr [.ref 0 dr.i]) O fun v O' =>
  v=.bool (!told init a)/\DR O' { dr with attrs:=init++[{ a with k:=if told init a then false else a.k }] }/\Dx O O':=by
 rw [Udy];show RF _ O _;delta F_Draft_check_attr;refine xAA (Ulc h e) fun i1 i2=>?_;have hlen:(dr.attrs.map fun a=>V.ref 5 a.i).length=init.length+1:=by rw [List.length_map,e,List.length_append];rfl
 refine RF.b (Ubs h) (RF.l i1 (RF.b (Ubs h) (RF.b (len_list h.al) (RF.l rfl ?_))));have e1:((dr.attrs.map fun a=>V.ref 5 a.i).length:Int) - 1=(init.length:Int):=by rw [hlen];exact Int.sub_eq_iff_eq_add.mpr rfl
 rw [e1];refine RF.b (Up3 (by delta lim;exact Nat.le_of_lt (Nat.lt_of_lt_of_le hl (by decide)))) ?_;refine forRun (fun k fr s=>s=O/\(init.take k).any (fun b=>b.k&&b.n==a.n)=false/\(fr=[(Qc,.ref 0 dr.i),(Qal,.ref 5 a.i)]\/∃ v,fr=[(Qc,.ref 0 dr.i),(Qal,.ref 5 a.i),(Qbw,v)]))
  ((List.range init.length).map fun (k:Nat)=>.int (k:Int)) ⟨rfl,rfl,.inl rfl⟩ (by simpa using hl) (fun k v fr s hv hI=>?_) (fun fr s hI=>?_) fun fr s hI=>?_
 ·refine xAAA hI fun qz1 hno hfr=>?_;subst qz1;have hk:k < init.length:=by
   have:=(List.getElem?_eq_some_iff.mp hv).1
   simpa using this
  rw [List.getElem?_map,List.getElem?_range hk] at hv;cases hv;have fr1:setL (sc_Draft_check_attr p) Qbw (.int (k:Int)) fr=ret [(Qc,.ref 0 dr.i),(Qal,.ref 5 a.i),(Qbw,.int (k:Int))]:=by
   rw [Ubg (by kernel_rfl)];rcases hfr with rfl | ⟨v,rfl⟩ <;> kernel_rfl
  refine ⟨by rw [Ule,if_pos hk],_,fr1,?_⟩;rw [Ubj];delta T_Draft_check_attr_l0_0;have hb:init[k] ∈ dr.attrs:=by rw [e];exact List.mem_append_left _ (List.getElem_mem hk)
  have ek:(dr.attrs.map fun a=>V.ref 5 a.i)[k]?=some (.ref 5 init[k].i):=by
   rw [List.getElem?_map,e,List.getElem?_append_left hk,List.getElem?_eq_getElem hk];rfl
  have e5:=h.each _ hb;have tk:(init.take (k+1)).any (fun b=>b.k&&b.n==a.n)=(init[k].k&&init[k].n==a.n):=by
   rw [List.take_succ_eq_append_getElem hk,List.any_append,hno];simp
  have no:∀ {x:Bool},(init[k].k&&init[k].n==a.n)=x->(init.take (k+1)).any (fun b=>b.k&&b.n==a.n)=x:=fun q=>tk.trans q;refine Run.b (Ubs h) (Run.l (itemL h.al ek) (Run.l (itemL (k:=2) e5 rfl) ?_));show Run (cond init[k].k _ _) s _;cases hkk:init[k].k with
  | false=>exact Run.next (.inl ⟨_,rfl,rfl,no (by rw [hkk];rfl),.inr ⟨_,rfl⟩⟩)
  | true =>
   show Run (bnd (attrV (P p) (.ref 0 dr.i) Qe) _) s _;refine Run.b (Ubs h) (Run.l (itemL h.al ek) (Run.l (itemL (k:=0) e5 rfl) (Run.l (itemL (k:=0) i2 rfl) (Run.l rfl ?_))));show Run (cond (init[k].n==a.n) _ _) s _;cases hn:init[k].n==a.n with
   | false=>exact Run.next (.inl ⟨_,rfl,rfl,no (by rw [hkk,hn];rfl),.inr ⟨_,rfl⟩⟩)
   | true =>
    have ht:told init a=true:=by
     delta told;rw [List.any_eq_true];exact ⟨init[k],List.getElem_mem hk,by rw [hkk,hn];rfl⟩
    refine Run.b (Ufx (m:=2) i2 (by simp)) ⟨_,_,rfl,.inr ⟨_,rfl,by rw [ht];rfl,?_,Dx.put (by simp)⟩⟩;have:=h.last (a':={ a with k:=false }) e rfl;rw [ht];exact this
 ·rw [Ule];simp
 ·refine xAAA hI fun qz1 hno hfr=>?_;subst qz1;rw [List.length_map,List.length_range,List.take_length] at hno;have ht:told init a=false:=hno;have hs:({ dr with attrs:=init++[{ a with k:=if told init a then false else a.k }] }:Dr)=dr:=by
   rw [ht];simp only [Bool.false_eq_true,if_false];rw [<- e]
  rcases hfr with rfl | ⟨v,rfl⟩
  ·rw [Ubv];exact RF.r ⟨by rw [ht];rfl,by rw [hs];exact h,Dx.rfl⟩
  ·rw [Ubx];exact RF.r ⟨by rw [ht];rfl,by rw [hs];exact h,Dx.rfl⟩
end
structure PA where
 n:Str
 v:Str
 k:Bool
structure PD where
 kind:Str
 name:Str
 closing:Bool
 attrs:List PA
structure PS where
 pos:Int
 state:Str
 back:Str
 last:Str
 out:List V
 errs:List V
 draft:Option PD
 done:Bool
 signs:List Str
 closed:Bool
 isret:Bool
 serr:List V
noncomputable def At.pl(a:At):PA:=⟨a.n,a.v,a.k⟩
noncomputable def Dr.pl(d:Dr):PD:=⟨d.kind,d.name,d.closing,d.attrs.map At.pl⟩
noncomputable def TS.pl(t:TS):PS:=⟨t.pos,t.state,t.back,t.last,t.out,t.errs,t.draft.map Dr.pl,t.done,t.signs,t.closed,t.isret,t.serr⟩
noncomputable def TP(O:Store)(τ:Rf)(s:PS):Prop:=∃ t,TR O τ t/\t.waiting=false/\t.pl=s
noncomputable def PS.cur(s:PS):Str:=if s.pos < s.signs.length then s.signs.getD s.pos.toNat "" else ""
noncomputable def PS.nxt(s:PS):PS:={ s with pos:=s.pos+1 }
noncomputable def PS.to(s:PS)(x:Str):PS:={ s with state:=x }
noncomputable def PS.again(s:PS)(x:Str):PS:={ s with pos:=s.pos - 1,state:=x }
noncomputable def PS.error(s:PS)(x:Str):PS:={ s with errs:=s.errs++[errV x (s.pos - 1)] }
noncomputable def PS.put(s:PS)(v:V):PS:={ s with out:=s.out++[v] }
noncomputable def PS.eof(s:PS):PS:={ s.put eofV with done:=true }
noncomputable def kept(as:List PA):List V:=(as.filter (·.k)).map fun a=>.tup [.str a.n,.str a.v]
noncomputable def PD.tok(d:PD):V:=if d.kind=="comment" then .tup [.str "comment",.str ""] else .tup [.str d.kind,.str d.name,.tup (kept d.attrs),.bool d.closing]
noncomputable def PS.emitDraft(s:PS):PS:=match s.draft with
 | none=>s
 | some d =>
  let e1:=if d.kind=="end"&&0 < d.attrs.length then s.errs++[errV "end-tag-with-attributes" (s.pos - 1)] else s.errs
  let e2:=if d.kind=="end"&&d.closing then e1++[errV "end-tag-with-trailing-solidus" (s.pos - 1)] else e1
  { s with errs:=e2,draft:=none,last:=if d.kind=="start" then d.name else s.last,out:=s.out++[d.tok] }
noncomputable def PS.setDraft(s:PS)(d:PD):PS:={ s with draft:=some d }
section
variable {p:Params}{O O' O₁:Store}{τ:Rf}{s:PS}{n d:Nat}{D:PD}{init:List PA}{a:PA}{Q:V->Store->Prop}{k:V->M Fl}
theorem Us4(as:List At):kept (as.map At.pl)=keptV as:=by
 delta kept keptV;rw [List.filter_map,List.map_map];rfl
theorem tok_eq(d:Dr):d.pl.tok=d.tok:=by
 delta PD.tok Dr.tok;show (if d.kind=="comment" then _ else V.tup [.str d.kind,.str d.name,.tup (kept (d.attrs.map At.pl)),.bool d.closing])=_;rw [Us4]
theorem Udh{as:List At}{init:List PA}{a:PA}(h:as.map At.pl=init++[a]):∃ i' a',as=i'++[a']/\i'.map At.pl=init/\a'.pl=a:=by
 obtain ⟨x,y,rfl,hx,hy⟩:=List.map_eq_append_iff.mp h;obtain ⟨z,rfl,hz⟩:=List.map_eq_singleton_iff.mp hy;exact ⟨x,z,rfl,hx,hz⟩
theorem RF.next(h:TP O τ s)(h0:0<=s.pos)(g:∀ O',TP O' τ s.nxt->Fx O O'->RF (k (.str s.cur)) O' Q) :
  RF (bnd (look (methK (P p) (.ref 2 τ.i) Qaq)) fun m=>if isRepl m then fail else bnd (methodV (callK (P p) (d+1)) m (.ref 2 τ.i) []) k) O Q:=by
 obtain ⟨t,h,hw,rfl⟩:=h;refine RF.mk (Uto h) (RF.c (Urg h h0) fun v O' ⟨e,h',f⟩=>?_);subst e;exact g O' ⟨_,h',hw,rfl⟩ f
theorem RF.to{x:Str}(h:TP O τ s)(g:∀ O',TP O' τ (s.to x)->Fx O O'->RF (k .none) O' Q) :
  RF (bnd (look (methK (P p) (.ref 2 τ.i) Qag)) fun m=>if isRepl m then fail else bnd (methodV (callK (P p) (d+1)) m (.ref 2 τ.i) [.str x]) k) O Q:=by
 obtain ⟨t,h,hw,rfl⟩:=h;refine RF.mk (mt_to h) (RF.c (to_run h x) fun v O' ⟨e,h',f⟩=>?_);subst e;exact g O' ⟨_,h',hw,rfl⟩ f
theorem RF.again{x:Str}(h:TP O τ s)(g:∀ O',TP O' τ (s.again x)->Fx O O'->RF (k .none) O' Q) :
  RF (bnd (look (methK (P p) (.ref 2 τ.i) Qam)) fun m=>if isRepl m then fail else bnd (methodV (callK (P p) (d+1)) m (.ref 2 τ.i) [.str x]) k) O Q:=by
 obtain ⟨t,h,hw,rfl⟩:=h;refine RF.mk (Up8 h) (RF.c (Uoh h x) fun v O' ⟨e,h',f⟩=>?_);subst e;exact g O' ⟨_,h',hw,rfl⟩ f
theorem RF.error{x:Str}(h:TP O τ s)(hl:s.errs.length < lim)(g:∀ O',TP O' τ (s.error x)->Fx O O'->RF (k .none) O' Q) :
  RF (bnd (look (methK (P p) (.ref 2 τ.i) Qaa)) fun m=>if isRepl m then fail else bnd (methodV (callK (P p) (d+1)) m (.ref 2 τ.i) [.str x]) k) O Q:=by
 obtain ⟨t,h,hw,rfl⟩:=h;refine RF.mk (Uh9 h) (RF.c (Ugk h x hl) fun v O' ⟨e,h',f⟩=>?_);subst e;exact g O' ⟨_,h',hw,rfl⟩ f
theorem RF.emit_sign{x:Str}(h:TP O τ s)(hl:s.out.length < lim)(g:∀ O',TP O' τ (s.put (chV x))->Fx O O'->RF (k .none) O' Q) :
  RF (bnd (look (methK (P p) (.ref 2 τ.i) Qcn)) fun m=>if isRepl m then fail else bnd (methodV (callK (P p) (d+1)) m (.ref 2 τ.i) [.str x]) k) O Q:=by
 obtain ⟨t,h,hw,rfl⟩:=h;refine RF.mk (Uh3 h) (RF.c (Ug7 h x hl) fun v O' ⟨e,h',f⟩=>?_);subst e;exact g O' ⟨_,h',hw,rfl⟩ f
theorem RF.emit_eof(h:TP O τ s)(hl:s.out.length < lim)(g:∀ O',TP O' τ s.eof->Fx O O'->RF (k .none) O' Q) :
  RF (bnd (look (methK (P p) (.ref 2 τ.i) Qbu)) fun m=>if isRepl m then fail else bnd (methodV (callK (P p) (d+1)) m (.ref 2 τ.i) []) k) O Q:=by
 obtain ⟨t,h,hw,rfl⟩:=h;refine RF.mk (Uj6 h) (RF.c (Uic h hl) fun v O' ⟨e,h',f⟩=>?_);subst e;exact g O' ⟨_,h',hw,rfl⟩ f
theorem RF.add_name{x:Str}(h:TP O τ s)(hd:s.draft=some D)(ha:D.attrs=init++[a])(hl:a.n.length+x.length<=lim)(g:∀ O',TP O' τ (s.setDraft { D with attrs:=init++[{ a with n:=a.n++x }] })->Fx O O'->RF (k .none) O' Q) :
  RF (bnd (attrV (P p) (.ref 2 τ.i) Qw) fun o=>bnd (look (methK (P p) o Qbx)) fun m=>if isRepl m then fail else bnd (methodV (callK (P p) (d+1)) m o [.str x]) k) O Q:=by
 obtain ⟨t,h,hw,rfl⟩:=h;obtain ⟨dr,hdr,rfl⟩:=Option.map_eq_some_iff.mp hd;obtain ⟨i',a',e,rfl,rfl⟩:=Udh ha;refine RF.b (Ubk h) ?_;rw [hdr];have hD:=h.dr dr hdr;refine RF.mk (Uf9 hD) (RF.c (Ufi hD e x hl) fun v O' ⟨ev,h',f⟩=>?_);subst ev;refine g O' ⟨{ t with draft:=some { dr with attrs:=i'++[{ a' with n:=a'.n++x }] } },h.dx f rfl (by rw [hdr];rfl) (fun d e=>by cases e;exact h'),hw,?_⟩ f.fx;simp [TS.pl,PS.setDraft,Dr.pl,At.pl]
theorem RF.add_value{x:Str}(h:TP O τ s)(hd:s.draft=some D)(ha:D.attrs=init++[a])(hl:a.v.length+x.length<=lim)(g:∀ O',TP O' τ (s.setDraft { D with attrs:=init++[{ a with v:=a.v++x }] })->Fx O O'->RF (k .none) O' Q) :
  RF (bnd (attrV (P p) (.ref 2 τ.i) Qw) fun o=>bnd (look (methK (P p) o Qby)) fun m=>if isRepl m then fail else bnd (methodV (callK (P p) (d+1)) m o [.str x]) k) O Q:=by
 obtain ⟨t,h,hw,rfl⟩:=h;obtain ⟨dr,hdr,rfl⟩:=Option.map_eq_some_iff.mp hd;obtain ⟨i',a',e,rfl,rfl⟩:=Udh ha;refine RF.b (Ubk h) ?_;rw [hdr];have hD:=h.dr dr hdr;refine RF.mk (Uiq hD) (RF.c (Ug4 hD e x hl) fun v O' ⟨ev,h',f⟩=>?_);subst ev;refine g O' ⟨{ t with draft:=some { dr with attrs:=i'++[{ a' with v:=a'.v++x }] } },h.dx f rfl (by rw [hdr];rfl) (fun d e=>by cases e;exact h'),hw,?_⟩ f.fx;simp [TS.pl,PS.setDraft,Dr.pl,At.pl]
theorem RF.begin_attr(h:TP O τ s)(hd:s.draft=some D)(hl:D.attrs.length < lim)(g:∀ O',TP O' τ (s.setDraft { D with attrs:=D.attrs++[⟨"","",true⟩] })->Fx O O'->RF (k .none) O' Q) :
  RF (bnd (attrV (P p) (.ref 2 τ.i) Qw) fun o=>bnd (look (methK (P p) o Qch)) fun m=>if isRepl m then fail else bnd (methodV (callK (P p) (d+1)) m o []) k) O Q:=by
 obtain ⟨t,h,hw,rfl⟩:=h;obtain ⟨dr,hdr,rfl⟩:=Option.map_eq_some_iff.mp hd;refine RF.b (Ubk h) ?_;rw [hdr];have hD:=h.dr dr hdr;refine RF.mk (Uhm hD) (RF.c (Ugj hD h.len (by simpa [Dr.pl] using hl)) fun v O' ⟨ev,⟨i,h'⟩,f⟩=>?_);subst ev;refine g O' ⟨{ t with draft:=some { dr with attrs:=dr.attrs++[⟨i,"","",true⟩] } },h.dx f rfl (by rw [hdr];rfl) (fun d e=>by cases e;exact h'),hw,?_⟩ f.fx;simp [TS.pl,PS.setDraft,Dr.pl,At.pl]
noncomputable def toldP(init:List PA)(a:PA):Bool:=init.any fun b=>b.k&&b.n==a.n
theorem Ur0(init:List At)(a:At):toldP (init.map At.pl) a.pl=told init a:=by delta toldP told;rw [List.any_map];rfl
theorem Uis(h:TP O τ s)(hd:s.draft=some D)(ha:D.attrs=init++[a])(hl:init.length < 5000){c':CC}{k':V->M Fl}
  (g:∀ O',TP O' τ (s.setDraft { D with attrs:=init++[{ a with k:=if toldP init a then false else a.k }] })->Fx O O'->RF (k (.bool (!toldP init a))) O' Q) :
  RF (bnd (attrV (P p) (.ref 2 τ.i) Qw) fun o=>bnd (look (methK (P p) o Qcy)) fun m=>if isRepl m then fail else bnd (methodV (callK (P p) (d+1)) m o []) k) O Q:=by
 obtain ⟨t,h,hw,rfl⟩:=h;obtain ⟨dr,hdr,rfl⟩:=Option.map_eq_some_iff.mp hd;obtain ⟨i',a',e,rfl,rfl⟩:=Udh ha;refine RF.b (Ubk h) ?_;rw [hdr];have hD:=h.dr dr hdr;rw [Ur0] at g;refine RF.mk (Uhu hD) (RF.c (Ugv hD e (by simpa using hl)) fun v O' qq=>xAAA qq fun ev h' f=>?_);subst ev;refine g O' ⟨{ t with draft:=some { dr with attrs:=i'++[{ a' with k:=if told i' a' then false else a'.k }] } },h.dx f rfl (by rw [hdr];rfl) (fun d e=>by cases e;exact h'),hw,?_⟩ f.fx;simp [TS.pl,PS.setDraft,Dr.pl,At.pl]
end
noncomputable def isBlank(c:Str):Bool:=["\x09","\x0a","\x0c"," "].any (·==c)
noncomputable def isUpper(c:Str):Bool:=if (!strLt c Qav)=true then !strLt Qbk c else false
noncomputable def isLower(c:Str):Bool:=if (!strLt c Qbl)=true then !strLt Qbm c else false
noncomputable def isLetter(c:Str):Bool:=isLower c||isUpper c
noncomputable def ch(n:Nat):Str:=⟨#[n]⟩
noncomputable def lowerS(c:Str):Str:=if isUpper c then ch (c.cps.getD 0 0+32) else c
section
variable {p:Params}{O O' O₁:Store}{τ:Rf}{s:PS}{n d:Nat}{D:PD}{init:List PA}{a:PA}{Q:V->Store->Prop}{k:V->M Fl}{A B:M Fl}
theorem Ul3(c:Str):callK (P p) (d+1) a_is_blank [.str c] O=some (.bool (isBlank c),O):=by
 rw [Ul4];rfl
theorem Uqz(c:Str):callK (P p) (d+1) a_is_upper [.str c] O=some (.bool (isUpper c),O):=by
 rw [Ulf];delta F_is_upper isUpper;refine ba_of (a:=!strLt c Qav) (O₁:=O) rfl ?_;cases h:!strLt c Qav <;> rfl
theorem Unr(c:Str):callK (P p) (d+1) a_is_letter [.str c] O=some (.bool (isLetter c),O):=by
 rw [Uj9];delta F_is_letter isLetter isLower isUpper;refine ba_of (a:=!strLt c Qbl) (O₁:=O) rfl ?_;have up:∀ b,bnd (bnd (look (cmpV .LtE (.str Qav) (.str c))) fun x3=>(if x3 then bnd (look (cmpV .LtE (.str c) (.str Qbk))) fun x4=>ret (Fl.ret (.bool x4)) else ret (.ret (.bool false)))) unFl O=some (.bool (b&&false||isUpper c),O):=by
  intro b;delta isUpper;refine ba_of (a:=!strLt c Qav) (O₁:=O) rfl ?_;cases h:!strLt c Qav <;> cases b <;> rfl
 cases h:!strLt c Qbl with
 | false=>exact up false
 | true =>
  simp only [reduceIte];refine ba_of (a:=!strLt Qbm c) (O₁:=O) rfl ?_;cases h2:!strLt Qbm c with
  | true=>rfl
  | false=>exact up true
theorem Ukr(c:Str)(h:isUpper c=true->c.length=1/\c.cps.getD 0 0+32 < 0x110000):callK (P p) (d+2) a_lower [.str c] O=some (.str (lowerS c),O):=by
 rw [Uru];delta F_lower lowerS;refine ba_of (Uqz c) ?_;cases hu:isUpper c with
 | false =>
  show bnd (J_lower_0 p _ _) unFl O=_;rw [Uhz];rfl
 | true =>
  refine xAA (h hu) fun h1 h2=>?_;show bnd (bnd (builtinV .ord [.str c]) _) unFl O=_;refine ba_of (a:=.int (c.cps.getD 0 0:Nat)) (O₁:=O) (bi_of (n:=.ord) (args:=[.str c]) (v:=.int (c.cps.getD 0 0:Nat)) (if_pos h1)) ?_;refine ba_of (a:=.int ((c.cps.getD 0 0:Nat)+32)) (O₁:=O) rfl ?_;rw [Ua3,bnd_of (a:=.str (ch (c.cps.getD 0 0+32))) (O₁:=O) ?_]
  ·rfl
  ·have e:(((c.cps.getD 0 0:Nat):Int)+32).toNat=c.cps.getD 0 0+32:=rfl;refine bi_of (n:=.chr) (args:=[.int ((c.cps.getD 0 0:Nat)+32)]) ?_;show (if (0:Int)<=((c.cps.getD 0 0:Nat):Int)+32/\((c.cps.getD 0 0:Nat):Int)+32 < 0x110000 then some (V.str ⟨#[(((c.cps.getD 0 0:Nat):Int)+32).toNat]⟩) else none)=_;rw [if_pos ⟨(Int.zero_le_ofNat _),(Int.lt_of_toNat_lt h2)⟩,e]
   rfl
theorem RF.eq{x y:Str}(g:(x==y)=true->RF A O Q)(g':(x==y)=false->RF B O Q):RF (bnd (look (cmpV .Eq (.str x) (.str y))) fun b=>if b then A else B) O Q:=by
 refine RF.l (a:=x==y) rfl ?_;cases h:x==y
 ·exact RF.neg Bool.false_ne_true (g' h)
 ·exact RF.pos rfl (g h)
theorem RF.blank{x:Str}{A B:V->M Fl}(g:isBlank x=true->RF (A (.bool true)) O Q)(g':isBlank x=false->RF (B (.bool false)) O Q) :
  RF (bnd (callK (P p) (d+1) a_is_blank [.str x]) fun v=>match isT v with
   | some b=>(if b then A v else B v)
   | none=>fail) O Q:=by
 refine RF.b (Ul3 x) ?_;show RF (if isBlank x=true then _ else _) O Q;cases h:isBlank x
 ·exact RF.neg Bool.false_ne_true (g' h)
 ·exact RF.pos rfl (g h)
theorem RF.letter{x:Str}{A B:V->M Fl}(g:isLetter x=true->RF (A (.bool true)) O Q)(g':isLetter x=false->RF (B (.bool false)) O Q) :
  RF (bnd (callK (P p) (d+1) a_is_letter [.str x]) fun v=>match isT v with
   | some b=>(if b then A v else B v)
   | none=>fail) O Q:=by
 refine RF.b (Unr x) ?_;show RF (if isLetter x=true then _ else _) O Q;cases h:isLetter x
 ·exact RF.neg Bool.false_ne_true (g' h)
 ·exact RF.pos rfl (g h)
theorem RF.mem{x:Str}{vs:List V}{l:List Str}(hl:strsOf vs=some l)(g:l.any (·==x)=true->RF A O Q)(g':l.any (·==x)=false->RF B O Q) :
  RF (bnd (look (cmpV .In (.str x) (.tup vs))) fun b=>if b then A else B) O Q:=by
 refine RF.l (a:=l.any (·==x)) (in_tup (O:=O) hl) ?_;cases h:l.any (·==x)
 ·exact RF.neg Bool.false_ne_true (g' h)
 ·exact RF.pos rfl (g h)
end
section
variable {p:Params}{O O' O₁:Store}{τ:Rf}{t:TS}{s:PS}{n d:Nat}{D:PD}{dr:Dr}{init:List PA}{a:PA}{Q:V->Store->Prop}{k:V->M Fl}{A B:M Fl}
theorem Ug5(h:TR O τ t)(hl:t.out.length+2 < lim):Run (callK (P p) (d+1) a_Tokenizer_emit_text [.ref 2 τ.i,.str Qcb]) O fun v O'=>v=.none/\TR O' τ ((t.put (chV Qaf)).put (chV Qy))/\Fx O O':=by
 rw [Uch];show RF _ O _;delta F_Tokenizer_emit_text;refine forRun (fun k fr s=>TR s τ { t with out:=t.out++([Qaf,Y "/"].take k).map chV }/\Fx O s /\
   (fr=[(Qc,.ref 2 τ.i),(Qk,.str Qcb)]\/∃ v,fr=[(Qc,.ref 2 τ.i),(Qk,.str Qcb),(Qx,v)]))
  [.str Qaf,.str Qy] ⟨by simpa using h,Fx.rfl,.inl rfl⟩ (by decide) (fun k v fr s hv hI=>?_) (fun fr s hI=>?_) fun fr s hI=>?_
 ·refine xAAA hI fun hT hX hfr=>?_;have hk:drawV (.str Qcb) k s=some (some v)/\∃ x:Str,v=.str x/\([Qaf,Y "/"].take (k+1))=([Qaf,Y "/"].take k)++[x]:=by
   match k,hv with
   | 0,hv=>cases hv;exact ⟨Uin (c:=60) rfl,_,rfl,rfl⟩
   | 1,hv=>cases hv;exact ⟨Uin (c:=47) rfl,_,rfl,rfl⟩
   | k+2,hv=>cases hv
  refine xAEAA hk fun hd x qz1 hx=>?_;subst qz1;refine ⟨hd,[(Qc,.ref 2 τ.i),(Qk,.str Qcb),(Qx,.str x)],?_,?_⟩
  ·rw [Ubg (by kernel_rfl)];rcases hfr with rfl | ⟨v,rfl⟩ <;> kernel_rfl
  ·rw [Ua1];delta T_Tokenizer_emit_text_l0_0;have hll:(t.out++([Qaf,Y "/"].take k).map chV).length < lim:=by
    rw [List.length_append,List.length_map];have h2:([Qaf,Y "/"].take k).length<=2:=List.length_take_le' k [Qaf,Y "/"];exact Nat.lt_of_le_of_lt (Nat.add_le_add_left h2 _) hl
   refine xAA (hT.setOut (l:=(t.out++([Qaf,Y "/"].take k).map chV)++[chV x])) fun h1 f1=>?_;refine Run.b (ga_out hT) (Run.app hT.out (Run.b (Uad hT.out hll) (Run.next (.inl ⟨_,rfl,?_,hX.trans f1,.inr ⟨_,rfl⟩⟩))));rw [hx,List.map_append,<- List.append_assoc];exact h1
 ·exact Umz (Nat.le_refl _)
 ·refine xAAA hI fun hT hX hfr=>?_;have e:(t.out++([Qaf,Y "/"].take 2).map chV)=(t.out++[chV Qaf])++[chV Qy]:=by simp
  have fin:TR s τ ((t.put (chV Qaf)).put (chV Qy)):=by delta TS.put;rw [<- e];exact hT
  rcases hfr with rfl | ⟨v,rfl⟩
  ·rw [Ubb];exact RF.n ⟨rfl,fin,hX⟩
  ·rw [Ubc];exact RF.n ⟨rfl,fin,hX⟩
noncomputable def TS.emitD(t:TS)(dr:Dr):TS:={ t with draft:=none,last:=if dr.kind=="start" then dr.name else t.last,out:=t.out++[dr.tok] }
theorem Ugz(h:TR O τ t)(hd:t.draft=some dr)(hk:dr.kind="start"\/dr.kind="end")(ho:t.out.length < lim)(hl:dr.attrs.length < 5000) :
  RF (J_Tokenizer_emit_draft_0 p (callK (P p) (d+1)) [(Qc,.ref 2 τ.i),(Qw,.ref 0 dr.i)]) O fun v O'=>v=.none/\TR O' τ (t.emitD dr)/\Fx O O':=by
 rw [Ua8];delta J_Tokenizer_emit_draft_0_T0;have hD:=h.dr dr hd;have e1:setAttrV (P p) (.ref 2 τ.i) Qw .none O=_:=Uag (es':=tokEs τ { t with draft:=none }) h.tok (by kernel_rfl) (by show 14 < 100;decide) (by kernel_rfl);have h1:=h.setTok (t':={ t with draft:=none }) rfl rfl rfl rfl rfl rfl (fun d e=>by cases e);have hD1:DR (O.put 2 τ.i (.inst c_Tokenizer (tokEs τ { t with draft:=none }))) dr:=hD.put h.tok ⟨by decide,by decide,by decide⟩;refine RF.b e1 (RF.mk (Usv h1) (RF.mk (Upw hD1) (RF.c (Unj hD1 h1.len (by rcases hk with e | e <;> rw [e] <;> decide) hl) fun v O2 qq=>xAAA qq fun ev h2 x2=>?_)));subst ev;have et:dr.tok=.tup (.str dr.kind::.str dr.name::[.tup (keptV dr.attrs),.bool dr.closing]):=by
  delta Dr.tok;rw [if_neg (by rcases hk with e | e <;> rw [e] <;> decide)]
 have hT2:TR O2 τ { t with draft:=none }:=h1.dx x2 rfl rfl (fun d e=>by cases e);rw [et];refine RF.c (Uqx hT2 dr.kind dr.name _ ho) fun v O3 qq=>xAAA qq fun ev h3 x3=>?_;subst ev;refine RF.n ⟨rfl,?_,(Fx.put (by decide)).trans (x2.fx.trans x3)⟩;delta TS.emitD;rw [et];exact h3
theorem Uk5(h:TR O τ t)(hd:t.draft=some dr)(hk:dr.kind="start"\/dr.kind="end")(ho:t.out.length < lim)(he:t.errs.length < lim)(hl:dr.attrs.length < 5000) :
  RF (J_Tokenizer_emit_draft_1 p (callK (P p) (d+1)) [(Qc,.ref 2 τ.i),(Qw,.ref 0 dr.i)]) O fun v O'=>v=.none/\TR O' τ ((if dr.closing then t.error "end-tag-with-trailing-solidus" else t).emitD dr)/\Fx O O':=by
 rw [Ua9];delta J_Tokenizer_emit_draft_1_T0;refine RF.b (Ud3 (h.dr dr hd)) ?_;show RF (if dr.closing=true then _ else _) O _;cases hc:dr.closing
 ·exact RF.neg Bool.false_ne_true (Ugz h hd hk ho hl)
 ·refine RF.pos rfl (RF.mk (Uh9 h) (RF.c (Ugk h _ he) fun v O2 qq=>xAAA qq fun ev h2 x2=>?_));subst ev;exact (Ugz h2 hd hk ho hl).mono fun v s qq=>xAAA qq fun e h' x'=>⟨e,h',x2.trans x'⟩
theorem Uq3(t:TS)(dr:Dr):(t.emitD dr).pl={ t.pl with draft:=none,last:=if dr.kind=="start" then dr.name else t.last,out:=t.out++[dr.pl.tok] }:=by rw [tok_eq];rfl
noncomputable def dErrs(s:PS)(d:PD):List V :=
 let e1:=if d.kind=="end"&&0 < d.attrs.length then s.errs++[errV "end-tag-with-attributes" (s.pos - 1)] else s.errs
 if d.kind=="end"&&d.closing then e1++[errV "end-tag-with-trailing-solidus" (s.pos - 1)] else e1
theorem Uie{s:PS}{d:PD}{e:List V}(h:s.draft=some d)(he:dErrs s d=e):s.emitDraft={ s with errs:=e,draft:=none,last:=if d.kind=="start" then d.name else s.last,out:=s.out++[d.tok] }:=by
 delta PS.emitDraft;rw [h,<- he];rfl
theorem Uls{t u:TS}{dr:Dr}{e:List V}(h:t.draft=some dr)(hu:u.pl={ t.pl with errs:=e })(ul:u.last=t.last)(uo:u.out=t.out)(he:dErrs t.pl dr.pl=e):(u.emitD dr).pl=t.pl.emitDraft:=by
 rw [Uq3,Uie (d:=dr.pl) (by show t.draft.map Dr.pl=_;rw [h];rfl) he,hu,ul,uo];rfl
theorem Use{s:PS}{d:PD}(h:(d.kind=="end")=true)(n:0 < d.attrs.length):dErrs s d=if d.closing=true then (s.errs++[errV "end-tag-with-attributes" (s.pos - 1)])++[errV "end-tag-with-trailing-solidus" (s.pos - 1)] else s.errs++[errV "end-tag-with-attributes" (s.pos - 1)]:=by
 delta dErrs;rw [h,decide_eq_true n];rfl
theorem Usm{s:PS}{d:PD}(h:(d.kind=="end")=true)(n:¬ 0 < d.attrs.length):dErrs s d=if d.closing=true then s.errs++[errV "end-tag-with-trailing-solidus" (s.pos - 1)] else s.errs:=by
 delta dErrs;rw [h,decide_eq_false n];rfl
theorem Ury{s:PS}{d:PD}(h:(d.kind=="end")=false):dErrs s d=s.errs:=by
 delta dErrs;rw [h];rfl
theorem Ugd(h:TR O τ t)(hd:t.draft=some dr)(hk:dr.kind="start"\/dr.kind="end")(ho:t.out.length < lim)(he:t.errs.length+1 < lim)(hl:dr.attrs.length < 5000) :
  Run (callK (P p) (d+2) a_Tokenizer_emit_draft [.ref 2 τ.i]) O fun v O'=>v=.none/\(∃ t',TR O' τ t'/\t'.waiting=t.waiting/\t'.pl=t.pl.emitDraft)/\Fx O O':=by
 rw [Ub6];show RF _ O _;delta F_Tokenizer_emit_draft;have hD:=h.dr dr hd;have pd:t.pl.draft=some dr.pl:=by simp [TS.pl,hd]
 refine RF.b (Ubk h) ?_;rw [hd];refine RF.b (Ui5 hD) (RF.eq (fun hkk=>?_) fun hkk=>?_)
 ·refine RF.b (Ubs hD) (RF.b (len_list hD.al) ?_);rw [List.length_map];refine RF.l (a:=decide ((0:Int) < dr.attrs.length)) rfl ?_
  by_cases hn:0 < dr.attrs.length
  ·refine RF.pos (by simpa using hn) (RF.mk (Uh9 h) (RF.c (Ugk h _ (om5 he)) fun v O2 qq=>xAAA qq fun ev h2 x2=>?_));subst ev;refine (Uk5 h2 hd hk ho (by simp [TS.error];exact om42 he) hl).mono fun v s qq=>xAAA qq fun e h' x'=>⟨e,⟨_,h',by delta TS.emitD;split <;> rfl,?_⟩,x2.trans x'⟩
   refine Uls hd (e:=dErrs t.pl dr.pl) ?_ (by split <;> rfl) (by split <;> rfl) rfl;rw [Use (d:=dr.pl) hkk (by rw [show dr.pl.attrs.length=dr.attrs.length from List.length_map _];exact hn)];rw [show dr.pl.closing=dr.closing from rfl];split <;> rfl
  ·refine RF.neg (by simpa using hn) ((Uk5 h hd hk ho (om5 he) hl).mono fun v s qq=>xAAA qq fun e h' x'=>⟨e,⟨_,h',by delta TS.emitD;split <;> rfl,?_⟩,x'⟩);refine Uls hd (e:=dErrs t.pl dr.pl) ?_ (by split <;> rfl) (by split <;> rfl) rfl;rw [Usm (d:=dr.pl) hkk (by rw [show dr.pl.attrs.length=dr.attrs.length from List.length_map _];exact hn)];rw [show dr.pl.closing=dr.closing from rfl];split <;> rfl
 ·refine (Ugz h hd hk ho hl).mono fun v s qq=>xAAA qq fun e h' x'=>⟨e,⟨_,h',rfl,?_⟩,x'⟩
  exact Uls hd rfl rfl rfl (Ury (d:=dr.pl) hkk)
end
noncomputable def clsReg(a:Addr):Option (Nat×Addr):=match lkN a clsL with
 | some k=>some (k.region,k.init)
 | none=>none
section
variable {p:Params}{O O' O₁:Store}{τ:Rf}{t:TS}{s:PS}{n d:Nat}{D:PD}{dr:Dr}{init:List PA}{a:PA}{Q:V->Store->Prop}{k:V->M Fl}{A B:M Fl}
theorem new_of{c:CC}{a f:Addr}{r:Nat}{args:List V}{l:List Ob}{R:Store->Prop}(hk:clsReg a=some (r,f))(hl:O[r]?=some l)
  (h:Run (c f (.ref r l.length::args)) (O.add r (.inst a [])) fun v O'=>v=.none/\R O'):Run (applyV (P p) c (.fn a) args) O fun v O'=>v=.ref r l.length/\R O':=by
 refine xEEAAA h fun v O1 e qz1 hR=>?_;subst qz1;refine ⟨.ref r l.length,O1,?_,rfl,hR⟩;delta applyV;delta clsReg at hk;have hc:(P p).clss=clsL:=rfl;dsimp only;rw [hc];cases q:lkN a clsL with
 | none=>rw [q] at hk;cases hk
 | some k =>
  rw [q] at hk;cases hk;dsimp only;rw [hl];skip;refine b_of e ?_
  rfl
theorem RF.sg{r i:Nat}{C:Addr}{es:List (Str×V)}{x:Str}{v:V}{k:Unit->M Fl}(h:O.get r i=some (.inst C es))(hx:clsHas C x=true)(hl:Nat.ble (es.length+1) 100=true)
  (g:(O.put r i (.inst C (setK x v es))).get r i=some (.inst C (setK x v es))->RF (k ()) (O.put r i (.inst C (setK x v es))) Q):RF (bnd (setAttrV (P p) (.ref r i) x v) k) O Q :=
 RF.b (Uag h hx (Nat.le_of_ble_eq_true hl) rfl) (g (Uaj h))
theorem Uf8{r:Nat}{l:List Ob}{vs:List V}(h:O[r]?=some l):newL r vs O=some (.ref r l.length,O.add r (.list vs)):=by delta newL;rw [h]
theorem Ugx{i:Nat}(h0:O.get 0 i=some (.inst c_Draft []))(hlen:O.length=24)(kind:Str):Run (callK (P p) (d+1) a_Draft_init [.ref 0 i,.str kind,.str Qt]) O fun v O'=>v=.none/\(∃ al,DR O' ⟨i,kind,"",false,al,[]⟩)/\Dx O O':=by
 rw [Uh8];show RF _ O _;delta F_Draft_init;refine RF.sg h0 (by kernel_rfl) (by kernel_rfl) fun h1=>RF.sg h1 (by kernel_rfl) (by kernel_rfl) fun h2=>RF.sg h2 (by kernel_rfl) (by kernel_rfl) fun h3=>RF.sg h3 (by kernel_rfl) (by kernel_rfl) fun h4 =>
  RF.sg h4 (by kernel_rfl) (by kernel_rfl) fun h5=>RF.sg h5 (by kernel_rfl) (by kernel_rfl) fun h6=>RF.sg h6 (by kernel_rfl) (by kernel_rfl) fun h7=>?_
 refine xEA (reg_of (r:=4) (O:=O) hlen (by decide)) fun l hl=>?_;refine RF.b (Uf8 (l:=l) (by repeat' first | exact hl | rw [Uc6 (by decide)])) ?_
 generalize hs:Store.put _ 0 i _=s7 at h7 ⊢
 have x7:Dx O s7:=by
  rw [<- hs]
  repeat' first | exact Dx.rfl | refine Dx.trans ?_ (Dx.put (by simp))
 have hl7:s7[4]?=some l:=by
  rw [<- hs]
  repeat' first | exact hl | rw [Uc6 (by decide)]
 have h7':=Ub5 (o:=.list []) hl7 h7;refine RF.sg h7' (by kernel_rfl) (by kernel_rfl) fun h8=>RF.n ⟨rfl,⟨l.length,?_,Ufo h7' (Ua0 hl7) (.inl (by decide)),(fun a m=>by cases m),List.nodup_nil⟩,x7.trans ((Dx.add (by simp)).trans (Dx.put (by simp)))⟩;rw [h8];have e:∀ a v:V,setK Qe a (setK Qs (.bool false) (setK Qcq (.bool false) (setK Qcp .none (setK Qco .none (setK Qk (.str Qt) (setK Qg (.str Qt) (setK Ql v [])))))))
  = [(Ql,v),(Qg,.str Qt),(Qk,.str Qt),(Qco,.none),(Qcp,.none),(Qcq,.bool false),(Qs,.bool false),(Qe,a)]:=fun a v=>by kernel_rfl
 exact congrArg (fun q=>some (Ob.inst c_Draft q)) (e (.ref 4 l.length) (.str kind))
theorem new_draft(hlen:O.length=24)(kind:Str):Run (applyV (P p) (callK (P p) (d+1)) (.fn c_Draft) [.str kind,.str Qt]) O fun v O'=>∃ i al,v=.ref 0 i/\DR O' ⟨i,kind,"",false,al,[]⟩/\Dx O O':=by
 refine xEA (reg_of (r:=0) (O:=O) hlen (by decide)) fun l hl=>?_;refine (new_of (f:=a_Draft_init) (R:=fun O'=>(∃ al,DR O' ⟨l.length,kind,"",false,al,[]⟩)/\Dx O O') (by kernel_rfl) hl ?_).mono fun v O' ⟨e,⟨al,h⟩,x⟩=>⟨l.length,al,e,h,x⟩
 exact (Ugx (Ua0 hl) (Uba.trans hlen) kind).mono fun v O' qq=>xAAA qq fun e h x=>⟨e,h,(Dx.add (by simp)).trans x⟩
theorem RF.new_draft{kind:Str}{k:Unit->M Fl}(h:TP O τ s)(hd:s.draft=none)(g:∀ O',TP O' τ (s.setDraft ⟨kind,"",false,[]⟩)->Fx O O'->RF (k ()) O' Q) :
  RF (bnd (applyV (P p) (callK (P p) (d+1)) (.fn c_Draft) [.str kind,.str Qt]) fun v=>bnd (setAttrV (P p) (.ref 2 τ.i) Qw v) k) O Q:=by
 obtain ⟨t,h,hw,rfl⟩:=h;have hn:t.draft=none:=Option.map_eq_none_iff.mp hd;refine RF.c (Mine.new_draft h.len kind) fun v O1 ⟨i,al,ev,hD,x⟩=>?_;subst ev;have h1:TR O1 τ t:=h.dx x rfl rfl (fun d e=>by rw [hn] at e;cases e);obtain ⟨O2,e2,h2,x2⟩:=Uq5 (p:=p) h1 (some ⟨i,kind,"",false,al,[]⟩) (fun d e=>by cases e;exact hD);exact RF.b e2 (g O2 ⟨_,h2,hw,rfl⟩ (x.fx.trans x2))
theorem RF.emit_text(h:TP O τ s)(hl:s.out.length+2 < lim)(g:∀ O',TP O' τ ((s.put (chV Qaf)).put (chV Qy))->Fx O O'->RF (k .none) O' Q) :
  RF (bnd (look (methK (P p) (.ref 2 τ.i) Qcz)) fun m=>if isRepl m then fail else bnd (methodV (callK (P p) (d+1)) m (.ref 2 τ.i) [.str Qcb]) k) O Q:=by
 obtain ⟨t,h,hw,rfl⟩:=h;refine RF.mk (Uh2 h) (RF.c (Ug5 h hl) fun v O' ⟨e,h',f⟩=>?_);subst e;exact g O' ⟨_,h',hw,rfl⟩ f
theorem RF.emit_draft(h:TP O τ s)(hd:s.draft=some D)(hk:D.kind="start"\/D.kind="end")(ho:s.out.length < lim)(he:s.errs.length+1 < lim)(hl:D.attrs.length < 5000)
  (g:∀ O',TP O' τ s.emitDraft->Fx O O'->RF (k .none) O' Q) :
  RF (bnd (look (methK (P p) (.ref 2 τ.i) Qcj)) fun m=>if isRepl m then fail else bnd (methodV (callK (P p) (d+2)) m (.ref 2 τ.i) []) k) O Q:=by
 obtain ⟨t,h,hw,rfl⟩:=h;obtain ⟨dr,hdr,rfl⟩:=Option.map_eq_some_iff.mp hd;refine RF.mk (Uhw h) (RF.c (Ugd h hdr hk ho he (by simpa [Dr.pl] using hl)) fun v O' ⟨e,⟨t',h',w',q'⟩,f⟩=>?_);subst e;exact g O' ⟨t',h',w'.trans hw,q'⟩ f
theorem DR.setObj{d':Dr}(h:DR O dr)(e1:d'.i=dr.i)(e2:d'.al=dr.al)(e3:d'.attrs=dr.attrs):DR (O.put 0 dr.i (.inst c_Draft (drEs d'))) d':=by
 refine ⟨by rw [e1];exact Uaj h.obj,?_,fun a m=>?_,by rw [e3];exact h.nd⟩
 ·rw [e2,e3];exact (Uac h.obj (by decide)).trans h.al
 ·rw [e3] at m;exact (Uac h.obj (by decide)).trans (h.each a m)
theorem RF.set_name{x:Str}{k:Unit->M Fl}(h:TP O τ s)(hd:s.draft=some D)(g:∀ O',TP O' τ (s.setDraft { D with name:=x })->Fx O O'->RF (k ()) O' Q) :
  RF (bnd (attrV (P p) (.ref 2 τ.i) Qw) fun o=>bnd (setAttrV (P p) o Qg (.str x)) k) O Q:=by
 obtain ⟨t,h,hw,rfl⟩:=h;obtain ⟨dr,hdr,rfl⟩:=Option.map_eq_some_iff.mp hd;refine RF.b (Ubk h) ?_;rw [hdr];have hD:=h.dr dr hdr;refine RF.b (Uag (es':=drEs { dr with name:=x }) hD.obj (by kernel_rfl) (by show 8 < 100;decide) (by kernel_rfl)) ?_;have x1:Dx O (O.put 0 dr.i (.inst c_Draft (drEs { dr with name:=x }))):=Dx.put (by simp);refine g _ ⟨{ t with draft:=some { dr with name:=x } },h.dx x1 rfl (by rw [hdr];rfl) (fun d e=>by cases e;exact hD.setObj rfl rfl rfl),hw,?_⟩ x1.fx;simp [TS.pl,PS.setDraft,Dr.pl]
theorem RF.set_closing{k:Unit->M Fl}(h:TP O τ s)(hd:s.draft=some D)(g:∀ O',TP O' τ (s.setDraft { D with closing:=true })->Fx O O'->RF (k ()) O' Q) :
  RF (bnd (attrV (P p) (.ref 2 τ.i) Qw) fun o=>bnd (setAttrV (P p) o Qs (.bool true)) k) O Q:=by
 obtain ⟨t,h,hw,rfl⟩:=h;obtain ⟨dr,hdr,rfl⟩:=Option.map_eq_some_iff.mp hd;refine RF.b (Ubk h) ?_;rw [hdr];have hD:=h.dr dr hdr;refine RF.b (Uag (es':=drEs { dr with closing:=true }) hD.obj (by kernel_rfl) (by show 8 < 100;decide) (by kernel_rfl)) ?_;have x1:Dx O (O.put 0 dr.i (.inst c_Draft (drEs { dr with closing:=true }))):=Dx.put (by simp);refine g _ ⟨{ t with draft:=some { dr with closing:=true } },h.dx x1 rfl (by rw [hdr];rfl) (fun d e=>by cases e;exact hD.setObj rfl rfl rfl),hw,?_⟩ x1.fx;simp [TS.pl,PS.setDraft,Dr.pl]
theorem RF.get_name{k:V->M Fl}(h:TP O τ s)(hd:s.draft=some D)(g:RF (k (.str D.name)) O Q) :
  RF (bnd (attrV (P p) (.ref 2 τ.i) Qw) fun o=>bnd (attrV (P p) o Qg) k) O Q:=by
 obtain ⟨t,h,hw,rfl⟩:=h;obtain ⟨dr,hdr,rfl⟩:=Option.map_eq_some_iff.mp hd;refine RF.b (Ubk h) ?_;rw [hdr];exact RF.b (Uo9 (h.dr dr hdr)) g
end
inductive Deed where
 | none | start | end_ | comment | lost | lone | give | close | put | quit | new | first | check | refer
structure Act where
 err:Option Str
 deed:Deed
 goal:Option Str
 again:Bool
noncomputable def PS.begin(s:PS)(kind:Str):PS:=s.setDraft ⟨kind,"",false,[]⟩
noncomputable def repl(c:Str):Str:=if c==Qab then "�" else c
noncomputable def PS.last'(s:PS)(f:List PA->PA->PA):PS:=match s.draft with
 | some D=>match D.attrs.getLast? with
  | some a=>s.setDraft { D with attrs:=D.attrs.dropLast++[f D.attrs.dropLast a] }
  | none=>s
 | none=>s
noncomputable def PS.newAttr(s:PS):PS:=match s.draft with
 | some D=>s.setDraft { D with attrs:=D.attrs++[⟨"","",true⟩] }
 | none=>s
noncomputable def PS.addName(s:PS)(c:Str):PS:=s.last' fun w0 a=>{ a with n:=a.n++c }
noncomputable def PS.addValue(s:PS)(c:Str):PS:=s.last' fun w0 a=>{ a with v:=a.v++c }
noncomputable def PS.isTold(s:PS):Bool:=match s.draft with
 | some D=>match D.attrs.getLast? with
  | some a=>toldP D.attrs.dropLast a
  | none=>false
 | none=>false
noncomputable def PS.check(s:PS):PS:=if s.isTold then (s.last' fun w0 a=>{ a with k:=false }).error "duplicate-attribute" else s
noncomputable def PS.tagName(s:PS)(c:Str):PS:=match s.draft with
 | some D=>s.setDraft { D with name:=D.name++c }
 | none=>s
noncomputable def PS.closeIt(s:PS):PS:=match s.draft with
 | some D=>s.setDraft { D with closing:=true }
 | none=>s
noncomputable def PS.deed(s:PS)(d:Deed)(c:Str):PS:=match d with
 | .none=>s
 | .start=>s.begin "start"
 | .end_=>s.begin "end"
 | .comment=>s.begin "comment"
 | .lost=>(if s.state=="tag open" then s.put (chV "<") else (s.put (chV "<")).put (chV "/")).eof
 | .lone=>s.put (chV "<")
 | .give=>s.emitDraft
 | .close=>s.closeIt.emitDraft
 | .put=>if s.state=="tag name" then s.tagName (if c==Qab then "�" else lowerS c)
  else if s.state=="attribute name" then s.addName (if c==Qab then "�" else lowerS c)
  else s.addValue (repl c)
 | .quit=>s.eof
 | .new=>s.newAttr
 | .first=>s.newAttr.addName c
 | .check=>s.check
 | .refer=>{ s with back:=s.state }
noncomputable def PS.go(s:PS)(a:Act):PS :=
 let s1:=match a.err with
  | some e=>s.nxt.error e
  | none=>s.nxt
 let s2:=s1.deed a.deed s.cur
 match a.goal with
 | some g=>if a.again then s2.again g else s2.to g
 | none=>s2
noncomputable def actTagOpen(c:Str):Act:=if c=="!" then ⟨none,.none,some "markup declaration open",false⟩ else if c=="/" then ⟨none,.none,some "end tag open",false⟩
 else if isLetter c then ⟨none,.start,some "tag name",true⟩ else if c=="?" then ⟨some "unexpected-question-mark-instead-of-tag-name",.comment,some "bogus comment",true⟩
 else if c=="" then ⟨some "eof-before-tag-name",.lost,none,false⟩ else ⟨some "invalid-first-character-of-tag-name",.lone,some "data",true⟩
noncomputable def actEndOpen(c:Str):Act:=if isLetter c then ⟨none,.end_,some "tag name",true⟩ else if c==">" then ⟨some "missing-end-tag-name",.none,some "data",false⟩
 else if c=="" then ⟨some "eof-before-tag-name",.lost,none,false⟩ else ⟨some "invalid-first-character-of-tag-name",.comment,some "bogus comment",true⟩
noncomputable def actTagName(c:Str):Act:=if isBlank c then ⟨none,.none,some "before attribute name",false⟩ else if c=="/" then ⟨none,.none,some "self-closing start tag",false⟩
 else if c==">" then ⟨none,.give,some "data",false⟩ else if c=="\x00" then ⟨some "unexpected-null-character",.put,none,false⟩ else if c=="" then ⟨some "eof-in-tag",.quit,none,false⟩
 else ⟨none,.put,none,false⟩
noncomputable def actSelf(c:Str):Act:=if c==">" then ⟨none,.close,some "data",false⟩ else if c=="" then ⟨some "eof-in-tag",.quit,none,false⟩ else ⟨some "unexpected-solidus-in-tag",.none,some "before attribute name",true⟩
noncomputable def actBefName(c:Str):Act:=if isBlank c then ⟨none,.none,none,false⟩ else if [Qy,">",""].any (·==c) then ⟨none,.none,some "after attribute name",true⟩
 else if c=="=" then ⟨some "unexpected-equals-sign-before-attribute-name",.first,some "attribute name",false⟩ else ⟨none,.new,some "attribute name",true⟩
noncomputable def actName(c:Str):Act:=if isBlank c then ⟨none,.check,some "after attribute name",true⟩ else if [Qy,">",""].any (·==c) then ⟨none,.check,some "after attribute name",true⟩
 else if c=="=" then ⟨none,.check,some "before attribute value",false⟩ else if c=="\x00" then ⟨some "unexpected-null-character",.put,none,false⟩
 else if [Qan,"'","<"].any (·==c) then ⟨some "unexpected-character-in-attribute-name",.put,none,false⟩ else ⟨none,.put,none,false⟩
noncomputable def actAftName(c:Str):Act:=if isBlank c then ⟨none,.none,none,false⟩ else if c=="/" then ⟨none,.none,some "self-closing start tag",false⟩ else if c=="=" then ⟨none,.none,some "before attribute value",false⟩
 else if c==">" then ⟨none,.give,some "data",false⟩ else if c=="" then ⟨some "eof-in-tag",.quit,none,false⟩ else ⟨none,.new,some "attribute name",true⟩
noncomputable def actBefVal(c:Str):Act:=if isBlank c then ⟨none,.none,none,false⟩ else if c=="\"" then ⟨none,.none,some "attribute value (double-quoted)",false⟩ else if c=="'" then ⟨none,.none,some "attribute value (single-quoted)",false⟩
 else if c==">" then ⟨some "missing-attribute-value",.give,some "data",false⟩ else ⟨none,.none,some "attribute value (unquoted)",true⟩
noncomputable def actQuoted(q c:Str):Act:=if c==q then ⟨none,.none,some "after attribute value (quoted)",false⟩ else if c=="&" then ⟨none,.refer,some "character reference",false⟩
 else if c=="\x00" then ⟨some "unexpected-null-character",.put,none,false⟩ else if c=="" then ⟨some "eof-in-tag",.quit,none,false⟩ else ⟨none,.put,none,false⟩
noncomputable def actBare(c:Str):Act:=if isBlank c then ⟨none,.none,some "before attribute name",false⟩ else if c=="&" then ⟨none,.refer,some "character reference",false⟩ else if c==">" then ⟨none,.give,some "data",false⟩
 else if c=="\x00" then ⟨some "unexpected-null-character",.put,none,false⟩ else if c=="" then ⟨some "eof-in-tag",.quit,none,false⟩
 else if [Qan,"'","<","=","`"].any (·==c) then ⟨some "unexpected-character-in-unquoted-attribute-value",.put,none,false⟩ else ⟨none,.put,none,false⟩
noncomputable def actAftVal(c:Str):Act:=if isBlank c then ⟨none,.none,some "before attribute name",false⟩ else if c=="/" then ⟨none,.none,some "self-closing start tag",false⟩ else if c==">" then ⟨none,.give,some "data",false⟩
 else if c=="" then ⟨some "eof-in-tag",.quit,none,false⟩ else ⟨some "missing-whitespace-between-attributes",.none,some "before attribute name",true⟩
inductive St where
 | tagOpen | endOpen | tagName | self | befName | name | aftName | befVal | dq | sq | bare | aftVal
noncomputable def St.str:St->Str
 | .tagOpen=>"tag open" | .endOpen=>"end tag open" | .tagName=>"tag name" | .self=>"self-closing start tag" | .befName=>"before attribute name" | .name=>"attribute name" | .aftName=>"after attribute name"
 | .befVal=>"before attribute value" | .dq=>"attribute value (double-quoted)" | .sq=>"attribute value (single-quoted)" | .bare=>"attribute value (unquoted)" | .aftVal=>"after attribute value (quoted)"
noncomputable def allSt:List St:=[.tagOpen,.endOpen,.tagName,.self,.befName,.name,.aftName,.befVal,.dq,.sq,.bare,.aftVal]
noncomputable def act(q:St)(c:Str):Act:=match q with
 | .tagOpen=>actTagOpen c | .endOpen=>actEndOpen c | .tagName=>actTagName c | .self=>actSelf c | .befName=>actBefName c | .name=>actName c | .aftName=>actAftName c
 | .befVal=>actBefVal c | .dq=>actQuoted "\"" c | .sq=>actQuoted "'" c | .bare=>actBare c | .aftVal=>actAftVal c
noncomputable def St.addr:St->Addr
 | .tagOpen=>a_tag_open_state | .endOpen=>a_end_tag_open_state | .tagName=>a_tag_name_state | .self=>a_self_closing_state | .befName=>a_before_attr_name_state | .name=>a_attr_name_state | .aftName=>a_after_attr_name_state
 | .befVal=>a_before_attr_value_state | .dq=>a_double_quoted_state | .sq=>a_single_quoted_state | .bare=>a_unquoted_state | .aftVal=>a_after_quoted_state
noncomputable def ofStr(x:Str):Option St:=allSt.find? fun q=>q.str==x
structure Fit(q:St)(s:PS):Prop where
 st:s.state=q.str
 pos:0<=s.pos
 out:s.out.length+3 < lim
 errs:s.errs.length+3 < lim
 sg:isUpper s.cur=true->s.cur.length=1/\s.cur.cps.getD 0 0+32 < 0x110000
 cl:s.cur.length<=1
 dn:q=.tagOpen\/q=.endOpen->s.draft=none
 ds:q≠.tagOpen->q≠.endOpen->∃ D,s.draft=some D/\(D.kind="start"\/D.kind="end")/\D.attrs.length+1 < 5000/\D.name.length+1 < lim /\
  ((q=.name\/q=.befVal\/q=.dq\/q=.sq\/q=.bare)->∃ init a,D.attrs=init++[a]/\a.n.length+1 < lim/\a.v.length+1 < lim)
section
variable {p:Params}{O O' O₁:Store}{τ:Rf}{t:TS}{s:PS}{n d:Nat}{D:PD}{dr:Dr}{init:List PA}{a:PA}{Q:V->Store->Prop}{k:V->M Fl}{A B:M Fl}
noncomputable abbrev Ends(s:PS)(τ:Rf)(O:Store)(s':PS):V->Store->Prop:=fun v O'=>v=.none/\TP O' τ s'/\Fx O O'
theorem gy{m:M Fl}{O0:Store}{t:PS}{b:Bool}{A B:Act}(h:b=true)(g:RF m O0 (Ends s τ O (t.go A))):RF m O0 (Ends s τ O (t.go (if b=true then A else B))):=by rw [if_pos h];exact g
theorem gn{m:M Fl}{O0:Store}{t:PS}{b:Bool}{A B:Act}(h:b=false)(g:RF m O0 (Ends s τ O (t.go B))):RF m O0 (Ends s τ O (t.go (if b=true then A else B))):=by rw [if_neg (by rw [h];exact Bool.false_ne_true)];exact g
theorem Uip(h:TP O τ s)(f:Fit .tagOpen s):RF (F_tag_open_state p (callK (P p) (d+3)) (.ref 2 τ.i)) O (Ends s τ O (s.go (actTagOpen s.cur))):=by
 delta F_tag_open_state;refine RF.next h f.pos fun O1 h1 x1=>?_;delta actTagOpen;refine RF.eq (fun c1=>?_) fun c1=>?_
 ·refine gy c1 ?_;exact RF.to h1 fun O2 h2 x2=>RF.n ⟨rfl,h2,x1.trans x2⟩
 refine gn c1 ?_;refine RF.eq (fun c2=>?_) fun c2=>?_
 ·refine gy c2 ?_;exact RF.to h1 fun O2 h2 x2=>RF.n ⟨rfl,h2,x1.trans x2⟩
 refine gn c2 ?_;refine RF.letter (fun c3=>?_) fun c3=>?_
 ·refine gy c3 ?_;exact RF.new_draft h1 (f.dn (.inl rfl)) fun O2 h2 x2=>RF.again h2 fun O3 h3 x3=>RF.n ⟨rfl,h3,x1.trans (x2.trans x3)⟩
 refine gn c3 ?_;refine RF.eq (fun c4=>?_) fun c4=>?_
 ·refine gy c4 ?_;exact RF.error h1 (by have:=f.errs;show s.errs.length < lim;exact om0 this) fun O2 h2 x2=>RF.new_draft h2 (f.dn (.inl rfl)) fun O3 h3 x3=>RF.again h3 fun O4 h4 x4=>RF.n ⟨rfl,h4,x1.trans (x2.trans (x3.trans x4))⟩
 refine gn c4 ?_;refine RF.eq (fun c5=>?_) fun c5=>?_
 ·refine gy c5 ?_;refine RF.error h1 (by have:=f.errs;show s.errs.length < lim;exact om0 this) fun O2 h2 x2=>RF.emit_sign h2 (by have:=f.out;show s.out.length < lim;exact om0 this) fun O3 h3 x3=>RF.emit_eof h3 (by have:=f.out;show (s.out++[_]).length < lim;simp;exact om1 this) fun O4 h4 x4 =>
   RF.n ⟨rfl,?_,x1.trans (x2.trans (x3.trans x4))⟩
  have e:s.go ⟨some "eof-before-tag-name",.lost,none,false⟩=((s.nxt.error "eof-before-tag-name").put (chV "<")).eof:=by
   show (if (s.state==Qba)=true then _ else _:PS).eof=_;rw [f.st,if_pos (by kernel_rfl)]
  rw [e];exact h4
 refine gn c5 ?_;exact RF.error h1 (by have:=f.errs;show s.errs.length < lim;exact om0 this) fun O2 h2 x2=>RF.emit_sign h2 (by have:=f.out;show s.out.length < lim;exact om0 this) fun O3 h3 x3=>RF.again h3 fun O4 h4 x4=>RF.n ⟨rfl,h4,x1.trans (x2.trans (x3.trans x4))⟩
end
section
variable {p:Params}{O O' O₁:Store}{τ:Rf}{t:TS}{s:PS}{n d:Nat}{D:PD}{dr:Dr}{init:List PA}{a:PA}{Q:V->Store->Prop}{k:V->M Fl}{A B:M Fl}
theorem RF.blankC{x:Str}{A B:V->M Fl}(g:isBlank x=true->RF (A (.bool true)) O Q)(g':isBlank x=false->RF (B (.bool false)) O Q) :
  RF (bnd (callK (P p) (d+1) a_is_blank [.str x]) fun v=>match isT v with
   | some b=>cond b (A v) (B v)
   | none=>fail) O Q:=by
 refine RF.b (Ul3 x) ?_;show RF (cond (isBlank x) _ _) O Q;cases h:isBlank x
 ·exact g' h
 ·exact g h
theorem RF.memC{x:Str}{vs:List V}{l:List Str}(hl:strsOf vs=some l)(g:l.any (·==x)=true->RF A O Q)(g':l.any (·==x)=false->RF B O Q) :
  RF (bnd (look (cmpV .In (.str x) (.tup vs))) fun b=>cond b A B) O Q:=by
 refine RF.l (a:=l.any (·==x)) (in_tup (O:=O) hl) ?_;cases h:l.any (·==x)
 ·exact g' h
 ·exact g h
theorem Ulb(s:PS)(x:Str):(s.to x).emitDraft=s.emitDraft.to x:=by
 obtain ⟨pos,state,back,last,out,errs,draft,done,signs,closed,isret,serr⟩:=s;cases draft <;> rfl
theorem Ucw{f:List PA->PA->PA}(hd:s.draft=some D)(ha:D.attrs=init++[a]):s.last' f=s.setDraft { D with attrs:=init++[f init a] }:=by
 delta PS.last';rw [hd];dsimp only;rw [ha,List.getLast?_concat,List.dropLast_concat]
theorem Uoj(hd:s.draft=some D)(ha:D.attrs=init++[a]):s.isTold=toldP init a:=by
 delta PS.isTold;rw [hd];dsimp only;rw [ha,List.getLast?_concat,List.dropLast_concat]
theorem Uhc(hd:s.draft=some D):s.setDraft D=s:=by delta PS.setDraft;rw [<- hd]
theorem Uli{c:Str}(h:c.length<=1):(lowerS c).length<=1:=by
 delta lowerS;split
 ·exact Nat.le_refl 1
 ·exact h
theorem RF.finish(h:TP O τ s)(hd:s.draft=some D)(hk:D.kind="start"\/D.kind="end")(ho:s.out.length < lim)(he:s.errs.length+1 < lim)(hl:D.attrs.length < 5000)
  (g:∀ O',TP O' τ (s.emitDraft.to "data")->Fx O O'->RF (k .none) O' Q):RF (bnd (callK (P p) (d+3) a_finish_tag [.ref 2 τ.i]) k) O Q:=by
 refine RF.c (Q1:=fun v O'=>v=.none/\TP O' τ (s.emitDraft.to "data")/\Fx O O') ?_ fun v O' qq=>xAAA qq fun e h' x=>by subst e;exact g O' h' x
 rw [Uih];show RF _ O _;delta F_finish_tag;refine RF.to h fun O2 h2 x2=>RF.emit_draft h2 hd hk ho he hl fun O3 h3 x3=>RF.n ⟨rfl,?_,x2.trans x3⟩;rw [<- Ulb];exact h3
theorem RF.cut(h:TP O τ s)(ho:s.out.length < lim)(he:s.errs.length < lim)(g:∀ O',TP O' τ (s.error "eof-in-tag").eof->Fx O O'->RF (k .none) O' Q):RF (bnd (callK (P p) (d+2) a_cut_tag [.ref 2 τ.i]) k) O Q:=by
 refine RF.c (Q1:=fun v O'=>v=.none/\TP O' τ (s.error "eof-in-tag").eof/\Fx O O') ?_ fun v O' ⟨e,h',x⟩=>by subst e;exact g O' h' x
 rw [Um8];show RF _ O _;delta F_cut_tag;exact RF.error h he fun O2 h2 x2=>RF.emit_eof h2 ho fun O3 h3 x3=>RF.n ⟨rfl,h3,x2.trans x3⟩
theorem RF.refer(h:TP O τ s)(g:∀ O',TP O' τ ({ s with back:=s.state }.to "character reference")->Fx O O'->RF (k .none) O' Q):RF (bnd (callK (P p) (d+2) a_begin_reference [.ref 2 τ.i]) k) O Q:=by
 refine RF.c (Q1:=fun v O'=>v=.none/\TP O' τ ({ s with back:=s.state }.to "character reference")/\Fx O O') ?_ fun v O' ⟨e,h',x⟩=>by subst e;exact g O' h' x
 rw [Ud5];show RF _ O _;delta F_begin_reference;obtain ⟨t,h,hw,rfl⟩:=h;obtain ⟨O1,e1,h1,f1⟩:=Us6 (p:=p) h t.state;exact RF.b (Ue8 h) (RF.b e1 (RF.to ⟨_,h1,hw,rfl⟩ fun O2 h2 x2=>RF.n ⟨rfl,h2,f1.trans x2⟩))
theorem RF.leave(h:TP O τ s)(hd:s.draft=some D)(ha:D.attrs=init++[a])(hl:init.length < 5000)(he:s.errs.length < lim)(g:∀ O',TP O' τ s.check->Fx O O'->RF (k .none) O' Q) :
  RF (bnd (callK (P p) (d+2) a_leave_name [.ref 2 τ.i]) k) O Q:=by
 refine RF.c (Q1:=fun v O'=>v=.none/\TP O' τ s.check/\Fx O O') ?_ fun v O' ⟨e,h',x⟩=>by subst e;exact g O' h' x
 rw [Uiu];show RF _ O _;delta F_leave_name;refine Uis (c':=callK (P p) 0) (k':=fun v=>ret (.ret v)) h hd ha hl fun O2 h2 x2=>?_;show RF (if (!!toldP init a)=true then _ else _) O2 _;delta PS.check;rw [Uoj hd ha];cases ht:toldP init a with
 | true =>
  refine RF.pos rfl ?_;rw [ht] at h2;refine RF.error h2 he fun O3 h3 x3=>RF.n ⟨rfl,?_,x2.trans x3⟩;rw [if_pos rfl,Ucw hd ha];exact h3
 | false =>
  refine RF.neg Bool.false_ne_true (RF.n ⟨rfl,?_,x2⟩);rw [if_neg Bool.false_ne_true];have e:({ D with attrs:=init++[{ a with k:=if toldP init a=true then false else a.k }] }:PD)=D:=by
   rw [ht];simp only [Bool.false_eq_true,if_false];rw [<- ha]
  rw [e,Uhc hd] at h2;exact h2
theorem RF.add_low{x:Str}(h:TP O τ s)(hd:s.draft=some D)(ha:D.attrs=init++[a])(hx:isUpper x=true->x.length=1/\x.cps.getD 0 0+32 < 0x110000)(hl:a.n.length+(lowerS x).length<=lim)
  (g:∀ O',TP O' τ (s.addName (lowerS x))->Fx O O'->RF (k .none) O' Q) :
  RF (bnd (attrV (P p) (.ref 2 τ.i) Qw) fun o=>bnd (look (methK (P p) o Qbx)) fun m=>if isRepl m then fail else bnd (callK (P p) (d+2) a_lower [.str x]) fun y=>bnd (methodV (callK (P p) (d+2)) m o [y]) k) O Q:=by
 delta PS.addName at g;rw [Ucw hd ha] at g;obtain ⟨t,h,hw,rfl⟩:=h;obtain ⟨dr,hdr,rfl⟩:=Option.map_eq_some_iff.mp hd;obtain ⟨i',a',e,rfl,rfl⟩:=Udh ha;refine RF.b (Ubk h) ?_;rw [hdr];have hD:=h.dr dr hdr;refine RF.mk (Uf9 hD) (RF.b (Ukr x hx) (RF.c (Ufi hD e (lowerS x) hl) fun v O' qq=>xAAA qq fun ev h' f=>?_));subst ev;refine g O' ⟨{ t with draft:=some { dr with attrs:=i'++[{ a' with n:=a'.n++lowerS x }] } },h.dx f rfl (by rw [hdr];rfl) (fun d e=>by cases e;exact h'),hw,?_⟩ f.fx;simp [TS.pl,PS.setDraft,Dr.pl,At.pl]
theorem Uig(h:TP O τ s)(f:Fit .endOpen s):RF (F_end_tag_open_state p (callK (P p) (d+3)) (.ref 2 τ.i)) O (Ends s τ O (s.go (actEndOpen s.cur))):=by
 have ho:=f.out;have he:=f.errs;delta F_end_tag_open_state;refine RF.next h f.pos fun O1 h1 x1=>?_;delta actEndOpen;refine RF.letter (fun c3=>?_) fun c3=>?_
 ·refine gy c3 ?_;exact RF.new_draft h1 (f.dn (.inr rfl)) fun O2 h2 x2=>RF.again h2 fun O3 h3 x3=>RF.n ⟨rfl,h3,x1.trans (x2.trans x3)⟩
 refine gn c3 ?_;refine RF.eq (fun c4=>?_) fun c4=>?_
 ·refine gy c4 ?_;exact RF.error h1 (by show s.errs.length < lim;exact om0 he) fun O2 h2 x2=>RF.to h2 fun O3 h3 x3=>RF.n ⟨rfl,h3,x1.trans (x2.trans x3)⟩
 refine gn c4 ?_;refine RF.eq (fun c5=>?_) fun c5=>?_
 ·refine gy c5 ?_;refine RF.error h1 (by show s.errs.length < lim;exact om0 he) fun O2 h2 x2=>RF.emit_text h2 (by show s.out.length+2 < lim;exact om7 ho) fun O3 h3 x3=>RF.emit_eof h3 (by show ((s.out++[_])++[_]).length < lim;simp;exact om7 ho) fun O4 h4 x4 =>
   RF.n ⟨rfl,?_,x1.trans (x2.trans (x3.trans x4))⟩
  have e:s.go ⟨some "eof-before-tag-name",.lost,none,false⟩=(((s.nxt.error "eof-before-tag-name").put (chV "<")).put (chV "/")).eof:=by
   show (if (s.state==Qba)=true then _ else _:PS).eof=_;rw [f.st,if_neg (by decide)]
  rw [e];exact h4
 refine gn c5 ?_;exact RF.error h1 (by show s.errs.length < lim;exact om0 he) fun O2 h2 x2=>RF.new_draft h2 (f.dn (.inr rfl)) fun O3 h3 x3=>RF.again h3 fun O4 h4 x4=>RF.n ⟨rfl,h4,x1.trans (x2.trans (x3.trans x4))⟩
theorem Uh1(h:TP O τ s)(f:Fit .tagName s):RF (F_tag_name_state p (callK (P p) (d+3)) (.ref 2 τ.i)) O (Ends s τ O (s.go (actTagName s.cur))):=by
 have ho:=f.out;have he:=f.errs;refine xEAAAAA (f.ds nofun nofun) fun D hd hk hl hn w0=>?_;have hput:∀ s1:PS,s1.state=s.state->s1.draft=some D->s1.deed .put s.cur=s1.setDraft { D with name:=D.name++(if s.cur==Qab then Qaz else lowerS s.cur) }:=fun s1 e1 e2=>by
  show (if (s1.state==Qai)=true then _ else _:PS)=_;rw [e1,f.st,if_pos (by kernel_rfl)];delta PS.tagName;rw [e2]
 delta F_tag_name_state;refine RF.next h f.pos fun O1 h1 x1=>?_;delta actTagName;refine RF.blank (fun c1=>?_) fun c1=>?_
 ·refine gy c1 ?_;exact RF.to h1 fun O2 h2 x2=>RF.n ⟨rfl,h2,x1.trans x2⟩
 refine gn c1 ?_;refine RF.eq (fun c2=>?_) fun c2=>?_
 ·refine gy c2 ?_;exact RF.to h1 fun O2 h2 x2=>RF.n ⟨rfl,h2,x1.trans x2⟩
 refine gn c2 ?_;refine RF.eq (fun c3=>?_) fun c3=>?_
 ·refine gy c3 ?_;refine RF.to h1 fun O2 h2 x2=>RF.emit_draft h2 hd hk (by show s.out.length < lim;exact om0 ho) (by show s.errs.length+1 < lim;exact om1 he) (om4 hl) fun O3 h3 x3=>RF.n ⟨rfl,?_,x1.trans (x2.trans x3)⟩;rw [Ulb] at h3;exact h3
 refine gn c3 ?_;refine RF.eq (fun c4=>?_) fun c4=>?_
 ·refine gy c4 ?_;refine RF.error h1 (by show s.errs.length < lim;exact om0 he) fun O2 h2 x2=>RF.get_name h2 hd (RF.l (add_str (by show D.name.length+1<=lim;exact om11 hn)) (RF.set_name h2 hd fun O3 h3 x3=>RF.n ⟨rfl,?_,x1.trans (x2.trans x3)⟩));show TP O3 τ ((s.nxt.error _).deed .put s.cur);rw [hput (s.nxt.error _) rfl hd,if_pos c4];exact h3
 refine gn c4 ?_;refine RF.eq (fun c5=>?_) fun c5=>?_
 ·refine gy c5 ?_;exact RF.error h1 (by show s.errs.length < lim;exact om0 he) fun O2 h2 x2=>RF.emit_eof h2 (by show s.out.length < lim;exact om0 ho) fun O3 h3 x3=>RF.n ⟨rfl,h3,x1.trans (x2.trans x3)⟩
 refine gn c5 ?_;refine RF.get_name h1 hd (RF.b (Ukr _ f.sg) (RF.l (add_str (by have:=Uli f.cl;exact om10 hn this)) (RF.set_name h1 hd fun O3 h3 x3=>RF.n ⟨rfl,?_,x1.trans x3⟩)));show TP O3 τ (s.nxt.deed .put s.cur);rw [hput s.nxt rfl hd,if_neg (by rw [c4];decide)];exact h3
theorem Uqj(h:TP O τ s)(f:Fit .self s):RF (F_self_closing_state p (callK (P p) (d+3)) (.ref 2 τ.i)) O (Ends s τ O (s.go (actSelf s.cur))):=by
 have ho:=f.out;have he:=f.errs;refine xEAAAAA (f.ds nofun nofun) fun D hd hk hl hn w0=>?_;delta F_self_closing_state;refine RF.next h f.pos fun O1 h1 x1=>?_;delta actSelf;refine RF.eq (fun c1=>?_) fun c1=>?_
 ·refine gy c1 ?_;refine RF.set_closing h1 hd fun O2 h2 x2=>RF.to h2 fun O3 h3 x3=>RF.emit_draft (D:={ D with closing:=true }) h3 rfl hk (by show s.out.length < lim;exact om0 ho) (by show s.errs.length+1 < lim;exact om1 he) (by show D.attrs.length < 5000;exact om4 hl) fun O4 h4 x4=>RF.n ⟨rfl,?_,x1.trans (x2.trans (x3.trans x4))⟩;rw [Ulb] at h4;show TP O4 τ (s.nxt.closeIt.emitDraft.to "data");have e:s.nxt.closeIt=s.nxt.setDraft { D with closing:=true }:=by delta PS.closeIt;rw [show s.nxt.draft=some D from hd]
  rw [e];exact h4
 refine gn c1 ?_;refine RF.eq (fun c5=>?_) fun c5=>?_
 ·refine gy c5 ?_;exact RF.error h1 (by show s.errs.length < lim;exact om0 he) fun O2 h2 x2=>RF.emit_eof h2 (by show s.out.length < lim;exact om0 ho) fun O3 h3 x3=>RF.n ⟨rfl,h3,x1.trans (x2.trans x3)⟩
 refine gn c5 ?_;exact RF.error h1 (by show s.errs.length < lim;exact om0 he) fun O2 h2 x2=>RF.again h2 fun O3 h3 x3=>RF.n ⟨rfl,h3,x1.trans (x2.trans x3)⟩
end
section
variable {p:Params}{O O' O₁:Store}{τ:Rf}{t:TS}{s:PS}{n d:Nat}{D:PD}{dr:Dr}{init:List PA}{a:PA}{Q:V->Store->Prop}{k:V->M Fl}{A B:M Fl}
theorem Ub7(hd:s.draft=some D):s.newAttr=s.setDraft { D with attrs:=D.attrs++[⟨"","",true⟩] }:=by delta PS.newAttr;rw [hd]
theorem Uiv(h:TP O τ s)(f:Fit .befName s):RF (F_before_attr_name_state p (callK (P p) (d+3)) (.ref 2 τ.i)) O (Ends s τ O (s.go (actBefName s.cur))):=by
 have ho:=f.out;have he:=f.errs;refine xEAAAAA (f.ds nofun nofun) fun D hd hk hl hn w0=>?_;delta F_before_attr_name_state;refine RF.next h f.pos fun O1 h1 x1=>?_;delta actBefName;refine RF.blank (fun c1=>?_) fun c1=>?_
 ·refine gy c1 ?_;exact RF.r ⟨rfl,h1,x1⟩
 refine gn c1 ?_;rw [Uay];delta J_before_attr_name_state_0_T0;refine RF.mem (l:=["/",">",""]) rfl (fun c2=>?_) fun c2=>?_
 ·refine gy c2 ?_;exact RF.again h1 fun O2 h2 x2=>RF.n ⟨rfl,h2,x1.trans x2⟩
 refine gn c2 ?_;refine RF.eq (fun c3=>?_) fun c3=>?_
 ·refine gy c3 ?_;refine RF.error h1 (by show s.errs.length < lim;exact om0 he) fun O2 h2 x2=>RF.begin_attr h2 hd (by delta lim;exact om17 hl) fun O3 h3 x3=>RF.add_name (init:=D.attrs) (a:=⟨"","",true⟩) h3 rfl rfl (by have:=f.cl;show 0+s.cur.length<=lim;delta lim;omega) fun O4 h4 x4=>RF.to h4 fun O5 h5 x5=>RF.n ⟨rfl,?_,x1.trans (x2.trans (x3.trans (x4.trans x5)))⟩;show TP O5 τ (((s.nxt.error _).newAttr.addName s.cur).to _);rw [Ub7 (s:=s.nxt.error _) hd];delta PS.addName;rw [Ucw (init:=D.attrs) (a:=⟨"","",true⟩) rfl rfl];exact h5
 refine gn c3 ?_;refine RF.begin_attr h1 hd (by delta lim;exact om17 hl) fun O3 h3 x3=>RF.again h3 fun O4 h4 x4=>RF.n ⟨rfl,?_,x1.trans (x3.trans x4)⟩;show TP O4 τ ((s.nxt.newAttr).again _);rw [Ub7 (s:=s.nxt) hd];exact h4
theorem Uqq(h:TP O τ s)(f:Fit .name s):RF (F_attr_name_state p (callK (P p) (d+3)) (.ref 2 τ.i)) O (Ends s τ O (s.go (actName s.cur))):=by
 have ho:=f.out;have he:=f.errs;refine xEAAAAA (f.ds nofun nofun) fun D hd hk hl hn hx=>?_;refine xEEAAA (hx (.inl rfl)) fun init a ha hna hva=>?_;have hil:init.length < 5000:=by rw [ha,List.length_append] at hl;simp at hl;exact Nat.lt_of_add_right_lt hl
 have hput:∀ s1:PS,s1.state=s.state->s1.deed .put s.cur=s1.addName (if s.cur==Qab then Qaz else lowerS s.cur):=fun s1 e1=>by
  show (if (s1.state==Qai)=true then _ else if (s1.state==Qaj)=true then _ else _:PS)=_;rw [e1,f.st,if_neg (by decide),if_pos (by kernel_rfl)]
 have low:∀ {O2:Store} {s1:PS},TP O2 τ s1->Fx O O2->s1.draft=some D->s1.state=s.state->(s.cur==Qab)=false->RF (J_attr_name_state_0 p (callK (P p) (d+3)) [(Qm,.ref 2 τ.i),(Qd,.str s.cur)]) O2 (Ends s τ O (s1.deed .put s.cur)):=by
  intro O2 s1 h2 x2 hd2 hs2 c4;rw [Ub1];delta J_attr_name_state_0_T0;refine RF.add_low h2 hd2 ha f.sg (by have:=Uli f.cl;exact om10 hna this) fun O3 h3 x3=>RF.n ⟨rfl,?_,x2.trans x3⟩;rw [hput s1 hs2,if_neg (by rw [c4];decide)];exact h3
 delta F_attr_name_state;refine RF.next h f.pos fun O1 h1 x1=>?_;delta actName;refine RF.blankC (fun c1=>?_) fun c1=>?_
 ·refine gy c1 ?_;exact RF.leave h1 hd ha hil (by show s.errs.length < lim;exact om0 he) fun O2 h2 x2=>RF.again h2 fun O3 h3 x3=>RF.n ⟨rfl,h3,x1.trans (x2.trans x3)⟩
 refine gn c1 ?_;refine RF.memC (l:=["/",">",""]) rfl (fun c2=>?_) fun c2=>?_
 ·refine gy c2 ?_;exact RF.leave h1 hd ha hil (by show s.errs.length < lim;exact om0 he) fun O2 h2 x2=>RF.again h2 fun O3 h3 x3=>RF.n ⟨rfl,h3,x1.trans (x2.trans x3)⟩
 refine gn c2 ?_;refine RF.eq (fun c3=>?_) fun c3=>?_
 ·refine gy c3 ?_;exact RF.leave h1 hd ha hil (by show s.errs.length < lim;exact om0 he) fun O2 h2 x2=>RF.to h2 fun O3 h3 x3=>RF.n ⟨rfl,h3,x1.trans (x2.trans x3)⟩
 refine gn c3 ?_;refine RF.eq (fun c4=>?_) fun c4=>?_
 ·refine gy c4 ?_;refine RF.error h1 (by show s.errs.length < lim;exact om0 he) fun O2 h2 x2=>RF.add_name h2 hd ha (by show a.n.length+1<=lim;exact om11 hna) fun O3 h3 x3=>RF.n ⟨rfl,?_,x1.trans (x2.trans x3)⟩;show TP O3 τ ((s.nxt.error _).deed .put s.cur);rw [hput (s.nxt.error _) rfl,if_pos c4];delta PS.addName;rw [Ucw (s:=s.nxt.error _) hd ha];exact h3
 refine gn c4 ?_;refine RF.mem (l:=["\"","'","<"]) rfl (fun c5=>?_) fun c5=>?_
 ·refine gy c5 ?_;exact RF.error h1 (by show s.errs.length < lim;exact om0 he) fun O2 h2 x2=>low h2 (x1.trans x2) hd rfl c4
 refine gn c5 ?_;exact low h1 x1 hd rfl c4
theorem Uii(h:TP O τ s)(f:Fit .aftName s):RF (F_after_attr_name_state p (callK (P p) (d+4)) (.ref 2 τ.i)) O (Ends s τ O (s.go (actAftName s.cur))):=by
 have ho:=f.out;have he:=f.errs;refine xEAAAAA (f.ds nofun nofun) fun D hd hk hl hn w0=>?_;delta F_after_attr_name_state;refine RF.next h f.pos fun O1 h1 x1=>?_;delta actAftName;refine RF.blank (fun c1=>?_) fun c1=>?_
 ·refine gy c1 ?_;exact RF.r ⟨rfl,h1,x1⟩
 refine gn c1 ?_;rw [Ua4];delta J_after_attr_name_state_0_T0;refine RF.eq (fun c2=>?_) fun c2=>?_
 ·refine gy c2 ?_;exact RF.to h1 fun O2 h2 x2=>RF.n ⟨rfl,h2,x1.trans x2⟩
 refine gn c2 ?_;refine RF.eq (fun c3=>?_) fun c3=>?_
 ·refine gy c3 ?_;exact RF.to h1 fun O2 h2 x2=>RF.n ⟨rfl,h2,x1.trans x2⟩
 refine gn c3 ?_;refine RF.eq (fun c4=>?_) fun c4=>?_
 ·refine gy c4 ?_;exact RF.finish h1 hd hk (by show s.out.length < lim;exact om0 ho) (by show s.errs.length+1 < lim;exact om1 he) (om4 hl) fun O2 h2 x2=>RF.n ⟨rfl,h2,x1.trans x2⟩
 refine gn c4 ?_;refine RF.eq (fun c5=>?_) fun c5=>?_
 ·refine gy c5 ?_;exact RF.cut h1 (by show s.out.length < lim;exact om0 ho) (by show s.errs.length < lim;exact om0 he) fun O2 h2 x2=>RF.n ⟨rfl,h2,x1.trans x2⟩
 refine gn c5 ?_;refine RF.begin_attr h1 hd (by delta lim;exact om17 hl) fun O3 h3 x3=>RF.again h3 fun O4 h4 x4=>RF.n ⟨rfl,?_,x1.trans (x3.trans x4)⟩;show TP O4 τ ((s.nxt.newAttr).again _);rw [Ub7 (s:=s.nxt) hd];exact h4
theorem Ukb(h:TP O τ s)(f:Fit .befVal s):RF (F_before_attr_value_state p (callK (P p) (d+4)) (.ref 2 τ.i)) O (Ends s τ O (s.go (actBefVal s.cur))):=by
 have ho:=f.out;have he:=f.errs;refine xEAAAAA (f.ds nofun nofun) fun D hd hk hl hn w0=>?_;delta F_before_attr_value_state;refine RF.next h f.pos fun O1 h1 x1=>?_;delta actBefVal;refine RF.blank (fun c1=>?_) fun c1=>?_
 ·refine gy c1 ?_;exact RF.r ⟨rfl,h1,x1⟩
 refine gn c1 ?_;rw [Uax];delta J_before_attr_value_state_0_T0;refine RF.eq (fun c2=>?_) fun c2=>?_
 ·refine gy c2 ?_;exact RF.to h1 fun O2 h2 x2=>RF.n ⟨rfl,h2,x1.trans x2⟩
 refine gn c2 ?_;refine RF.eq (fun c3=>?_) fun c3=>?_
 ·refine gy c3 ?_;exact RF.to h1 fun O2 h2 x2=>RF.n ⟨rfl,h2,x1.trans x2⟩
 refine gn c3 ?_;refine RF.eq (fun c4=>?_) fun c4=>?_
 ·refine gy c4 ?_;exact RF.error h1 (by show s.errs.length < lim;exact om0 he) fun O2 h2 x2=>RF.finish h2 hd hk (by show s.out.length < lim;exact om0 ho) (by show (s.errs++[_]).length+1 < lim;simp;exact Nat.lt_of_succ_lt he) (om4 hl) fun O3 h3 x3=>RF.n ⟨rfl,h3,x1.trans (x2.trans x3)⟩
 refine gn c4 ?_;exact RF.again h1 fun O4 h4 x4=>RF.n ⟨rfl,h4,x1.trans x4⟩
theorem Uhs{q:St}{qt:Str}(hq:q=.dq\/q=.sq)(h:TP O τ s)(f:Fit q s):Run (callK (P p) (d+4) a_quoted_value [.ref 2 τ.i,.str qt]) O (Ends s τ O (s.go (actQuoted qt s.cur))):=by
 have ho:=f.out;have he:=f.errs;refine xEAAAAA (f.ds (by rcases hq with rfl | rfl <;> nofun) (by rcases hq with rfl | rfl <;> nofun)) fun D hd hk hl hn hx=>?_;refine xEEAAA (hx (by rcases hq with rfl | rfl <;> simp)) fun init a ha hna hva=>?_;have hput:∀ s1:PS,s1.state=s.state->s1.deed .put s.cur=s1.addValue (repl s.cur):=fun s1 e1=>by
  show (if (s1.state==Qai)=true then _ else if (s1.state==Qaj)=true then _ else _:PS)=_;rw [e1,f.st];rcases hq with rfl | rfl <;> rw [if_neg (by decide),if_neg (by decide)]
 rw [Ugp];show RF _ O _;delta F_quoted_value;refine RF.next h f.pos fun O1 h1 x1=>?_;delta actQuoted;refine RF.eq (fun c1=>?_) fun c1=>?_
 ·refine gy c1 ?_;exact RF.to h1 fun O2 h2 x2=>RF.n ⟨rfl,h2,x1.trans x2⟩
 refine gn c1 ?_;refine RF.eq (fun c2=>?_) fun c2=>?_
 ·refine gy c2 ?_;exact RF.refer h1 fun O2 h2 x2=>RF.n ⟨rfl,h2,x1.trans x2⟩
 refine gn c2 ?_;refine RF.eq (fun c4=>?_) fun c4=>?_
 ·refine gy c4 ?_;refine RF.error h1 (by show s.errs.length < lim;exact om0 he) fun O2 h2 x2=>RF.add_value h2 hd ha (by show a.v.length+1<=lim;exact om11 hva) fun O3 h3 x3=>RF.n ⟨rfl,?_,x1.trans (x2.trans x3)⟩;show TP O3 τ ((s.nxt.error _).deed .put s.cur);rw [hput (s.nxt.error _) rfl];delta PS.addValue repl;rw [if_pos c4,Ucw (s:=s.nxt.error _) hd ha];exact h3
 refine gn c4 ?_;refine RF.eq (fun c5=>?_) fun c5=>?_
 ·refine gy c5 ?_;exact RF.cut h1 (by show s.out.length < lim;exact om0 ho) (by show s.errs.length < lim;exact om0 he) fun O2 h2 x2=>RF.n ⟨rfl,h2,x1.trans x2⟩
 refine gn c5 ?_;refine RF.add_value h1 hd ha (by have:=f.cl;exact om10 hva this) fun O3 h3 x3=>RF.n ⟨rfl,?_,x1.trans x3⟩;show TP O3 τ (s.nxt.deed .put s.cur);rw [hput s.nxt rfl];delta PS.addValue repl;rw [if_neg (by rw [c4];decide),Ucw (s:=s.nxt) hd ha];exact h3
theorem dq_run(h:TP O τ s)(f:Fit .dq s):RF (F_double_quoted_state p (callK (P p) (d+4)) (.ref 2 τ.i)) O (Ends s τ O (s.go (actQuoted "\"" s.cur))):=by
 delta F_double_quoted_state;exact RF.c (Uhs (.inl rfl) h f) fun v O' qq=>xAAA qq fun e h' x=>RF.n ⟨rfl,h',x⟩
theorem sq_run(h:TP O τ s)(f:Fit .sq s):RF (F_single_quoted_state p (callK (P p) (d+4)) (.ref 2 τ.i)) O (Ends s τ O (s.go (actQuoted "'" s.cur))):=by
 delta F_single_quoted_state;exact RF.c (Uhs (.inr rfl) h f) fun v O' qq=>xAAA qq fun e h' x=>RF.n ⟨rfl,h',x⟩
theorem Upy(h:TP O τ s)(f:Fit .bare s):RF (F_unquoted_state p (callK (P p) (d+4)) (.ref 2 τ.i)) O (Ends s τ O (s.go (actBare s.cur))):=by
 have ho:=f.out;have he:=f.errs;refine xEAAAAA (f.ds nofun nofun) fun D hd hk hl hn hx=>?_;refine xEEAAA (hx (by simp)) fun init a ha hna hva=>?_;have hput:∀ s1:PS,s1.state=s.state->s1.deed .put s.cur=s1.addValue (repl s.cur):=fun s1 e1=>by
  show (if (s1.state==Qai)=true then _ else if (s1.state==Qaj)=true then _ else _:PS)=_;rw [e1,f.st,if_neg (by decide),if_neg (by decide)]
 have low:∀ {O2:Store} {s1:PS},TP O2 τ s1->Fx O O2->s1.draft=some D->s1.state=s.state->(s.cur==Qab)=false->RF (J_unquoted_state_0 p (callK (P p) (d+4)) [(Qm,.ref 2 τ.i),(Qd,.str s.cur)]) O2 (Ends s τ O (s1.deed .put s.cur)):=by
  intro O2 s1 h2 x2 hd2 hs2 c4;rw [Ub9];delta J_unquoted_state_0_T0;refine RF.add_value h2 hd2 ha (by have:=f.cl;exact om10 hva this) fun O3 h3 x3=>RF.n ⟨rfl,?_,x2.trans x3⟩;rw [hput s1 hs2];delta PS.addValue repl;rw [if_neg (by rw [c4];decide),Ucw hd2 ha];exact h3
 delta F_unquoted_state;refine RF.next h f.pos fun O1 h1 x1=>?_;delta actBare;refine RF.blank (fun c1=>?_) fun c1=>?_
 ·refine gy c1 ?_;exact RF.to h1 fun O2 h2 x2=>RF.n ⟨rfl,h2,x1.trans x2⟩
 refine gn c1 ?_;refine RF.eq (fun c2=>?_) fun c2=>?_
 ·refine gy c2 ?_;exact RF.refer h1 fun O2 h2 x2=>RF.n ⟨rfl,h2,x1.trans x2⟩
 refine gn c2 ?_;refine RF.eq (fun c3=>?_) fun c3=>?_
 ·refine gy c3 ?_;exact RF.finish h1 hd hk (by show s.out.length < lim;exact om0 ho) (by show s.errs.length+1 < lim;exact om1 he) (om4 hl) fun O2 h2 x2=>RF.n ⟨rfl,h2,x1.trans x2⟩
 refine gn c3 ?_;refine RF.eq (fun c4=>?_) fun c4=>?_
 ·refine gy c4 ?_;refine RF.error h1 (by show s.errs.length < lim;exact om0 he) fun O2 h2 x2=>RF.add_value h2 hd ha (by show a.v.length+1<=lim;exact om11 hva) fun O3 h3 x3=>RF.n ⟨rfl,?_,x1.trans (x2.trans x3)⟩;show TP O3 τ ((s.nxt.error _).deed .put s.cur);rw [hput (s.nxt.error _) rfl];delta PS.addValue repl;rw [if_pos c4,Ucw (s:=s.nxt.error _) hd ha];exact h3
 refine gn c4 ?_;refine RF.eq (fun c5=>?_) fun c5=>?_
 ·refine gy c5 ?_;exact RF.cut h1 (by show s.out.length < lim;exact om0 ho) (by show s.errs.length < lim;exact om0 he) fun O2 h2 x2=>RF.n ⟨rfl,h2,x1.trans x2⟩
 refine gn c5 ?_;refine RF.mem (l:=["\"","'","<","=","`"]) rfl (fun c6=>?_) fun c6=>?_
 ·refine gy c6 ?_;exact RF.error h1 (by show s.errs.length < lim;exact om0 he) fun O2 h2 x2=>low h2 (x1.trans x2) hd rfl c4
 refine gn c6 ?_;exact low h1 x1 hd rfl c4
theorem Uke(h:TP O τ s)(f:Fit .aftVal s):RF (F_after_quoted_state p (callK (P p) (d+4)) (.ref 2 τ.i)) O (Ends s τ O (s.go (actAftVal s.cur))):=by
 have ho:=f.out;have he:=f.errs;refine xEAAAAA (f.ds nofun nofun) fun D hd hk hl hn w0=>?_;delta F_after_quoted_state;refine RF.next h f.pos fun O1 h1 x1=>?_;delta actAftVal;refine RF.blank (fun c1=>?_) fun c1=>?_
 ·refine gy c1 ?_;exact RF.to h1 fun O2 h2 x2=>RF.n ⟨rfl,h2,x1.trans x2⟩
 refine gn c1 ?_;refine RF.eq (fun c2=>?_) fun c2=>?_
 ·refine gy c2 ?_;exact RF.to h1 fun O2 h2 x2=>RF.n ⟨rfl,h2,x1.trans x2⟩
 refine gn c2 ?_;refine RF.eq (fun c4=>?_) fun c4=>?_
 ·refine gy c4 ?_;exact RF.finish h1 hd hk (by show s.out.length < lim;exact om0 ho) (by show s.errs.length+1 < lim;exact om1 he) (om4 hl) fun O2 h2 x2=>RF.n ⟨rfl,h2,x1.trans x2⟩
 refine gn c4 ?_;refine RF.eq (fun c5=>?_) fun c5=>?_
 ·refine gy c5 ?_;exact RF.cut h1 (by show s.out.length < lim;exact om0 ho) (by show s.errs.length < lim;exact om0 he) fun O2 h2 x2=>RF.n ⟨rfl,h2,x1.trans x2⟩
 refine gn c5 ?_;exact RF.error h1 (by show s.errs.length < lim;exact om0 he) fun O2 h2 x2=>RF.again h2 fun O4 h4 x4=>RF.n ⟨rfl,h4,x1.trans (x2.trans x4)⟩
end
noncomputable def okL:List Nat:=[0,9,10,12,13,0xC9,0x212A,0xFFFD]++(List.range 95).map (·+32)
noncomputable def feedL:Bool->List Nat->List Str
 | _,[]=>[]
 | r,c::cs=>(if c==13 then [Qbt] else if c != 10||!r then [ch c] else [])++feedL (c==13) cs
noncomputable def lastR(r:Bool)(cs:List Nat):Bool:=match cs.getLast? with
 | some c=>c==13
 | none=>r
noncomputable def PS.feed(s:PS)(x:Str):PS:={ s with signs:=s.signs++feedL s.isret x.cps.toList,isret:=lastR s.isret x.cps.toList }
noncomputable def PS.end(s:PS):PS:={ s with closed:=true }
theorem Ufu:∀ (r:Bool) (a b:List Nat),feedL r (a++b)=feedL r a++feedL (lastR r a) b
 | r,[],b=>rfl
 | r,c::cs,b=>by
  have e:lastR (c==13) cs=lastR r (c::cs):=by
   delta lastR;cases cs with
   | nil=>rfl
   | cons x y =>
    rw [List.getLast?_cons_cons];cases h:(x::y).getLast? with
    | none=>rw [List.getLast?_eq_none_iff] at h;cases h
    | some z=>rfl
  simp only [feedL,List.cons_append,Ufu (c==13) cs b,List.append_assoc,e]
theorem Uit(r:Bool)(a b:List Nat):lastR r (a++b)=lastR (lastR r a) b:=by
 delta lastR;cases h:b.getLast? with
 | none=>rw [List.getLast?_eq_none_iff] at h;subst h;simp
 | some x=>simp [h]
section
variable {p:Params}{O O' O₁:Store}{τ:Rf}{t:TS}{s:PS}{n d:Nat}{D:PD}{dr:Dr}{init:List PA}{a:PA}{Q:V->Store->Prop}{k:V->M Fl}{A B:M Fl}
theorem Uno:okL.map (fun n=>callK (P p) (d+2) a_input_error [.int (Int.ofNat n)] O)=okL.map (fun w0=>some (V.str Qt,O)):=by kernel_rfl
theorem Ugw{n:Nat}(h:n ∈ okL):callK (P p) (d+2) a_input_error [.int n] O=some (.str "",O):=by
 have:=List.map_inj_left.mp (Uno (p:=p) (d:=d) (O:=O)) n h;exact this
theorem TR.setSg{l:List Str}(h:TR O τ t):TR (O.put 7 τ.sg (.list (l.map .str))) τ { t with signs:=l }/\Fx O (O.put 7 τ.sg (.list (l.map .str))) :=
 ⟨⟨Uaq.trans h.len,(Uac h.sg (by decide)).trans h.tok,(Uac h.sg (by decide)).trans h.str,Uaj h.sg,(Uac h.sg (by decide)).trans h.se,(Uac h.sg (by decide)).trans h.out,(Uac h.sg (by decide)).trans h.err,
  (Uac h.sg (by decide)).trans h.sd,fun d e=>(h.dr d e).put h.sg ⟨by decide,by decide,by decide⟩⟩,Fx.put rfl⟩
theorem TR.setStr{b c:Bool}(h:TR O τ t):TR (O.put 1 τ.s (.inst c_Stream (strEs τ { t with closed:=b,isret:=c }))) τ { t with closed:=b,isret:=c }/\Fx O (O.put 1 τ.s (.inst c_Stream (strEs τ { t with closed:=b,isret:=c }))) :=
 ⟨⟨Uaq.trans h.len,(Uac h.str (by decide)).trans h.tok,Uaj h.str,(Uac h.str (by decide)).trans h.sg,(Uac h.str (by decide)).trans h.se,(Uac h.str (by decide)).trans h.out,(Uac h.str (by decide)).trans h.err,
  (Uac h.str (by decide)).trans h.sd,fun d e=>(h.dr d e).put h.str ⟨by decide,by decide,by decide⟩⟩,Fx.put rfl⟩
theorem Uko(h:TR O τ t)(b:Bool):∃ O',setAttrV (P p) (.ref 1 τ.s) Qaw (.bool b) O=some ((),O')/\TR O' τ { t with isret:=b }/\Fx O O' :=
 ⟨_,Uag (es':=strEs τ { t with closed:=t.closed,isret:=b }) h.str (by kernel_rfl) (by show 4 < 100;decide) (by kernel_rfl),h.setStr⟩
theorem Run.ct{α:Type}{a b:M α}{Q:α->Store->Prop}(h:Run a O Q):Run (cond true a b) O Q:=h
theorem Run.cf{α:Type}{a b:M α}{Q:α->Store->Prop}(h:Run b O Q):Run (cond false a b) O Q:=h
noncomputable def Shape(τ:Rf)(x:Str)(fr:Fr):Prop:=fr=[(Qc,.ref 1 τ.s),(Qk,.str x)]\/(∃ v,fr=[(Qc,.ref 1 τ.s),(Qk,.str x),(Qd,v)]) \/
 ∃ v w,fr=[(Qc,.ref 1 τ.s),(Qk,.str x),(Qd,v),(Qz,w)]
noncomputable def Turned(τ:Rf)(x:Str)(O:Store)(t:TS):Fl->Store->Prop:=fun fl O'=>∃ fr',fl=.next fr'/\Shape τ x fr'/\TR O' τ t/\Fx O O'
noncomputable def TS.add(t:TS)(l:List Str)(b:Bool):TS:={ t with signs:=t.signs++l,isret:=b }
theorem Uau(c k:Nat):(ch c==ch k)=(c==k):=by
 delta ch
 by_cases h:c=k
 ·subst h;simp
 ·have:(⟨#[c]⟩:Str)≠⟨#[k]⟩:=fun e=>h (by cases e;rfl);rw [beq_eq_false_iff_ne.mpr this,beq_eq_false_iff_ne.mpr h]
theorem Ukp{x:Str}{c:Nat}{l:List Str}(h:TR O τ { t with signs:=t.signs++l })(f:Fx O₁ O):Run (J_Stream_feed_2 p (callK (P p) d) [(Qc,.ref 1 τ.s),(Qk,.str x),(Qd,.str (ch c))]) O (Turned τ x O₁ (t.add l (c==13))):=by
 rw [Udc];refine xEAAA (Uko (p:=p) h (c==13)) fun O2 e2 h2 f2=>?_;exact Run.l (a:=c==13) (congrArg some (Uau c 13)) (Run.b e2 (Run.next ⟨_,rfl,.inr (.inl ⟨_,rfl⟩),h2,f.trans f2⟩))
theorem Uir{x:Str}{w:V}{c:Nat}{l:List Str}(h:TR O τ { t with signs:=t.signs++l })(f:Fx O₁ O):Run (J_Stream_feed_2 p (callK (P p) d) [(Qc,.ref 1 τ.s),(Qk,.str x),(Qd,.str (ch c)),(Qz,w)]) O (Turned τ x O₁ (t.add l (c==13))):=by
 rw [Uc1];refine xEAAA (Uko (p:=p) h (c==13)) fun O2 e2 h2 f2=>?_;exact Run.l (a:=c==13) (congrArg some (Uau c 13)) (Run.b e2 (Run.next ⟨_,rfl,.inr (.inr ⟨_,_,rfl⟩),h2,f.trans f2⟩))
theorem app_sg(h:TR O τ t)(x:Str)(hl:t.signs.length < lim){c:CC}:∃ O',methodV c (.bi .append) (.ref 7 τ.sg) [.str x] O=some (.none,O')/\TR O' τ { t with signs:=t.signs++[x] }/\Fx O O':=by
 have:=h.setSg (l:=t.signs++[x]);rw [List.map_append] at this;exact ⟨_,Uad h.sg (by rw [List.length_map];exact hl),this⟩
theorem Ujb{x:Str}{w:V}{c:Nat}(h:TR O τ t)(f:Fx O₁ O)(hl:t.signs.length < lim):Run (J_Stream_feed_3 p (callK (P p) d) [(Qc,.ref 1 τ.s),(Qk,.str x),(Qd,.str (ch c)),(Qz,w)]) O (Turned τ x O₁ (t.add [ch c] (c==13))):=by
 rw [Udg];delta J_Stream_feed_3_T0;refine xEAAA (app_sg h (ch c) hl (c:=callK (P p) d)) fun O2 e2 h2 f2=>?_;exact Run.b (Udu h) (Run.app h.sg (Run.b e2 (Uir h2 (f.trans f2))))
theorem ord_of(c:Nat):builtinV .ord [.str (ch c)] O=some (.int c,O):=rfl
theorem Uhp{x:Str}{w:V}{c:Nat}(h:TR O τ t)(hl:t.signs.length < lim)(hc:c ∈ okL):Run (T_Stream_feed_l0_0 p (callK (P p) (d+2)) (.ref 1 τ.s) (.str x) (.str (ch c))) O
  (Turned τ x O (t.add (if c==13 then [Qbt] else if c != 10||!t.isret then [ch c] else []) (c==13))):=by
 delta T_Stream_feed_l0_0;refine Run.l (a:=c==13) (congrArg some (Uau c 13)) ?_;cases c13:c==13 with
 | true =>
  refine xEAAA (app_sg h Qbt hl (c:=callK (P p) (d+2))) fun O2 e2 h2 f2=>?_;refine Run.pos rfl (Run.b (Udu h) (Run.app h.sg (Run.b e2 ?_)));have:=Ukp (p:=p) (d:=d+2) (x:=x) (c:=c) (t:=t) (l:=["\n"]) h2 f2;rw [c13] at this;exact this
 | false =>
  have two:∀ {w:V},Run (bnd (builtinV .ord [V.str (ch c)]) fun x8=>bnd (callK (P p) (d+2) a_input_error [x8]) fun x9=>bnd (look (cmpV .NotEq x9 (.str Qt))) fun x10 =>
    (if x10 then fail else J_Stream_feed_3 p (callK (P p) (d+2)) [(Qc,.ref 1 τ.s),(Qk,.str x),(Qd,.str (ch c)),(Qz,x9)])) O (Turned τ x O (t.add [ch c] false)):=by
   intro w;refine Run.b (ord_of c) (Run.b (Ugw hc) (Run.l (a:=false) (by kernel_rfl) (Run.neg Bool.false_ne_true ?_)));have:=Ujb (p:=p) (d:=d+2) (x:=x) (w:=.str "") (c:=c) h Fx.rfl hl;rw [c13] at this;exact this
  have three:∀ (K:V->V->M Fl),Run (bnd (builtinV .ord [V.str (ch c)]) fun x8=>bnd (callK (P p) (d+2) a_input_error [x8]) fun x9=>bnd (look (cmpV .NotEq x9 (.str Qt))) fun x10 =>
    (if x10 then K x8 x9 else J_Stream_feed_3 p (callK (P p) (d+2)) [(Qc,.ref 1 τ.s),(Qk,.str x),(Qd,.str (ch c)),(Qz,x9)])) O (Turned τ x O (t.add [ch c] false)):=by
   intro K;refine Run.b (ord_of c) (Run.b (Ugw hc) (Run.l (a:=false) (by kernel_rfl) (Run.neg Bool.false_ne_true ?_)));have:=Ujb (p:=p) (d:=d+2) (x:=x) (w:=.str "") (c:=c) h Fx.rfl hl;rw [c13] at this;exact this
  refine Run.neg Bool.false_ne_true (Run.l (a:=!(c==10)) (congrArg (fun b=>some (!b)) (Uau c 10)) ?_);skip;cases c10:c==10 with
  | false =>
   have e:(c != 10||!t.isret)=true:=by simp only [bne,c10];rfl
   rw [e];exact Run.ct (three _)
  | true =>
   have e:(c != 10||!t.isret)=!t.isret:=by simp only [bne,c10];rfl
   rw [e];refine Run.cf (Run.b (Uf0 h) ?_);show Run (cond (!t.isret) _ _) O _;cases hr:t.isret with
   | false =>
    exact Run.ct (three _)
   | true =>
    have:=Ukp (p:=p) (d:=d+2) (x:=x) (c:=c) (t:=t) (l:=[]) (by rw [List.append_nil];exact h) Fx.rfl;rw [c13] at this;exact Run.cf this
theorem Um4{x:Str}{w:V}{c:Nat}(h:TR O τ t)(hl:t.signs.length < lim)(hc:c ∈ okL):Run (T_Stream_feed_l0_1 p (callK (P p) (d+2)) (.ref 1 τ.s) (.str x) (.str (ch c)) w) O
  (Turned τ x O (t.add (if c==13 then [Qbt] else if c != 10||!t.isret then [ch c] else []) (c==13))):=by
 delta T_Stream_feed_l0_1;refine Run.l (a:=c==13) (congrArg some (Uau c 13)) ?_;cases c13:c==13 with
 | true =>
  refine xEAAA (app_sg h Qbt hl (c:=callK (P p) (d+2))) fun O2 e2 h2 f2=>?_;refine Run.pos rfl (Run.b (Udu h) (Run.app h.sg (Run.b e2 ?_)));have:=Uir (p:=p) (d:=d+2) (x:=x) (w:=w) (c:=c) (t:=t) (l:=["\n"]) h2 f2;rw [c13] at this;exact this
 | false =>
  have two:∀ {w:V},Run (bnd (builtinV .ord [V.str (ch c)]) fun x8=>bnd (callK (P p) (d+2) a_input_error [x8]) fun x9=>bnd (look (cmpV .NotEq x9 (.str Qt))) fun x10 =>
    (if x10 then fail else J_Stream_feed_3 p (callK (P p) (d+2)) [(Qc,.ref 1 τ.s),(Qk,.str x),(Qd,.str (ch c)),(Qz,x9)])) O (Turned τ x O (t.add [ch c] false)):=by
   intro w;refine Run.b (ord_of c) (Run.b (Ugw hc) (Run.l (a:=false) (by kernel_rfl) (Run.neg Bool.false_ne_true ?_)));have:=Ujb (p:=p) (d:=d+2) (x:=x) (w:=.str "") (c:=c) h Fx.rfl hl;rw [c13] at this;exact this
  have three:∀ (K:V->V->M Fl),Run (bnd (builtinV .ord [V.str (ch c)]) fun x8=>bnd (callK (P p) (d+2) a_input_error [x8]) fun x9=>bnd (look (cmpV .NotEq x9 (.str Qt))) fun x10 =>
    (if x10 then K x8 x9 else J_Stream_feed_3 p (callK (P p) (d+2)) [(Qc,.ref 1 τ.s),(Qk,.str x),(Qd,.str (ch c)),(Qz,x9)])) O (Turned τ x O (t.add [ch c] false)):=by
   intro K;refine Run.b (ord_of c) (Run.b (Ugw hc) (Run.l (a:=false) (by kernel_rfl) (Run.neg Bool.false_ne_true ?_)));have:=Ujb (p:=p) (d:=d+2) (x:=x) (w:=.str "") (c:=c) h Fx.rfl hl;rw [c13] at this;exact this
  refine Run.neg Bool.false_ne_true (Run.l (a:=!(c==10)) (congrArg (fun b=>some (!b)) (Uau c 10)) ?_);skip;cases c10:c==10 with
  | false =>
   have e:(c != 10||!t.isret)=true:=by simp only [bne,c10];rfl
   rw [e];exact Run.ct (three _)
  | true =>
   have e:(c != 10||!t.isret)=!t.isret:=by simp only [bne,c10];rfl
   rw [e];refine Run.cf (Run.b (Uf0 h) ?_);show Run (cond (!t.isret) _ _) O _;cases hr:t.isret with
   | false =>
    exact Run.ct (three _)
   | true =>
    have:=Uir (p:=p) (d:=d+2) (x:=x) (w:=w) (c:=c) (t:=t) (l:=[]) (by rw [List.append_nil];exact h) Fx.rfl;rw [c13] at this;exact Run.cf this
theorem Uf3(h:TR O τ t)(hc:t.closed=false)(x:Str)(hx:∀ c ∈ x.cps.toList,c ∈ okL)(hl:t.signs.length+x.cps.toList.length < 5000) :
  Run (callK (P p) (d+3) a_Stream_feed [.ref 1 τ.s,.str x]) O fun v O'=>v=.none/\TR O' τ (t.add (feedL t.isret x.cps.toList) (lastR t.isret x.cps.toList))/\Fx O O':=by
 rw [Uht];show RF _ O _;delta F_Stream_feed;refine RF.b (Ufm h) ?_;rw [hc];refine RF.neg Bool.false_ne_true ?_;rw [Udb];delta J_Stream_feed_0_T0;have fl:∀ (r:Bool) (l:List Nat),(feedL r l).length<=l.length:=by
  intro r l;induction l generalizing r with
  | nil=>exact Nat.le_refl 0
  | cons c cs ih =>
   simp only [feedL,List.length_cons,List.length_append];have:=ih (c==13);have h1:(if (c==13)=true then [Qbt] else if (c != 10||!r)=true then [ch c] else []).length<=1:=by
    split
    ·exact Nat.le_refl 1
    ·split
     ·exact Nat.le_refl 1
     ·exact Nat.zero_le 1
   exact om14 this h1
 refine forRun (fun k fr s=>TR s τ (t.add (feedL t.isret (x.cps.toList.take k)) (lastR t.isret (x.cps.toList.take k)))/\Fx O s/\Shape τ x fr)
  (x.cps.toList.map fun c=>.str (ch c)) ⟨by simpa [feedL,lastR,TS.add] using h,Fx.rfl,.inl rfl⟩ (by rw [List.length_map];exact Nat.lt_of_add_left_lt hl) (fun k v fr s hv hI=>?_) (fun fr s hI=>?_) fun fr s hI=>?_
 ·refine xAAA hI fun hT hX hfr=>?_;rw [List.getElem?_map] at hv;obtain ⟨c,hcc,rfl⟩:=Option.map_eq_some_iff.mp hv;have hk:k < x.cps.toList.length:=by rw [List.getElem?_eq_some_iff] at hcc;exact hcc.1
  have hc':x.cps.toList[k]=c:=by rw [List.getElem?_eq_some_iff] at hcc;exact hcc.2
  have hm:c ∈ okL:=hx c (List.mem_of_getElem? hcc);refine ⟨Uin (by rw [<- hcc];simp),?_⟩;have hll:(t.add (feedL t.isret (x.cps.toList.take k)) (lastR t.isret (x.cps.toList.take k))).signs.length < lim:=by
   have h1:=fl t.isret (x.cps.toList.take k);have h2:=List.length_take_le k x.cps.toList;show (t.signs++_).length < lim;rw [List.length_append];delta lim;exact om312 hl hk h1 h2
  have tk:t.add (feedL t.isret (x.cps.toList.take (k+1))) (lastR t.isret (x.cps.toList.take (k+1))) =
    (t.add (feedL t.isret (x.cps.toList.take k)) (lastR t.isret (x.cps.toList.take k))).add (if c==13 then [Qbt] else if c != 10||!(lastR t.isret (x.cps.toList.take k)) then [ch c] else []) (c==13):=by
   rw [List.take_succ_eq_append_getElem hk,Ufu,Uit,hc'];simp [TS.add,feedL,lastR]
  have done:∀ {fl:Fl} {s':Store},Turned τ x s ((t.add (feedL t.isret (x.cps.toList.take k)) (lastR t.isret (x.cps.toList.take k))).add (if c==13 then [Qbt] else if c != 10||!(lastR t.isret (x.cps.toList.take k)) then [ch c] else []) (c==13)) fl s' ->
    (∃ fr',fl=.next fr'/\TR s' τ (t.add (feedL t.isret (x.cps.toList.take (k+1))) (lastR t.isret (x.cps.toList.take (k+1))))/\Fx O s'/\Shape τ x fr')\/∃ v,fl=.ret v/\(v=V.none/\TR s' τ (t.add (feedL t.isret x.cps.toList) (lastR t.isret x.cps.toList))/\Fx O s'):=by
   intro fl s' ⟨fr',e,sh,hT',f'⟩;exact .inl ⟨fr',e,by rw [tk];exact hT',hX.trans f',sh⟩
  rcases hfr with rfl | ⟨v,rfl⟩ | ⟨v,w,rfl⟩
  ·exact ⟨[(Qc,.ref 1 τ.s),(Qk,.str x),(Qd,.str (ch c))],by rw [Ubg (by kernel_rfl)];kernel_rfl,by rw [Uaz];exact (Uhp (w:=.none) hT hll hm).mono fun fl s' h=>done h⟩
  ·exact ⟨[(Qc,.ref 1 τ.s),(Qk,.str x),(Qd,.str (ch c))],by rw [Ubg (by kernel_rfl)];kernel_rfl,by rw [Uaz];exact (Uhp (w:=.none) hT hll hm).mono fun fl s' h=>done h⟩
  ·exact ⟨[(Qc,.ref 1 τ.s),(Qk,.str x),(Qd,.str (ch c)),(Qz,w)],by rw [Ubg (by kernel_rfl)];kernel_rfl,by rw [Ucg];exact (Um4 hT hll hm).mono fun fl s' h=>done h⟩
 ·exact Umz (by simp)
 ·obtain ⟨hT,hX,hfr⟩:=hI;rw [List.length_map,List.take_length] at hT;rcases hfr with rfl | ⟨v,rfl⟩ | ⟨v,w,rfl⟩
  ·rw [Uc7];exact RF.n ⟨rfl,hT,hX⟩
  ·rw [Ucz];exact RF.n ⟨rfl,hT,hX⟩
  ·rw [Ucy];exact RF.n ⟨rfl,hT,hX⟩
theorem Upz(h:TP O τ s)(hc:s.closed=false)(x:Str)(hx:∀ c ∈ x.cps.toList,c ∈ okL)(hl:s.signs.length+x.cps.toList.length < 5000) :
  Run (callK (P p) (d+4) a_Tokenizer_feed [.ref 2 τ.i,.str x]) O fun v O'=>v=.none/\TP O' τ (s.feed x)/\Fx O O':=by
 rw [Ue3];show RF _ O _;delta F_Tokenizer_feed;obtain ⟨t,h,hw,rfl⟩:=h;refine RF.b (Ucc h) (RF.mk (Uso h) (RF.c (Uf3 h hc x hx hl) fun v O' ⟨e,h',f⟩=>?_));subst e;obtain ⟨O2,e2,h2,f2⟩:=Ud0 (p:=p) h' false;exact RF.b e2 (RF.n ⟨rfl,⟨_,h2,rfl,rfl⟩,f.trans f2⟩)
end
noncomputable def PS.step(s:PS):PS:=match ofStr s.state with
 | some q=>s.go (act q s.cur)
 | none=>s
noncomputable def PS.ready(s:PS):Bool:=!s.done&&((ofStr s.state).isSome&&(s.closed||decide (s.pos < s.signs.length)))
noncomputable def PS.fit(s:PS):Prop:=∃ q,Fit q s
inductive Runs:PS->Nat->PS->Prop
 | stop {s:PS}:s.ready=false->Runs s 0 s
 | go {s s':PS} {n:Nat}:s.ready=true->s.fit->Runs s.step n s'->Runs s (n+1) s'
theorem Upj{α β:Type}(f:β->Str)(g:β->α)(x:Str):∀ l:List β,lk x (l.map fun q=>(f q,g q))=(l.find? fun q=>f q==x).map g
 | []=>rfl
 | q::r=>by
  simp only [List.map_cons,lk,List.find?_cons,Upj f g x r];cases f q==x <;> rfl
theorem Upe(x:Str):lk x stEs=(ofStr x).map fun q=>.fn q.addr:=by
 have e:stEs=allSt.map fun q=>(q.str,V.fn q.addr):=by kernel_rfl
 rw [e,Upj];rfl
theorem Uas(q:St):ofStr q.str=some q:=by cases q <;> kernel_rfl
section
variable {p:Params}{O O' O₁:Store}{τ:Rf}{t:TS}{s s':PS}{n d:Nat}{D:PD}{dr:Dr}{init:List PA}{a:PA}{Q:V->Store->Prop}{k:V->M Fl}{A B:M Fl}
theorem Ura{q:St}(h:TP O τ s)(f:Fit q s):Run (callK (P p) (d+5) q.addr [.ref 2 τ.i]) O (Ends s τ O (s.go (act q s.cur))):=by
 cases q with
 | tagOpen=>show Run (callK (P p) (d+5) a_tag_open_state _) O _;rw [Uet];exact Uip (d:=d+1) h f
 | endOpen=>show Run (callK (P p) (d+5) a_end_tag_open_state _) O _;rw [Ucr];exact Uig (d:=d+1) h f
 | tagName=>show Run (callK (P p) (d+5) a_tag_name_state _) O _;rw [Ufr];exact Uh1 (d:=d+1) h f
 | self=>show Run (callK (P p) (d+5) a_self_closing_state _) O _;rw [Ucm];exact Uqj (d:=d+1) h f
 | befName=>show Run (callK (P p) (d+5) a_before_attr_name_state _) O _;rw [Uby];exact Uiv (d:=d+1) h f
 | name=>show Run (callK (P p) (d+5) a_attr_name_state _) O _;rw [Ued];exact Uqq (d:=d+1) h f
 | aftName=>show Run (callK (P p) (d+5) a_after_attr_name_state _) O _;rw [Ub2];exact Uii (d:=d) h f
 | befVal=>show Run (callK (P p) (d+5) a_before_attr_value_state _) O _;rw [Ubp];exact Ukb (d:=d) h f
 | dq=>show Run (callK (P p) (d+5) a_double_quoted_state _) O _;rw [Ucf];exact dq_run (d:=d) h f
 | sq=>show Run (callK (P p) (d+5) a_single_quoted_state _) O _;rw [Uck];exact sq_run (d:=d) h f
 | bare=>show Run (callK (P p) (d+5) a_unquoted_state _) O _;rw [Ufa];exact Upy (d:=d) h f
 | aftVal=>show Run (callK (P p) (d+5) a_after_quoted_state _) O _;rw [Ucv];exact Uke (d:=d) h f
theorem Uk9{q:St}{c:CC}{vs:List V}:applyV (P p) c (.fn q.addr) vs=c q.addr vs:=by
 have e:lkN q.addr clsL=none:=by cases q <;> kernel_rfl
 show (match lkN q.addr clsL with | some c=>_ | none=>_)=_;rw [e]
theorem Uqv(h:TP O τ s)(f:s.fit):Run (callK (P p) (d+6) a_Tokenizer_step [.ref 2 τ.i]) O (Ends s τ O s.step):=by
 refine xEA f fun q f=>?_;have es:s.step=s.go (act q s.cur):=by delta PS.step;rw [f.st,Uas]
 have hlk:lk s.state stEs=some (.fn q.addr):=by rw [f.st,Upe,Uas];rfl
 rw [es,Ue0];show RF _ O _;delta F_Tokenizer_step;obtain ⟨t,h,hw,rfl⟩:=h;have hlk:lk t.state stEs=some (.fn q.addr):=hlk;refine RF.b (Ue8 h) (RF.b (Ugq h) (RF.l (a:=false) (by show (inV O _ _).map (!·)=_;rw [Uo6 h.sd,hlk];rfl) (RF.neg Bool.false_ne_true ?_)));rw [Ub8];delta J_Tokenizer_step_0_T0;refine xEAAA (Ud0 (p:=p) h false) fun O1 e1 h1 f1=>?_;refine RF.b e1 (RF.b (ga_at h1) (RF.b (Ugq h1) (RF.b (Ue8 h1) (RF.l (a:=.fn q.addr) (Usk h1.sd hlk) ?_))));have hp:TP O1 τ t.pl:=⟨_,h1,rfl,rfl⟩
 rw [Uk9];refine RF.c (Ura (p:=p) (d:=d) hp f) fun v O2 ⟨ev,⟨t2,h2,w2,e2⟩,f2⟩=>?_;refine RF.b (Ud2 h2) ?_;show RF (if t2.waiting=true then _ else _) O2 _;rw [w2];exact RF.neg Bool.false_ne_true (RF.n ⟨rfl,⟨t2,h2,w2,e2⟩,f1.trans f2⟩)
theorem Unc(h:TP O τ s):callK (P p) (d+1) a_Tokenizer_is_ready [.ref 2 τ.i] O=some (.bool s.ready,O):=by
 obtain ⟨t,h,hw,rfl⟩:=h;have e:RF (F_Tokenizer_is_ready p (callK (P p) d) (.ref 2 τ.i)) O fun v O'=>v=.bool t.pl.ready/\O'=O:=by
  delta F_Tokenizer_is_ready PS.ready;refine RF.b (Uhy h) ?_;show RF (cond t.done _ _) O _;show RF _ O fun v O'=>v=.bool (!t.done&&((ofStr t.state).isSome&&(t.closed||decide (t.pos < t.signs.length))))/\O'=O;cases hd:t.done with
  | true=>exact RF.r ⟨rfl,rfl⟩
  | false =>
   show RF (bnd (attrV (P p) (.ref 2 τ.i) Qbr) _) O _;refine RF.b (Ud2 h) ?_;show RF (cond t.waiting _ _) O _;rw [hw];show RF (bnd (attrV (P p) (.ref 2 τ.i) Qap) _) O _;refine RF.b (Ue8 h) (RF.b (Ugq h) (RF.l (a:=!(ofStr t.state).isSome) (by show (inV O _ _).map (!·)=_;rw [Uo6 h.sd,Upe];cases ofStr t.state <;> rfl) ?_));cases ho:(ofStr t.state).isSome with
   | false=>exact RF.r ⟨rfl,rfl⟩
   | true =>
    show RF (J_Tokenizer_is_ready_0 p _ _) O _;rw [Ubi];delta J_Tokenizer_is_ready_0_T0;refine RF.b (Ucc h) (RF.b (Ufm h) ?_);show RF (cond t.closed _ _) O _;cases hc:t.closed with
    | true=>exact RF.r ⟨rfl,rfl⟩
    | false =>
     show RF (bnd (attrV (P p) (.ref 2 τ.i) Qao) _) O _;refine RF.b (ga_at h) (RF.b (Ucc h) (RF.b (Udu h) (RF.b (len_list h.sg) (RF.l (a:=decide (t.pos < t.signs.length)) (by rw [List.length_map];rfl) (RF.r ⟨rfl,rfl⟩)))))
 rw [Uct];refine xEEAAA e fun v O' e qz1 qz2=>?_;subst qz1;subst qz2;exact e
theorem Uqd(r:Runs s n s'):∀ {O:Store} {m:Nat},TP O τ s->n < m ->
  Run (loopW (testL (P p) (callK (P p) (d+6)) (sc_Tokenizer_run p) 58 (st_Tokenizer_run_l0 p)) (turnL (P p) (callK (P p) (d+6)) (sc_Tokenizer_run p) 58 (st_Tokenizer_run_l0 p)) m [(Qc,.ref 2 τ.i)]) O
   fun fl O'=>fl=.next [(Qc,.ref 2 τ.i)]/\TP O' τ s'/\Fx O O':=by
 have test:∀ {s:PS} {O:Store},TP O τ s->testL (P p) (callK (P p) (d+6)) (sc_Tokenizer_run p) 58 (st_Tokenizer_run_l0 p) [(Qc,.ref 2 τ.i)] O=some (s.ready,O):=by
  intro s O h;rw [Ub0];delta Q_Tokenizer_run_l0_0;have hr:=Unc (p:=p) (d:=d+5) h;obtain ⟨t,h,hw,rfl⟩:=h;have e:Run (bnd (look (methK (P p) (.ref 2 τ.i) Qda)) fun x3=>if isRepl x3 then fail else bnd (methodV (callK (P p) (d+6)) x3 (.ref 2 τ.i) []) fun x4=>(match isT x4 with
   | some x5=>ret (Fl.ret (.bool x5))
   | none=>fail)) O fun fl O'=>fl=.ret (.bool t.pl.ready)/\O'=O:=Run.m (Ukf h) (Run.b hr ⟨_,_,rfl,rfl,rfl⟩)
  refine xEEAAA e fun fl O' e qz1 qz2=>?_;subst qz1;subst qz2;exact bnd_of e
 induction r with
 | stop hs =>
  intro O m h hm;obtain ⟨m,rfl⟩:∃ k,m=k+1:=⟨m - 1,((Nat.sub_eq_iff_eq_add hm).mp rfl)⟩
  rw [loopW];refine Run.b (test h) ?_;rw [hs];exact Run.neg Bool.false_ne_true (Run.r ⟨rfl,h,Fx.rfl⟩)
 | @go u u' m' hs hf r ih =>
  intro O m h hm;obtain ⟨m,rfl⟩:∃ k,m=k+1:=⟨m - 1,((Nat.sub_add_cancel (Nat.lt_of_le_of_lt (Nat.zero_le _) hm)).symm)⟩
  rw [loopW];refine Run.b (test h) ?_;rw [hs];refine Run.pos rfl ?_;rw [Ubz];delta T_Tokenizer_run_l0_0;have hstep:=Uqv (p:=p) (d:=d) h hf;refine Run.c (Q1:=fun fl O'=>fl=.next [(Qc,.ref 2 τ.i)]/\TP O' τ u.step/\Fx O O') ?_ fun fl O1 qq=>xAAA qq fun e h1 f1=>?_
  ·obtain ⟨t,h,hw,rfl⟩:=h;exact Run.m (Us2 h) (Run.c hstep fun v O1 ⟨e,h1,f1⟩=>Run.next ⟨rfl,h1,f1⟩)
  ·subst e;exact (ih h1 (om6 hm)).mono fun fl O2 qq=>xAAA qq fun e h2 f2=>⟨e,h2,f1.trans f2⟩
theorem Usc(h:TP O τ s)(r:Runs s n s')(hn:n < 5000):Run (callK (P p) (d+7) a_Tokenizer_run [.ref 2 τ.i]) O fun v O'=>v=.bool s'.done/\TP O' τ s'/\Fx O O':=by
 rw [Uf1];show RF _ O _;delta F_Tokenizer_run;refine RF.c (Uqd r h hn) fun fl O1 qq=>xAAA qq fun e h1 f1=>?_;subst e;show RF (J_Tokenizer_run_0 p _ _) O1 _;rw [Ucl];refine xEAAA h1 fun t h hw qz1=>?_;subst qz1;exact RF.b (Uhy h) (RF.r ⟨rfl,⟨t,h,hw,rfl⟩,f1⟩)
end
noncomputable def PS.new(state last:Str):PS:=⟨0,state,"data",last,[],[],none,false,[],false,false,[]⟩
section
variable {p:Params}{O O' O₁:Store}{τ:Rf}{t:TS}{s s':PS}{n d:Nat}{Q:V->Store->Prop}{k:V->M Fl}
theorem Uan{r i r' i':Nat}{o:Ob}(hr:r'≠r):(O.put r i o).get r' i'=O.get r' i':=by delta Store.get;rw [Uc6 hr]
theorem Uaf{r r' i':Nat}{o:Ob}(hr:r'≠r):(O.add r o).get r' i'=O.get r' i':=by delta Store.get;rw [Uft hr]
theorem Fx.put'{r i:Nat}{o:Ob}(f:Fx O₁ O)(h:tokR r=true):Fx O₁ (O.put r i o):=f.trans (Fx.put h)
theorem Fx.add'{r:Nat}{o:Ob}(f:Fx O₁ O)(h:tokR r=true):Fx O₁ (O.add r o):=f.trans (Fx.add h)
theorem RF.nl{r:Nat}{vs:List V}(hlen:O.length=24)(hr:r < 24)(g:∀ i,(O.add r (.list vs)).get r i=some (.list vs)->(∀ r' i' o,O.get r' i'=some o->(O.add r (.list vs)).get r' i'=some o)->RF (k (.ref r i)) (O.add r (.list vs)) Q):RF (bnd (newL r vs) k) O Q:=by
 refine xEA (reg_of hlen hr) fun l hl=>?_;exact RF.b (Uf8 hl) (g l.length (Ua0 hl) fun r' i' o e=>Ub5 hl e)
theorem Uf2{i:Nat}(h0:O.get 1 i=some (.inst c_Stream []))(hlen:O.length=24):Run (callK (P p) (d+1) a_Stream_init [.ref 1 i]) O fun v O'=>v=.none/\(∃ sg se,O'.length=24 /\
  O'.get 1 i=some (.inst c_Stream [(Qa,.ref 7 sg),(Qbe,.bool false),(Qaw,.bool false),(Qb,.ref 8 se)])/\O'.get 7 sg=some (.list [])/\O'.get 8 se=some (.list [])/\(∀ r,r≠1->r≠7->r≠8->O'[r]?=O[r]?)):=by
 rw [Uhj];show RF _ O _;delta F_Stream_init;refine RF.nl hlen (by decide) fun sg h7 o7=>?_;refine RF.sg (o7 _ _ _ h0) (by kernel_rfl) (by kernel_rfl) fun h1=>RF.sg h1 (by kernel_rfl) (by kernel_rfl) fun h2=>RF.sg h2 (by kernel_rfl) (by kernel_rfl) fun h3=>?_;refine RF.nl (by simp only [Uaq,Uba];exact hlen) (by decide) fun se h8 o8=>?_;refine RF.sg (o8 _ _ _ h3) (by kernel_rfl) (by kernel_rfl) fun h4=>RF.n ⟨rfl,sg,se,by simp only [Uaq,Uba];exact hlen,?_,?_,?_,?_⟩
 ·rw [h4];have e:∀ a b:V,setK Qb b (setK Qaw (.bool false) (setK Qbe (.bool false) (setK Qa a [])))=[(Qa,a),(Qbe,.bool false),(Qaw,.bool false),(Qb,b)]:=fun a b=>by kernel_rfl
  exact congrArg (fun q=>some (Ob.inst c_Stream q)) (e _ _)
 ·repeat first | rw [Uan (by decide)] | rw [Uaf (by decide)]
  exact h7
 ·rw [Uan (by decide)];exact h8
 ·intro r r1 r7 r8;simp only [Uc6 r1,Uft r7,Uft r8]
theorem Ul8(hlen:O.length=24):Run (applyV (P p) (callK (P p) (d+1)) (.fn c_Stream) []) O fun v O'=>∃ i sg se,v=.ref 1 i/\O'.length=24 /\
  O'.get 1 i=some (.inst c_Stream [(Qa,.ref 7 sg),(Qbe,.bool false),(Qaw,.bool false),(Qb,.ref 8 se)])/\O'.get 7 sg=some (.list [])/\O'.get 8 se=some (.list [])/\(∀ r,r≠1->r≠7->r≠8->O'[r]?=O[r]?):=by
 refine xEA (reg_of (r:=1) (O:=O) hlen (by decide)) fun l hl=>?_;refine (new_of (f:=a_Stream_init) (R:=fun O'=>∃ sg se,O'.length=24 /\
  O'.get 1 l.length=some (.inst c_Stream [(Qa,.ref 7 sg),(Qbe,.bool false),(Qaw,.bool false),(Qb,.ref 8 se)])/\O'.get 7 sg=some (.list [])/\O'.get 8 se=some (.list [])/\(∀ r,r≠1->r≠7->r≠8->O'[r]?=O[r]?)) (by kernel_rfl) hl ?_).mono fun v O' qq=>xAEEA qq fun e sg se h=>⟨l.length,sg,se,e,h⟩
 refine (Uf2 (Ua0 hl) (Uba.trans hlen)).mono fun v O' qq=>xAEEAAAAA qq fun e sg se h1 h2 h3 h4 h5=>⟨e,sg,se,h1,h2,h3,h4,fun r r1 r7 r8=>(h5 r r1 r7 r8).trans (Uft r1)⟩
theorem Uia{i sd:Nat}{state last:Str}(h0:O.get 2 i=some (.inst c_Tokenizer []))(hlen:O.length=24)(hsd:O.get 3 sd=some (.dict stEs)) :
  Run (bnd (F_Tokenizer_init p (callK (P p) (d+1)) (.ref 2 i) (.ref 3 sd) (.str state) (.str last)) unFl) O fun v O'=>v=.none/\(∃ τ:Rf,τ.i=i/\TP O' τ (PS.new state last))/\Fx O O':=by
 show RF _ O _;delta F_Tokenizer_init;refine RF.sg h0 (by kernel_rfl) (by kernel_rfl) fun h1=>RF.c (Ul8 (by simp only [Uaq];exact hlen)) fun v O2 qq=>xEEEAAAAAA qq fun j sg se ev l2 g1 g7 g8 k2=>?_;subst ev;have h2:O2.get 2 i=some (.inst c_Tokenizer (setK Qax (.ref 3 sd) [])):=by delta Store.get;rw [k2 2 (by decide) (by decide) (by decide)];exact h1
 have s2:O2.get 3 sd=some (.dict stEs):=by delta Store.get;rw [k2 3 (by decide) (by decide) (by decide),Uc6 (by decide)];exact hsd
 have f2:Fx O O2:=fun r hr=>(k2 r (by rintro rfl;cases hr) (by rintro rfl;cases hr) (by rintro rfl;cases hr)).trans (Uc6 (by rintro rfl;cases hr));refine RF.sg h2 (by kernel_rfl) (by kernel_rfl) fun h3=>RF.sg h3 (by kernel_rfl) (by kernel_rfl) fun h4=>RF.sg h4 (by kernel_rfl) (by kernel_rfl) fun h5=>RF.sg h5 (by kernel_rfl) (by kernel_rfl) fun h6=>?_;refine RF.nl (by simp only [Uaq];exact l2) (by decide) fun o h9 o9=>?_;refine RF.sg (o9 _ _ _ h6) (by kernel_rfl) (by kernel_rfl) fun h7=>RF.nl (by simp only [Uaq,Uba];exact l2) (by decide) fun er h10 o10=>?_;refine RF.sg (o10 _ _ _ h7) (by kernel_rfl) (by kernel_rfl) fun h11=>RF.sg h11 (by kernel_rfl) (by kernel_rfl) fun h12=>RF.sg h12 (by kernel_rfl) (by kernel_rfl) fun h13=>RF.sg h13 (by kernel_rfl) (by kernel_rfl) fun h14 =>
  RF.sg h14 (by kernel_rfl) (by kernel_rfl) fun h15=>RF.sg h15 (by kernel_rfl) (by kernel_rfl) fun h16=>RF.sg h16 (by kernel_rfl) (by kernel_rfl) fun h17=>RF.sg h17 (by kernel_rfl) (by kernel_rfl) fun h18=>?_
 refine RF.n ⟨rfl,⟨⟨i,j,o,er,sg,se,sd⟩,rfl,⟨⟨0,state,"data",last,[],[],none,false,false,[],false,false,[]⟩,⟨?_,?_,?_,?_,?_,?_,?_,?_,fun d e=>by cases e⟩,rfl,rfl⟩⟩,?_⟩
 ·simp only [Uaq,Uba];exact l2
 ·rw [h18]
  kernel_rfl
 ·repeat first | rw [Uan (by decide)] | rw [Uaf (by decide)]
  exact g1
 ·repeat first | rw [Uan (by decide)] | rw [Uaf (by decide)]
  exact g7
 ·repeat first | rw [Uan (by decide)] | rw [Uaf (by decide)]
  exact g8
 ·repeat first | rw [Uan (by decide)] | rw [Uaf (by decide)]
  exact h9
 ·repeat first | rw [Uan (by decide)] | rw [Uaf (by decide)]
  exact h10
 ·repeat first | rw [Uan (by decide)] | rw [Uaf (by decide)]
  exact s2
 ·repeat first | refine Fx.put' ?_ rfl | refine Fx.add' ?_ rfl
  exact f2
theorem Us7{sd:Nat}(hlen:O.length=24)(hsd:O.get 3 sd=some (.dict stEs))(state last:Str):Run (applyV (P p) (callK (P p) (d+2)) (.fn c_Tokenizer) [.ref 3 sd,.str state,.str last]) O fun v O'=>∃ τ:Rf,v=.ref 2 τ.i/\TP O' τ (PS.new state last)/\Fx O O':=by
 refine xEA (reg_of (r:=2) (O:=O) hlen (by decide)) fun l hl=>?_;refine (new_of (f:=a_Tokenizer_init) (R:=fun O'=>(∃ τ:Rf,τ.i=l.length/\TP O' τ (PS.new state last))/\Fx O O') (by kernel_rfl) hl ?_).mono fun v O' ⟨e,⟨τ,ht,h⟩,x⟩=>⟨τ,by rw [ht];exact e,h,x⟩
 rw [Ufn];exact (Uia (Ua0 hl) (Uba.trans hlen) (by rw [Uaf (by decide)];exact hsd)).mono fun v O' qq=>xAAA qq fun e h x=>⟨e,h,(Fx.add rfl).trans x⟩
noncomputable def tagEs:List (Str×V):=stEs.take 4
noncomputable def attrEs:List (Str×V):=stEs.drop 4
theorem Uji{r:Nat}{l:List Ob}{es:List (Str×V)}(h:O[r]?=some l):newD r es O=some (.ref r l.length,O.add r (.dict es)):=by delta newD;rw [h]
theorem Uhg{l:List Ob}(h:O[3]?=some l):callK (P p) (d+1) a_tag_states [] O=some (.ref 3 l.length,O.add 3 (.dict tagEs)):=by
 rw [Uh7];delta F_tag_states;rw [Ua3];exact bnd_of (Uji h)
theorem Ugi{l:List Ob}(h:O[3]?=some l):callK (P p) (d+1) a_attr_states [] O=some (.ref 3 l.length,O.add 3 (.dict attrEs)):=by
 rw [Ug6];delta F_attr_states;rw [Ua3];exact bnd_of (Uji h)
end
noncomputable def PS.goC(s:PS)(a:Act)(c:Str):PS :=
 let s1:=match a.err with
  | some e=>s.nxt.error e
  | none=>s.nxt
 let s2:=s1.deed a.deed c
 match a.goal with
 | some g=>if a.again then s2.again g else s2.to g
 | none=>s2
structure Sz(k:Nat)(s:PS):Prop where
 out:s.out.length<=3*k
 errs:s.errs.length<=3*k
 dr:∀ D,s.draft=some D->D.name.length<=k/\D.attrs.length<=k/\∀ a ∈ D.attrs,a.n.length<=k/\a.v.length<=k
noncomputable def Dk(s:PS):Nat->Prop
 | 0=>s.draft=none
 | 1=>∃ D,s.draft=some D/\(D.kind="start"\/D.kind="end")
 | _=>∃ D,s.draft=some D/\(D.kind="start"\/D.kind="end")/\D.attrs≠[]
noncomputable def slashy(c:Str):Bool:=[Qy,">",""].any (·==c)
noncomputable def need(q:St)(c:Option Str):Nat:=match q with
 | .tagOpen | .endOpen=>0
 | .tagName | .self | .befName | .aftVal=>1
 | .name | .befVal | .dq | .sq | .bare=>2
 | .aftName=>match c with
  | some c=>if slashy c then 1 else 2
  | none=>2
structure Inv(k:Nat)(s:PS)(c:Option Str):Prop where
 pos:0<=s.pos
 sz:Sz k s
 dk:∀ q:St,s.state=q.str->Dk s (need q c)
theorem Dk.le{s:PS}{m n:Nat}(h:Dk s n)(hm:m<=n)(h1:1<=m):Dk s m:=by
 cases m with
 | zero=>exact absurd h1 (by decide)
 | succ m =>
  cases n with
  | zero=>exact absurd hm (Nat.not_succ_le_zero _)
  | succ n =>
   cases m with
   | zero=>cases n with
    | zero=>exact h
    | succ n=>exact xEAAA h fun D h1 h2 w0=>⟨D,h1,h2⟩
   | succ m=>cases n with
    | zero=>exact absurd hm (by omega)
    | succ n=>exact h
theorem St.inj{q q':St}(h:q.str=q'.str):q=q':=by
 have:=congrArg ofStr h;rw [Uas,Uas] at this;exact Option.some.inj this
section
variable {s s':PS}{k:Nat}{c:Str}{D:PD}
theorem Sz.mono(h:Sz k s){k':Nat}(hk:k<=k'):Sz k' s :=
 ⟨by have:=h.out;exact om30 hk this,by have:=h.errs;exact om30 hk this,fun D e=>by
  refine xAAA (h.dr D e) fun h1 h2 h3=>?_;exact ⟨(om9 hk h1),(om9 hk h2),fun a m=>⟨by have:=(h3 a m).1;exact om9 hk this,by have:=(h3 a m).2;exact om9 hk this⟩⟩⟩
theorem Uj2{as:List PA}{f:List PA->PA->PA}{a:PA}(h:as.getLast?=some a):as=as.dropLast++[a]:=by
 refine xEA (List.getLast?_eq_some_iff.mp h) fun l qz1=>?_;subst qz1;simp
theorem Ufd{f:List PA->PA->PA}(hd:s.draft=some D):∃ as,(s.last' f).draft=some { D with attrs:=as }/\as.length=D.attrs.length/\∀ b ∈ as,b ∈ D.attrs\/∃ a ∈ D.attrs,b=f D.attrs.dropLast a:=by
 delta PS.last';rw [hd];dsimp only;cases h:D.attrs.getLast? with
 | none=>exact ⟨D.attrs,hd,rfl,fun b m=>.inl m⟩
 | some a =>
  have e:=Uj2 (f:=f) h;refine ⟨_,rfl,?_,fun b m=>?_⟩
  ·conv=>rhs;rw [e]
   simp
  ·rcases List.mem_append.mp m with m | m
   ·left;rw [e];exact List.mem_append_left _ m
   ·right
    rw [List.mem_singleton] at m;exact ⟨a,by rw [e];simp,m⟩
theorem Ubq{f:List PA->PA->PA}:(s.last' f).out=s.out/\(s.last' f).errs=s.errs:=by
 delta PS.last';cases s.draft with
 | none=>exact ⟨rfl,rfl⟩
 | some D=>dsimp only;cases D.attrs.getLast? <;> exact ⟨rfl,rfl⟩
theorem Ulh:s.emitDraft.out.length<=s.out.length+1/\s.emitDraft.errs.length<=s.errs.length+2/\(∀ D,s.emitDraft.draft=some D->s.draft=some D):=by
 delta PS.emitDraft;cases h:s.draft with
 | none=>exact ⟨by simp,by simp,fun D e=>by rw [h] at e;cases e⟩
 | some D =>
  refine ⟨by simp,?_,fun D e=>by cases e⟩;dsimp only;split <;> split <;> simp
set_option tactic.hygienic true in
theorem Upr(h:Sz k s)(he:s'.errs.length<=s.errs.length+1)(ho:s'.out=s.out)(hd:s'.draft=s.draft)(hc:c.length<=1)(d:Deed):Sz (k+1) (s'.deed d c):=by
 obtain ⟨h1,h2,h3⟩:=h;have hD:∀ D,s'.draft=some D->D.name.length<=k+1/\D.attrs.length<=k+1/\∀ a ∈ D.attrs,a.n.length<=k+1/\a.v.length<=k+1:=fun D e=>by
  refine xAAA (h3 D (hd▸e)) fun a b z=>?_;exact ⟨Nat.le_succ_of_le a,Nat.le_succ_of_le b,fun x m=>⟨Nat.le_succ_of_le (z x m).1,Nat.le_succ_of_le (z x m).2⟩⟩
 have ho3:s'.out.length<=3*k:=by rw [ho];exact h1
 have hE:s'.errs.length<=3*(k+1):=Nat.le_trans he (Nat.add_le_add h2 (by decide:1<=3));have hO:s'.out.length<=3*(k+1):=Nat.le_trans ho3 (Nat.le_add_right _ 3);have o1:∀ l:List V,l.length<=3->(s'.out++l).length<=3*(k+1):=fun l q=>by rw [List.length_append];exact Nat.add_le_add ho3 q
 have hs:Sz (k+1) s':=⟨hO,hE,hD⟩
 have low:∀ x:Str,x=(if c==Qab then (Str.ofString "�") else lowerS c)->x.length<=1:=fun x e=>by
  rw [e];split
  ·exact Nat.le_refl 1
  ·exact Uli hc
 have lrep:(repl c).length<=1:=by
  delta repl;split
  ·exact Nat.le_refl 1
  ·exact hc
 have len_add:∀ x y:Str,(x++y).length=x.length+y.length:=fun x y=>by
  show (x.cps++y.cps).size=_;rw [Array.size_append];rfl
 have addL:∀ f:List PA->PA->PA,(∀ l a,(f l a).n.length<=a.n.length+1/\(f l a).v.length<=a.v.length+1)->Sz (k+1) (s'.last' f):=fun f hf=>by
  refine ⟨by rw [Ubq.1,ho];exact Nat.le_trans h1 (Nat.le_add_right _ 3),by rw [Ubq.2];omega,fun D' e=>?_⟩;cases hdr:s'.draft with
  | none =>
   unfold PS.last' at e;rw [hdr] at e;dsimp only at e;rw [hdr] at e;cases e
  | some D =>
   refine xEAAA (Ufd (f:=f) hdr) fun as e2 hl hm=>?_;rw [e2] at e;cases e;refine xAAA (h3 D (hd▸hdr)) fun a1 b1 z1=>?_;refine ⟨Nat.le_succ_of_le a1,by show as.length<=_;exact Nat.le_succ_of_le (hl▸b1),fun b m=>?_⟩;rcases hm b m with m | ⟨a,m2,rfl⟩
   ·exact ⟨Nat.le_succ_of_le (z1 b m).1,Nat.le_succ_of_le (z1 b m).2⟩
   ·have:=z1 a m2;have:=hf D.attrs.dropLast a
    omega
 have newA:Sz (k+1) s'.newAttr:=by
  delta PS.newAttr;cases hdr:s'.draft with
  | none=>exact hs
  | some D =>
   refine ⟨hO,hE,fun D' e=>?_⟩;cases e;refine xAAA (h3 D (hd▸hdr)) fun a1 b1 z1=>?_;refine ⟨Nat.le_succ_of_le a1,by rw [List.length_append];exact Nat.succ_le_succ b1,fun b m=>?_⟩;rcases List.mem_append.mp m with m | m
   ·exact ⟨Nat.le_succ_of_le (z1 b m).1,Nat.le_succ_of_le (z1 b m).2⟩
   ·rw [List.mem_singleton] at m;subst m;exact ⟨Nat.zero_le _,Nat.zero_le _⟩
 have beg:∀ kd:Str,Sz (k+1) (s'.begin kd):=fun kd=>⟨hO,hE,fun D e=>by
  cases e;exact ⟨Nat.zero_le _,Nat.zero_le _,fun a m=>by cases m⟩⟩
 cases d with
 | none=>exact hs
 | start=>exact beg _
 | end_=>exact beg _
 | comment=>exact beg _
 | lost =>
  show Sz (k+1) (if (s'.state==Qba)=true then _ else _:PS).eof;split
  ·exact ⟨by show ((s'.out++[_])++[_]).length<=_;rw [List.append_assoc];exact o1 _ (Nat.le_succ 2),hE,hD⟩
  ·exact ⟨by show (((s'.out++[_])++[_])++[_]).length<=_;rw [List.append_assoc,List.append_assoc];exact o1 _ (Nat.le_refl 3),hE,hD⟩
 | lone=>exact ⟨o1 [_] (by decide:1<=3),hE,hD⟩
 | give =>
  refine xAAA (Ulh (s:=s')) fun a b z=>?_;exact ⟨by show s'.emitDraft.out.length<=_;rw [ho] at a;exact om31 h1 a,by show s'.emitDraft.errs.length<=_;exact om32 he h2 b,fun D e=>hD D (z D e)⟩
 | close =>
  refine xAAA (Ulh (s:=s'.closeIt)) fun a b z=>?_;have ec:s'.closeIt.out=s'.out/\s'.closeIt.errs=s'.errs/\∀ D,s'.closeIt.draft=some D->D.name.length<=k+1/\D.attrs.length<=k+1/\∀ a ∈ D.attrs,a.n.length<=k+1/\a.v.length<=k+1:=by
   delta PS.closeIt;cases hdr:s'.draft with
   | none=>exact ⟨rfl,rfl,fun D e=>hD D e⟩
   | some D=>exact ⟨rfl,rfl,fun D' e=>by cases e;exact hD D hdr⟩
  exact ⟨by show s'.closeIt.emitDraft.out.length<=_;rw [ec.1,ho] at a;exact om31 h1 a,by show s'.closeIt.emitDraft.errs.length<=_;rw [ec.2.1] at b;exact om32 he h2 b,fun D e=>ec.2.2 D (z D e)⟩
 | put =>
  show Sz (k+1) (if (s'.state==Qai)=true then _ else if (s'.state==Qaj)=true then _ else _:PS);split
  ·delta PS.tagName;cases hdr:s'.draft with
   | none=>exact hs
   | some D =>
    refine ⟨hO,hE,fun D' e=>?_⟩;cases e;refine xAAA (h3 D (hd▸hdr)) fun a1 b1 z1=>?_;refine ⟨?_,Nat.le_succ_of_le b1,(hD D hdr).2.2⟩;show (D.name++_).length<=_;rw [len_add];have:=low _ rfl;exact Nat.add_le_add a1 this
  ·split
   ·exact addL _ fun l a=>⟨by show (a.n++_).length<=_;rw [len_add];have:=low _ rfl;exact om33 this,by show a.v.length<=_;exact om16⟩
   ·exact addL _ fun l a=>⟨by show a.n.length<=_;exact om16,by show (a.v++_).length<=_;rw [len_add];exact om33 lrep⟩
 | quit=>exact ⟨o1 [_] (by decide:1<=3),hE,hD⟩
 | new=>exact newA
 | first =>
  obtain ⟨n1,n2,n3⟩:=newA;refine ⟨by show (s'.newAttr.last' _).out.length<=_;rw [Ubq.1];exact n1,by show (s'.newAttr.last' _).errs.length<=_;rw [Ubq.2];exact n2,fun D' e=>?_⟩;cases hdr:s'.draft with
  | none =>
   have e:(s'.newAttr.last' fun w0 a=>{ a with n:=a.n++c }).draft=some D':=e;have:s'.newAttr=s':=by delta PS.newAttr;rw [hdr]
   rw [this] at e;delta PS.last' at e;rw [hdr] at e;dsimp only at e;rw [hdr] at e;cases e
  | some D =>
   have e:(s'.newAttr.last' fun w0 a=>{ a with n:=a.n++c }).draft=some D':=e;rw [Ub7 hdr,Ucw (init:=D.attrs) (a:=⟨"","",true⟩) rfl rfl] at e;cases e;refine xAAA (h3 D (hd▸hdr)) fun a1 b1 z1=>?_;refine ⟨Nat.le_succ_of_le a1,by rw [List.length_append];exact Nat.succ_le_succ b1,fun b m=>?_⟩;rcases List.mem_append.mp m with m | m
   ·exact ⟨Nat.le_succ_of_le (z1 b m).1,Nat.le_succ_of_le (z1 b m).2⟩
   ·rw [List.mem_singleton] at m;subst m;exact ⟨by show (Qt++c).length<=_;rw [len_add];show 0+_<=_;exact (Nat.zero_add _).symm▸Nat.le_trans hc (Nat.succ_le_succ (Nat.zero_le _)),Nat.zero_le _⟩
 | check =>
  show Sz (k+1) s'.check;delta PS.check;split
  ·rename_i ht;obtain ⟨n1,n2,n3⟩:=addL (fun w0 a=>{ a with k:=false }) fun l a=>⟨Nat.le_succ _,Nat.le_succ _⟩
   refine ⟨n1,?_,n3⟩;show ((s'.last' _).errs++[_]).length<=_;rw [Ubq.2];simp;exact Nat.succ_le_succ (Nat.le_trans he (Nat.add_le_add h2 (show 1<=2 by decide)))
  ·exact hs
 | refer=>exact ⟨hO,hE,hD⟩
end
noncomputable def Deed.isEnd:Deed->Bool
 | .quit | .lost=>true
 | _=>false
noncomputable def post(d:Deed)(x:Nat):Option Nat:=match d with
 | .none | .refer | .put | .check=>some x
 | .start | .end_=>some 1
 | .new | .first=>if Nat.ble 1 x then some 2 else Option.none
 | _=>Option.none
noncomputable def okk(m n:Nat):Bool:=Nat.beq m n||(Nat.ble 1 m&&Nat.ble m n)
noncomputable def statA(q:St)(c:Str)(x:Nat)(a:Act):Bool:=match a.goal with
 | some g=>match ofStr g with
  | some q'=>match post a.deed x with
   | some y=>okk (need q' (if a.again then some c else none)) y
   | none=>false
  | none=>true
 | none=>a.deed.isEnd||match post a.deed x with
  | some y=>okk (need q none) y
  | none=>false
theorem iteA{P:Act->Prop}{b:Bool}{x y:Act}(h1:b=true->P x)(h2:b=false->P y):P (if b=true then x else y):=by
 cases b
 ·exact h2 rfl
 ·exact h1 rfl
theorem Uiy{c:Str}(h:slashy c=true):c="/"\/c=">"\/c="":=by
 delta slashy at h;simp only [List.any_cons,List.any_nil,Bool.or_false,Bool.or_eq_true] at h;rcases h with h | h | h
 ·exact .inl (eq_of_beq h).symm
 ·exact .inr (.inl (eq_of_beq h).symm)
 ·exact .inr (.inr (eq_of_beq h).symm)
theorem Usd(q:St)(c:Str):statA q c (need q (some c)) (act q c)=true:=by
 cases hs:slashy c with
 | true =>
  rcases Uiy hs with rfl | rfl | rfl <;> cases q <;> kernel_rfl
 | false =>
  have hn:need .aftName (some c)=2:=by show (if slashy c=true then 1 else 2)=2;rw [hs];rfl
  have hm:∀ {A:Act},([Qy,">",""].any (·==c))=true->statA .befName c 1 A=true:=fun h=>by rw [show ([Qy,">",""].any (·==c))=slashy c from rfl,hs] at h;cases h
  have hm2:∀ {A:Act},([Qy,">",""].any (·==c))=true->statA .name c 2 A=true:=fun h=>by rw [show ([Qy,">",""].any (·==c))=slashy c from rfl,hs] at h;cases h
  cases q with
  | tagOpen =>
   let P:Act->Prop:=fun a=>statA .tagOpen c 0 a=true
   exact iteA (P:=P) (fun w0=>by kernel_rfl) fun w0=>iteA (P:=P) (fun w0=>by kernel_rfl) fun w0=>iteA (P:=P) (fun w0=>by kernel_rfl) fun w0=>iteA (P:=P) (fun w0=>by kernel_rfl) fun w0=>iteA (P:=P) (fun w0=>by kernel_rfl) fun w0=>by kernel_rfl
  | endOpen =>
   let P:Act->Prop:=fun a=>statA .endOpen c 0 a=true
   exact iteA (P:=P) (fun w0=>by kernel_rfl) fun w0=>iteA (P:=P) (fun w0=>by kernel_rfl) fun w0=>iteA (P:=P) (fun w0=>by kernel_rfl) fun w0=>by kernel_rfl
  | tagName =>
   let P:Act->Prop:=fun a=>statA .tagName c 1 a=true
   exact iteA (P:=P) (fun w0=>by kernel_rfl) fun w0=>iteA (P:=P) (fun w0=>by kernel_rfl) fun w0=>iteA (P:=P) (fun w0=>by kernel_rfl) fun w0=>iteA (P:=P) (fun w0=>by kernel_rfl) fun w0=>iteA (P:=P) (fun w0=>by kernel_rfl) fun w0=>by kernel_rfl
  | self =>
   let P:Act->Prop:=fun a=>statA .self c 1 a=true
   exact iteA (P:=P) (fun w0=>by kernel_rfl) fun w0=>iteA (P:=P) (fun w0=>by kernel_rfl) fun w0=>by kernel_rfl
  | befName =>
   let P:Act->Prop:=fun a=>statA .befName c 1 a=true
   exact iteA (P:=P) (fun w0=>by kernel_rfl) fun w0=>iteA (P:=P) hm (fun w0=>iteA (P:=P) (fun w0=>by kernel_rfl) fun w0=>by kernel_rfl)
  | name =>
   let P:Act->Prop:=fun a=>statA .name c 2 a=true
   exact iteA (P:=P) (fun w0=>by show okk (need .aftName (some c)) 2=true;rw [hn];rfl) fun w0=>iteA (P:=P) hm2 fun w0=>iteA (P:=P) (fun w0=>by kernel_rfl) fun w0=>iteA (P:=P) (fun w0=>by kernel_rfl) fun w0=>iteA (P:=P) (fun w0=>by kernel_rfl) fun w0=>by kernel_rfl
  | aftName =>
   rw [hn];let P:Act->Prop:=fun a=>statA .aftName c 2 a=true;exact iteA (P:=P) (fun w0=>by kernel_rfl) fun w0=>iteA (P:=P) (fun w0=>by kernel_rfl) fun w0=>iteA (P:=P) (fun w0=>by kernel_rfl) fun w0=>iteA (P:=P) (fun w0=>by kernel_rfl) fun w0=>iteA (P:=P) (fun w0=>by kernel_rfl) fun w0=>by kernel_rfl
  | befVal =>
   let P:Act->Prop:=fun a=>statA .befVal c 2 a=true
   exact iteA (P:=P) (fun w0=>by kernel_rfl) fun w0=>iteA (P:=P) (fun w0=>by kernel_rfl) fun w0=>iteA (P:=P) (fun w0=>by kernel_rfl) fun w0=>iteA (P:=P) (fun w0=>by kernel_rfl) fun w0=>by kernel_rfl
  | dq =>
   let P:Act->Prop:=fun a=>statA .dq c 2 a=true
   exact iteA (P:=P) (fun w0=>by kernel_rfl) fun w0=>iteA (P:=P) (fun w0=>by kernel_rfl) fun w0=>iteA (P:=P) (fun w0=>by kernel_rfl) fun w0=>iteA (P:=P) (fun w0=>by kernel_rfl) fun w0=>by kernel_rfl
  | sq =>
   let P:Act->Prop:=fun a=>statA .sq c 2 a=true
   exact iteA (P:=P) (fun w0=>by kernel_rfl) fun w0=>iteA (P:=P) (fun w0=>by kernel_rfl) fun w0=>iteA (P:=P) (fun w0=>by kernel_rfl) fun w0=>iteA (P:=P) (fun w0=>by kernel_rfl) fun w0=>by kernel_rfl
  | bare =>
   let P:Act->Prop:=fun a=>statA .bare c 2 a=true
   exact iteA (P:=P) (fun w0=>by kernel_rfl) fun w0=>iteA (P:=P) (fun w0=>by kernel_rfl) fun w0=>iteA (P:=P) (fun w0=>by kernel_rfl) fun w0=>iteA (P:=P) (fun w0=>by kernel_rfl) fun w0=>iteA (P:=P) (fun w0=>by kernel_rfl) fun w0=>iteA (P:=P) (fun w0=>by kernel_rfl) fun w0=>by kernel_rfl
  | aftVal =>
   let P:Act->Prop:=fun a=>statA .aftVal c 1 a=true
   exact iteA (P:=P) (fun w0=>by kernel_rfl) fun w0=>iteA (P:=P) (fun w0=>by kernel_rfl) fun w0=>iteA (P:=P) (fun w0=>by kernel_rfl) fun w0=>iteA (P:=P) (fun w0=>by kernel_rfl) fun w0=>by kernel_rfl
theorem Uh4(q:St)(c:Str):(fun a:Act=>!a.again||(a.goal.isSome&&!a.deed.isEnd)) (act q c)=true:=by
 let P:Act->Prop:=fun a=>(fun a:Act=>!a.again||(a.goal.isSome&&!a.deed.isEnd)) a=true
 cases q with
 | tagOpen=>exact iteA (P:=P) (fun w0=>rfl) fun w0=>iteA (P:=P) (fun w0=>rfl) fun w0=>iteA (P:=P) (fun w0=>rfl) fun w0=>iteA (P:=P) (fun w0=>rfl) fun w0=>iteA (P:=P) (fun w0=>rfl) fun w0=>rfl
 | endOpen=>exact iteA (P:=P) (fun w0=>rfl) fun w0=>iteA (P:=P) (fun w0=>rfl) fun w0=>iteA (P:=P) (fun w0=>rfl) fun w0=>rfl
 | tagName=>exact iteA (P:=P) (fun w0=>rfl) fun w0=>iteA (P:=P) (fun w0=>rfl) fun w0=>iteA (P:=P) (fun w0=>rfl) fun w0=>iteA (P:=P) (fun w0=>rfl) fun w0=>iteA (P:=P) (fun w0=>rfl) fun w0=>rfl
 | self=>exact iteA (P:=P) (fun w0=>rfl) fun w0=>iteA (P:=P) (fun w0=>rfl) fun w0=>rfl
 | befName=>exact iteA (P:=P) (fun w0=>rfl) fun w0=>iteA (P:=P) (fun w0=>rfl) fun w0=>iteA (P:=P) (fun w0=>rfl) fun w0=>rfl
 | name=>exact iteA (P:=P) (fun w0=>rfl) fun w0=>iteA (P:=P) (fun w0=>rfl) fun w0=>iteA (P:=P) (fun w0=>rfl) fun w0=>iteA (P:=P) (fun w0=>rfl) fun w0=>iteA (P:=P) (fun w0=>rfl) fun w0=>rfl
 | aftName=>exact iteA (P:=P) (fun w0=>rfl) fun w0=>iteA (P:=P) (fun w0=>rfl) fun w0=>iteA (P:=P) (fun w0=>rfl) fun w0=>iteA (P:=P) (fun w0=>rfl) fun w0=>iteA (P:=P) (fun w0=>rfl) fun w0=>rfl
 | befVal=>exact iteA (P:=P) (fun w0=>rfl) fun w0=>iteA (P:=P) (fun w0=>rfl) fun w0=>iteA (P:=P) (fun w0=>rfl) fun w0=>iteA (P:=P) (fun w0=>rfl) fun w0=>rfl
 | dq=>exact iteA (P:=P) (fun w0=>rfl) fun w0=>iteA (P:=P) (fun w0=>rfl) fun w0=>iteA (P:=P) (fun w0=>rfl) fun w0=>iteA (P:=P) (fun w0=>rfl) fun w0=>rfl
 | sq=>exact iteA (P:=P) (fun w0=>rfl) fun w0=>iteA (P:=P) (fun w0=>rfl) fun w0=>iteA (P:=P) (fun w0=>rfl) fun w0=>iteA (P:=P) (fun w0=>rfl) fun w0=>rfl
 | bare=>exact iteA (P:=P) (fun w0=>rfl) fun w0=>iteA (P:=P) (fun w0=>rfl) fun w0=>iteA (P:=P) (fun w0=>rfl) fun w0=>iteA (P:=P) (fun w0=>rfl) fun w0=>iteA (P:=P) (fun w0=>rfl) fun w0=>iteA (P:=P) (fun w0=>rfl) fun w0=>rfl
 | aftVal=>exact iteA (P:=P) (fun w0=>rfl) fun w0=>iteA (P:=P) (fun w0=>rfl) fun w0=>iteA (P:=P) (fun w0=>rfl) fun w0=>iteA (P:=P) (fun w0=>rfl) fun w0=>rfl
theorem Ulq(q:St)(c:Str)(hc:c≠""):(fun a:Act=>!a.deed.isEnd) (act q c)=true:=by
 let P:Act->Prop:=fun a=>(fun a:Act=>!a.deed.isEnd) a=true
 have hn:∀ {x},(c==Qt)=true->P x:=fun h=>absurd (eq_of_beq h) hc;cases q with
 | tagOpen=>exact iteA (P:=P) (fun w0=>rfl) fun w0=>iteA (P:=P) (fun w0=>rfl) fun w0=>iteA (P:=P) (fun w0=>rfl) fun w0=>iteA (P:=P) (fun w0=>rfl) fun w0=>iteA (P:=P) hn fun w0=>rfl
 | endOpen=>exact iteA (P:=P) (fun w0=>rfl) fun w0=>iteA (P:=P) (fun w0=>rfl) fun w0=>iteA (P:=P) hn fun w0=>rfl
 | tagName=>exact iteA (P:=P) (fun w0=>rfl) fun w0=>iteA (P:=P) (fun w0=>rfl) fun w0=>iteA (P:=P) (fun w0=>rfl) fun w0=>iteA (P:=P) (fun w0=>rfl) fun w0=>iteA (P:=P) hn fun w0=>rfl
 | self=>exact iteA (P:=P) (fun w0=>rfl) fun w0=>iteA (P:=P) hn fun w0=>rfl
 | befName=>exact iteA (P:=P) (fun w0=>rfl) fun w0=>iteA (P:=P) (fun w0=>rfl) fun w0=>iteA (P:=P) (fun w0=>rfl) fun w0=>rfl
 | name=>exact iteA (P:=P) (fun w0=>rfl) fun w0=>iteA (P:=P) (fun w0=>rfl) fun w0=>iteA (P:=P) (fun w0=>rfl) fun w0=>iteA (P:=P) (fun w0=>rfl) fun w0=>iteA (P:=P) (fun w0=>rfl) fun w0=>rfl
 | aftName=>exact iteA (P:=P) (fun w0=>rfl) fun w0=>iteA (P:=P) (fun w0=>rfl) fun w0=>iteA (P:=P) (fun w0=>rfl) fun w0=>iteA (P:=P) (fun w0=>rfl) fun w0=>iteA (P:=P) hn fun w0=>rfl
 | befVal=>exact iteA (P:=P) (fun w0=>rfl) fun w0=>iteA (P:=P) (fun w0=>rfl) fun w0=>iteA (P:=P) (fun w0=>rfl) fun w0=>iteA (P:=P) (fun w0=>rfl) fun w0=>rfl
 | dq=>exact iteA (P:=P) (fun w0=>rfl) fun w0=>iteA (P:=P) (fun w0=>rfl) fun w0=>iteA (P:=P) (fun w0=>rfl) fun w0=>iteA (P:=P) hn fun w0=>rfl
 | sq=>exact iteA (P:=P) (fun w0=>rfl) fun w0=>iteA (P:=P) (fun w0=>rfl) fun w0=>iteA (P:=P) (fun w0=>rfl) fun w0=>iteA (P:=P) hn fun w0=>rfl
 | bare=>exact iteA (P:=P) (fun w0=>rfl) fun w0=>iteA (P:=P) (fun w0=>rfl) fun w0=>iteA (P:=P) (fun w0=>rfl) fun w0=>iteA (P:=P) (fun w0=>rfl) fun w0=>iteA (P:=P) hn fun w0=>iteA (P:=P) (fun w0=>rfl) fun w0=>rfl
 | aftVal=>exact iteA (P:=P) (fun w0=>rfl) fun w0=>iteA (P:=P) (fun w0=>rfl) fun w0=>iteA (P:=P) (fun w0=>rfl) fun w0=>iteA (P:=P) hn fun w0=>rfl
noncomputable def PS.goto(s:PS)(goal:Option Str)(again:Bool):PS:=match goal with
 | some g=>if again then s.again g else s.to g
 | none=>s
structure Same(s s':PS):Prop where
 pos:s'.pos=s.pos
 state:s'.state=s.state
 signs:s'.signs=s.signs
 closed:s'.closed=s.closed
 isret:s'.isret=s.isret
 serr:s'.serr=s.serr
section
variable {s s':PS}{k n:Nat}{c:Str}{D:PD}
theorem Same.rfl:Same s s:=⟨Eq.refl _,Eq.refl _,Eq.refl _,Eq.refl _,Eq.refl _,Eq.refl _⟩
theorem Same.trans{a b c:PS}(x:Same a b)(y:Same b c):Same a c:=⟨y.pos.trans x.pos,y.state.trans x.state,y.signs.trans x.signs,y.closed.trans x.closed,y.isret.trans x.isret,y.serr.trans x.serr⟩
theorem Ucx{f:List PA->PA->PA}:Same s (s.last' f)/\(s.last' f).done=s.done:=by
 delta PS.last';cases s.draft with
 | none=>exact ⟨Same.rfl,rfl⟩
 | some D=>dsimp only;cases D.attrs.getLast? <;> exact ⟨⟨rfl,rfl,rfl,rfl,rfl,rfl⟩,rfl⟩
theorem Uei:Same s s.emitDraft/\s.emitDraft.done=s.done:=by
 delta PS.emitDraft;cases s.draft <;> exact ⟨⟨rfl,rfl,rfl,rfl,rfl,rfl⟩,rfl⟩
theorem Ugg:Same s s.newAttr/\s.newAttr.done=s.done:=by
 delta PS.newAttr;cases s.draft <;> exact ⟨⟨rfl,rfl,rfl,rfl,rfl,rfl⟩,rfl⟩
theorem Un9(d:Deed):Same s (s.deed d c)/\(s.deed d c).done=(s.done||d.isEnd):=by
 cases d with
 | none=>exact ⟨Same.rfl,(Bool.or_false _).symm⟩
 | start=>exact ⟨⟨rfl,rfl,rfl,rfl,rfl,rfl⟩,(Bool.or_false _).symm⟩
 | end_=>exact ⟨⟨rfl,rfl,rfl,rfl,rfl,rfl⟩,(Bool.or_false _).symm⟩
 | comment=>exact ⟨⟨rfl,rfl,rfl,rfl,rfl,rfl⟩,(Bool.or_false _).symm⟩
 | lost =>
  show Same s (if (s.state==Qba)=true then _ else _:PS).eof/\(if (s.state==Qba)=true then _ else _:PS).eof.done=_;split <;> exact ⟨⟨rfl,rfl,rfl,rfl,rfl,rfl⟩,(Bool.or_true _).symm⟩
 | lone=>exact ⟨⟨rfl,rfl,rfl,rfl,rfl,rfl⟩,(Bool.or_false _).symm⟩
 | give=>exact ⟨Uei.1,Uei.2.trans (Bool.or_false _).symm⟩
 | close =>
  have h:Same s s.closeIt/\s.closeIt.done=s.done:=by delta PS.closeIt;cases s.draft <;> exact ⟨⟨rfl,rfl,rfl,rfl,rfl,rfl⟩,rfl⟩
  exact ⟨h.1.trans Uei.1,(Uei.2.trans h.2).trans (Bool.or_false _).symm⟩
 | put =>
  show Same s (if (s.state==Qai)=true then _ else if (s.state==Qaj)=true then _ else _:PS)/\(if (s.state==Qai)=true then _ else if (s.state==Qaj)=true then _ else _:PS).done=_;split
  ·delta PS.tagName;cases s.draft <;> exact ⟨⟨rfl,rfl,rfl,rfl,rfl,rfl⟩,(Bool.or_false _).symm⟩
  ·split <;> exact ⟨Ucx.1,Ucx.2.trans (Bool.or_false _).symm⟩
 | quit=>exact ⟨⟨rfl,rfl,rfl,rfl,rfl,rfl⟩,(Bool.or_true _).symm⟩
 | new=>exact ⟨Ugg.1,Ugg.2.trans (Bool.or_false _).symm⟩
 | first=>exact ⟨Ugg.1.trans (Ucx (s:=s.newAttr) (f:=fun w0 a=>{ a with n:=a.n++c })).1,((Ucx (s:=s.newAttr) (f:=fun w0 a=>{ a with n:=a.n++c })).2.trans Ugg.2).trans (Bool.or_false _).symm⟩
 | check =>
  show Same s s.check/\s.check.done=_;delta PS.check;split
  ·have:=Ucx (s:=s) (f:=fun w0 a=>{ a with k:=false });exact ⟨⟨this.1.pos,this.1.state,this.1.signs,this.1.closed,this.1.isret,this.1.serr⟩,this.2.trans (Bool.or_false _).symm⟩
  ·exact ⟨Same.rfl,(Bool.or_false _).symm⟩
 | refer=>exact ⟨⟨rfl,rfl,rfl,rfl,rfl,rfl⟩,(Bool.or_false _).symm⟩
theorem Umq{f:List PA->PA->PA}{x:Nat}(h:Dk s x):Dk (s.last' f) x:=by
 match x,h with
 | 0,h =>
  show (s.last' f).draft=none;have h:s.draft=none:=h;delta PS.last';rw [h];exact h
 | 1,⟨D,hd,hk⟩=>refine xEAAA (Ufd (f:=f) hd) fun as e w0 w0=>?_;exact ⟨_,e,hk⟩
 | x+2,⟨D,hd,hk,hn⟩ =>
  refine xEAAA (Ufd (f:=f) hd) fun as e hl w0=>?_;exact ⟨_,e,hk,fun e=>hn (by cases hD:D.attrs with | nil=>rfl | cons a b=>rw [hD] at hl;rw [show as=[] from e] at hl;cases hl)⟩
theorem dk_new{x:Nat}(h:Dk s x)(hx:Nat.ble 1 x=true):Dk s.newAttr 2:=by
 have:∃ D,s.draft=some D/\(D.kind="start"\/D.kind="end"):=by
  match x,h,hx with
  | 1,⟨D,hd,hk⟩,_=>exact ⟨D,hd,hk⟩
  | x+2,⟨D,hd,hk,_⟩,_=>exact ⟨D,hd,hk⟩
 refine xEAA this fun D hd hk=>?_;rw [Ub7 hd];exact ⟨_,rfl,hk,by simp⟩
theorem Uov{x y:Nat}{d:Deed}(h:Dk s x)(hp:post d x=some y):Dk (s.deed d c) y:=by
 cases d with
 | none=>cases hp;exact h
 | start=>cases hp;exact ⟨_,rfl,.inl rfl⟩
 | end_=>cases hp;exact ⟨_,rfl,.inr rfl⟩
 | comment=>cases hp
 | lost=>cases hp
 | lone=>cases hp
 | give=>cases hp
 | close=>cases hp
 | put =>
  cases hp;show Dk (if (s.state==Qai)=true then _ else if (s.state==Qaj)=true then _ else _:PS) x;split
  ·delta PS.tagName
   match x,h with
   | 0,h=>have h:s.draft=none:=h;rw [h];exact h
   | 1,⟨D,hd,hk⟩=>rw [hd];exact ⟨_,rfl,hk⟩
   | x+2,⟨D,hd,hk,hn⟩=>rw [hd];exact ⟨_,rfl,hk,hn⟩
  ·split <;> exact Umq h
 | quit=>cases hp
 | new =>
  delta post at hp;cases hx:Nat.ble 1 x with
  | false=>rw [hx] at hp;cases hp
  | true=>rw [hx] at hp;cases hp;exact dk_new h hx
 | first =>
  delta post at hp;cases hx:Nat.ble 1 x with
  | false=>rw [hx] at hp;cases hp
  | true=>rw [hx] at hp;cases hp;exact Umq (dk_new h hx)
 | check =>
  cases hp;show Dk s.check x;delta PS.check;split
  ·have:=Umq (f:=fun w0 a=>{ a with k:=false }) h
   match x,this with
   | 0,h=>exact h
   | 1,h=>exact h
   | x+2,h=>exact h
  ·exact h
 | refer =>
  cases hp
  match x,h with
  | 0,h=>exact h
  | 1,h=>exact h
  | x+2,h=>exact h
theorem dk_okk{m n:Nat}(h:Dk s n)(ho:okk m n=true):Dk s m:=by
 delta okk at ho;rw [Bool.or_eq_true,Bool.and_eq_true] at ho;rcases ho with ho | ⟨h1,h2⟩
 ·rw [Nat.eq_of_beq_eq_true ho];exact h
 ·exact h.le (Nat.le_of_ble_eq_true h2) (Nat.le_of_ble_eq_true h1)
theorem Ucb(s:PS)(a:Act)(c:Str):(s.goC a c).signs=s.signs/\(s.goC a c).closed=s.closed/\(s.goC a c).isret=s.isret/\(s.goC a c).serr=s.serr/\(s.goC a c).done=(s.done||a.deed.isEnd) /\
  (s.goC a c).pos=(if a.again&&a.goal.isSome then s.pos else s.pos+1)/\(s.goC a c).state=(a.goal.getD s.state):=by
 obtain ⟨err,deed,goal,again⟩:=a;have key:∀ s1:PS,Same s.nxt s1->s1.done=s.done->((s1.deed deed c).goto goal again).signs=s.signs /\
   ((s1.deed deed c).goto goal again).closed=s.closed/\((s1.deed deed c).goto goal again).isret=s.isret /\
   ((s1.deed deed c).goto goal again).serr=s.serr/\((s1.deed deed c).goto goal again).done=(s.done||deed.isEnd) /\
   ((s1.deed deed c).goto goal again).pos=(if again&&goal.isSome then s.pos else s.pos+1) /\
   ((s1.deed deed c).goto goal again).state=goal.getD s.state:=by
  intro s1 h1 hd1;refine xAA (Un9 (s:=s1) (c:=c) deed) fun h2 hd2=>?_;have h:=h1.trans h2;rw [hd1] at hd2;cases goal with
  | none=>exact ⟨h.signs,h.closed,h.isret,h.serr,hd2,by rw [Bool.and_comm];exact h.pos,h.state⟩
  | some g =>
   cases again with
   | false=>exact ⟨h.signs,h.closed,h.isret,h.serr,hd2,h.pos,rfl⟩
   | true=>exact ⟨h.signs,h.closed,h.isret,h.serr,hd2,by show (s1.deed deed c).pos - 1=s.pos;rw [h.pos];show s.pos+1 - 1=s.pos;exact om19,rfl⟩
 cases err with
 | none=>exact key s.nxt Same.rfl rfl
 | some e=>exact key (s.nxt.error e) ⟨rfl,rfl,rfl,rfl,rfl,rfl⟩ rfl
theorem goC_sz(h:Sz k s)(a:Act)(hc:c.length<=1):Sz (k+1) (s.goC a c):=by
 obtain ⟨err,deed,goal,again⟩:=a;have key:∀ s2:PS,Sz (k+1) s2->Sz (k+1) (s2.goto goal again):=by
  intro s2 h2;cases goal with
  | none=>exact h2
  | some g=>cases again <;> exact ⟨h2.out,h2.errs,h2.dr⟩
 cases err with
 | none=>exact key (s.nxt.deed deed c) (Upr (s':=s.nxt) h (by show s.errs.length<=_;exact om16) rfl rfl hc deed)
 | some e=>exact key ((s.nxt.error e).deed deed c) (Upr (s':=s.nxt.error e) h (by show (s.errs++[_]).length<=_;simp) rfl rfl hc deed)
theorem goC_dk(a:Act){x y:Nat}(h:Dk s x)(hp:post a.deed x=some y):Dk (s.goC a c) y:=by
 obtain ⟨err,deed,goal,again⟩:=a;have key:∀ s2:PS,Dk s2 y->Dk (s2.goto goal again) y:=by
  intro s2 h2;cases goal with
  | none=>exact h2
  | some g =>
   cases again
   ·match y,h2 with
    | 0,h=>exact h
    | 1,h=>exact h
    | y+2,h=>exact h
   ·match y,h2 with
    | 0,h=>exact h
    | 1,h=>exact h
    | y+2,h=>exact h
 have nx:∀ s1:PS,s1.draft=s.draft->Dk s1 x:=by
  intro s1 e
  match x,h with
  | 0,h=>exact e.trans h
  | 1,⟨D,hd,hk⟩=>exact ⟨D,e.trans hd,hk⟩
  | x+2,⟨D,hd,hk⟩=>exact ⟨D,e.trans hd,hk⟩
 cases err with
 | none=>exact key (s.nxt.deed deed c) (Uov (s:=s.nxt) (nx _ rfl) hp)
 | some e=>exact key ((s.nxt.error e).deed deed c) (Uov (s:=s.nxt.error e) (nx _ rfl) hp)
theorem Udd{x:Str}{q:St}(h:ofStr x=some q):x=q.str:=by
 delta ofStr at h;have h2:=List.find?_some (p:=fun q:St=>q.str==x) h;exact (eq_of_beq h2).symm
theorem inv_go{q:St}(h:Inv k s (some c))(hq:s.state=q.str)(hc:c.length<=1)(he:c≠""\/(act q c).again=true):Inv (k+1) (s.goC (act q c) c) (if (act q c).again then some c else none):=by
 have hst:=Usd q c;have hst2:=Uh4 q c;have hst3:=Ulq q c;have hdk:=h.dk q hq;revert he hst hst2 hst3
 generalize act q c=a
 intro he hst hst2 hst3;refine xAAAAAAA (Ucb s a c) fun f1 f2 f3 f4 f5 f6 f7=>?_;have hE:a.deed.isEnd=false:=by
  rcases he with he | he
  ·have:=hst3 he;dsimp only at this;cases hh:a.deed.isEnd with
   | false=>rfl
   | true=>rw [hh] at this;cases this
  ·dsimp only at hst2;rw [he] at hst2;cases hh:a.deed.isEnd with
   | false=>rfl
   | true=>rw [hh] at hst2;simp at hst2
 refine ⟨?_,goC_sz h.sz a hc,fun q' hq'=>?_⟩
 ·rw [f6];have:=h.pos;split <;> omega
 ·rw [f7] at hq';delta statA at hst;cases hg:a.goal with
  | none =>
   rw [hg] at hst hq';have:a.again=false:=by
    cases ha:a.again with
    | false=>rfl
    | true=>dsimp only at hst2;rw [ha,hg] at hst2;cases hst2
   rw [this];have hq2:q'=q:=(St.inj (hq.symm.trans hq')).symm;subst hq2;dsimp only at hst;rw [hE,Bool.false_or] at hst;cases hp:post a.deed (need q' (some c)) with
   | none=>rw [hp] at hst;cases hst
   | some y =>
    rw [hp] at hst;exact dk_okk (goC_dk a hdk hp) hst
  | some g =>
   rw [hg] at hst hq';have hq2:ofStr g=some q':=by rw [show g=q'.str from hq'];exact Uas q'
   dsimp only at hst;rw [hq2] at hst;dsimp only at hst;cases hp:post a.deed (need q (some c)) with
   | none=>rw [hp] at hst;cases hst
   | some y =>
    rw [hp] at hst;exact dk_okk (goC_dk a hdk hp) hst
end
noncomputable def okSign(c:Str):Prop:=c=""\/∃ n ∈ okL,c=ch n
noncomputable def adv:Nat->PS->Str->PS
 | 0,s,_=>s
 | n+1,s,c=>match ofStr s.state with
  | none=>s
  | some q=>if (act q c).again then adv n (s.goC (act q c) c) c else s.goC (act q c) c
noncomputable def ends:Nat->St->Str->Bool
 | 0,_,_=>false
 | n+1,q,c=>!(act q c).again||(match (act q c).goal with
  | some g=>(match ofStr g with
   | some q'=>ends n q' c
   | none=>true)
  | none=>false)
theorem Urm:(allSt.all fun q=>ends 4 q ""&&okL.all fun n=>ends 4 q (ch n))=true:=by kernel_rfl
theorem Uqk(q:St):allSt[q.ctorIdx]?=some q:=by cases q <;> rfl
theorem Unw(q:St):q ∈ allSt:=List.mem_of_getElem? (Uqk q)
theorem Umf{q:St}{c:Str}(hc:okSign c):ends 4 q c=true:=by
 have h:=List.all_eq_true.mp Urm q (Unw q);rw [Bool.and_eq_true] at h;rcases hc with rfl | ⟨n,hn,rfl⟩
 ·exact h.1
 ·exact List.all_eq_true.mp h.2 n hn
theorem okL_lt:okL.all (fun n=>Nat.blt n 100000)=true:=by kernel_rfl
theorem ok_sg{c:Str}(hc:okSign c):isUpper c=true->c.length=1/\c.cps.getD 0 0+32 < 0x110000:=by
 rcases hc with rfl | ⟨n,hn,rfl⟩
 ·intro h;exact absurd h (by decide)
 ·intro _;have:=Nat.le_of_ble_eq_true (List.all_eq_true.mp okL_lt n hn);exact ⟨rfl,by show n+32 < _;omega⟩
theorem ok_len{c:Str}(hc:okSign c):c.length<=1:=by
 rcases hc with rfl | ⟨n,hn,rfl⟩
 ·exact Nat.zero_le 1
 ·exact Nat.le_refl 1
section
variable {s s':PS}{k n:Nat}{c:Str}{D:PD}
theorem Inv.weak(h:Inv k s none):Inv k s (some c):=⟨h.pos,h.sz,fun q hq=>by
 have:=h.dk q hq;cases q with
 | aftName =>
  show Dk s (if slashy c=true then 1 else 2);split
  ·exact Dk.le this (by decide) (by decide)
  ·exact this
 | _=>exact this⟩
theorem Ute{q:St}(h:Inv k s (some c))(hq:s.state=q.str)(hk:k<=1500)(hc:okSign c)(e:s.cur=c):Fit q s:=by
 obtain ⟨hp,⟨h1,h2,h3⟩,h4⟩:=h;have h4:=h4 q hq;refine ⟨hq,hp,by delta lim;exact om46 hk h1,by delta lim;exact om46 hk h2,by rw [e];exact ok_sg hc,by rw [e];exact ok_len hc,fun hh=>?_,fun n1 n2=>?_⟩
 ·rcases hh with rfl | rfl <;> exact h4
 ·have one:∃ D,s.draft=some D/\(D.kind="start"\/D.kind="end"):=by
   have:1<=need q (some c):=by
    cases q with
    | tagOpen=>exact absurd rfl n1
    | endOpen=>exact absurd rfl n2
    | aftName=>show 1<=(if slashy c=true then 1 else 2);split <;> decide
    | _=>first | exact Nat.le_refl 1 | exact Nat.le_succ 1
   exact h4.le this (Nat.le_refl 1)
  refine xEAA one fun D hd hk'=>?_;refine xAAA (h3 D hd) fun z1 z2 z3=>?_;refine ⟨D,hd,hk',(Nat.lt_of_le_of_lt (Nat.succ_le_succ (Nat.le_trans z2 hk)) (by decide)),by delta lim;exact Nat.lt_of_le_of_lt (Nat.succ_le_succ (Nat.le_trans z1 hk)) (by decide),fun hh=>?_⟩;have two:need q (some c)=2:=by rcases hh with rfl | rfl | rfl | rfl | rfl <;> rfl
  rw [two] at h4;refine xEAAA h4 fun D' hd' w0 hne=>?_;rw [hd] at hd';cases hd';have ha:=Uj2 (f:=fun w0 a=>a) (List.getLast?_eq_some_getLast hne);have hm:=z3 _ (List.getLast_mem hne);exact ⟨_,_,ha,by delta lim;omega,by delta lim;omega⟩
theorem Utp(a:Act)(h:a.again=true)(hg:a.goal.isSome=true):(s.goC a c).cur=s.cur:=by
 refine xAAAAAAA (Ucb s a c) fun f1 f2 f3 f4 f5 f6 f7=>?_;delta PS.cur;rw [f6,f1,h,hg]
 rfl
theorem chain:∀ (n:Nat) (s:PS) (q:St) (k:Nat),s.state=q.str->ends n q c=true->Inv k s (some c)->s.done=false->s.cur=c->(s.closed=true\/s.pos < s.signs.length)->okSign c->k+n<=1500 ->
  ∀ (m:Nat) (s':PS),Runs (adv n s c) m s'->∃ m',m'<=m+n/\Runs s m' s'
 | 0,s,q,k,hq,he,_,_,_,_,_,_=>by cases he
 | n+1,s,q,k,hq,he,hI,hd,hcur,hr,hc,hk=>by
  intro m s' hR;have ho:ofStr s.state=some q:=by rw [hq,Uas]
  have ready:s.ready=true:=by
   delta PS.ready;rw [hd,ho];rcases hr with hr | hr
   ·rw [hr];rfl
   ·rw [decide_eq_true hr,Bool.or_true];rfl
  have hfit:s.fit:=⟨q,Ute hI hq (Nat.le_of_add_right_le hk) hc hcur⟩
  have hstep:s.step=s.goC (act q c) c:=by delta PS.step;rw [ho,<- hcur];rfl
  have hst2:=Uh4 q c;have hinv:(act q c).again=true->Inv (k+1) (s.goC (act q c) c) (some c):=fun ha=>by
   have:=inv_go hI hq (ok_len hc) (.inr ha);rw [if_pos ha] at this;exact this
  rw [adv,ho] at hR;dsimp only at hR;rw [ends] at he;revert hst2 hinv he;have hfacts:=Ucb s (act q c) c;have hcur2:=Utp (s:=s) (c:=c) (act q c);revert hR hstep hfacts hcur2
  generalize act q c=a
  intro hR hstep hfacts hcur2 he hst2 hinv;refine xAAAAAAA hfacts fun f1 f2 f3 f4 f5 f6 f7=>?_;cases ha:a.again with
  | false =>
   rw [ha,if_neg Bool.false_ne_true] at hR;exact ⟨m+1,(om47 hk),.go ready hfit (by rw [hstep];exact hR)⟩
  | true =>
   rw [ha,if_pos rfl] at hR;dsimp only at hst2;rw [ha] at hst2 he;simp only [Bool.not_true,Bool.false_or,Bool.and_eq_true,Bool.not_eq_true'] at hst2 he;refine xEA (Option.isSome_iff_exists.mp hst2.1) fun g hg=>?_;rw [hg] at he f7;have f7:(s.goC a c).state=g:=f7;cases hog:ofStr g with
   | none =>
    have:adv n (s.goC a c) c=s.goC a c:=by
     cases n with
     | zero=>rfl
     | succ n=>rw [adv,f7,hog]
    rw [this] at hR;exact ⟨m+1,(om47 hk),.go ready hfit (by rw [hstep];exact hR)⟩
   | some q' =>
    simp only [hog] at he;obtain ⟨m',hm',hR'⟩:=chain n (s.goC a c) q' (k+1) (by rw [f7];exact Udd hog) he (hinv ha) (by rw [f5,hd,hst2.2];rfl) ((hcur2 ha hst2.1).trans hcur) (by
     rw [f2,f1,f6,ha,hst2.1];exact hr) hc (Nat.le_trans (Nat.le_of_eq (Nat.succ_add _ _)) hk) m s' hR
    exact ⟨m'+1,(Nat.add_le_add_right hm' 1),.go ready hfit (by rw [hstep];exact hR')⟩
theorem Uej:∀ (n:Nat) (s:PS) (c:Str),(adv n s c).signs=s.signs/\(adv n s c).closed=s.closed/\(adv n s c).isret=s.isret/\(adv n s c).serr=s.serr
 | 0,s,c=>⟨rfl,rfl,rfl,rfl⟩
 | n+1,s,c=>by
  rw [adv];cases ofStr s.state with
  | none=>exact ⟨rfl,rfl,rfl,rfl⟩
  | some q =>
   dsimp only;refine xAAAAAAA (Ucb s (act q c) c) fun f1 f2 f3 f4 f5 f6 f7=>?_;split
   ·refine xAAAA (Uej n (s.goC (act q c) c) c) fun g1 g2 g3 g4=>?_;exact ⟨g1.trans f1,g2.trans f2,g3.trans f3,g4.trans f4⟩
   ·exact ⟨f1,f2,f3,f4⟩
theorem Upf:∀ (n:Nat) (s:PS) (q:St) (k:Nat),s.state=q.str->ends n q c=true->Inv k s (some c)->s.done=false->okSign c->c≠"" ->
  (adv n s c).done=false/\Sz (k+n) (adv n s c)/\(ofStr (adv n s c).state=none\/(adv n s c).pos=s.pos+1/\Inv (k+n) (adv n s c) none)
 | 0,s,q,k,hq,he,_,_,_,_=>by cases he
 | n+1,s,q,k,hq,he,hI,hd,hc,hne=>by
  have ho:ofStr s.state=some q:=by rw [hq,Uas]
  have hst2:=Uh4 q c;have hst3:=Ulq q c hne;have hinv:=inv_go hI hq (ok_len hc) (.inl hne);rw [adv,ho];dsimp only;rw [ends] at he;have hfacts:=Ucb s (act q c) c;have hszz:=goC_sz hI.sz (act q c) (ok_len hc);revert hst2 hst3 hinv he hfacts hszz
  generalize act q c=a
  intro he hst2 hst3 hinv hfacts hszz;refine xAAAAAAA hfacts fun f1 f2 f3 f4 f5 f6 f7=>?_;dsimp only at hst3;have hE:a.deed.isEnd=false:=by cases h:a.deed.isEnd with | false=>rfl | true=>rw [h] at hst3;cases hst3
  have hd':(s.goC a c).done=false:=by rw [f5,hd,hE];rfl
  cases ha:a.again with
  | false =>
   rw [ha,if_neg Bool.false_ne_true] at hinv;rw [if_neg Bool.false_ne_true];refine ⟨hd',hszz.mono om13,.inr ⟨by rw [f6,ha];rfl,hinv.pos,hinv.sz.mono om13,hinv.dk⟩⟩
  | true =>
   rw [ha,if_pos rfl] at hinv;rw [if_pos rfl];dsimp only at hst2;rw [ha] at hst2 he;simp only [Bool.not_true,Bool.false_or,Bool.and_eq_true,Bool.not_eq_true'] at hst2 he;refine xEA (Option.isSome_iff_exists.mp hst2.1) fun g hg=>?_;rw [hg] at he f7;have f7:(s.goC a c).state=g:=f7;cases hog:ofStr g with
   | none =>
    have:adv n (s.goC a c) c=s.goC a c:=by
     cases n with
     | zero=>rfl
     | succ n=>rw [adv,f7,hog]
    rw [this];exact ⟨hd',hszz.mono om13,.inl (by rw [f7];exact hog)⟩
   | some q' =>
    simp only [hog] at he;refine xAAA (Upf n (s.goC a c) q' (k+1) (by rw [f7];exact Udd hog) he hinv hd' hc hne) fun r1 r2 r3=>?_;refine ⟨r1,r2.mono om48,r3.imp id fun qq=>xAA qq fun p1 p2=>⟨?_,p2.pos,p2.sz.mono om48,p2.dk⟩⟩;rw [p1,f6,ha,hst2.1];rfl
theorem Ufk(n:Nat)(h:ofStr s.state=none):adv n s c=s:=by
 cases n with
 | zero=>rfl
 | succ n=>rw [adv,h]
theorem Ugl:∀ (l:List Str) (s:PS),ofStr s.state=none->l.foldl (adv 4) s=s
 | [],s,h=>rfl
 | c::l,s,h=>by rw [List.foldl_cons,Ufk 4 h,Ugl l s h]
structure Mid(k:Nat)(s:PS):Prop where
 done:s.done=false
 sz:Sz k s
 at_:ofStr s.state=none\/s.pos=s.signs.length/\Inv k s none
theorem cur_at{pre rest:List Str}(h1:s.signs=pre++c::rest)(h2:s.pos=pre.length):s.cur=c/\s.pos < s.signs.length:=by
 have hl:s.pos < s.signs.length:=by rw [h1,h2];simp;exact Int.lt_add_succ (_) _
 refine ⟨?_,hl⟩;delta PS.cur;rw [if_pos hl,h2,h1];simp
theorem Ukm:∀ (rest pre:List Str) (s:PS) (k:Nat),(ofStr s.state=none\/(s.signs=pre++rest/\s.pos=pre.length/\Inv k s none))->Sz k s->s.done=false->s.closed=false->(∀ c ∈ rest,okSign c/\c≠"")->k+4*rest.length<=1500 ->
  (∃ m,m<=4*rest.length/\Runs s m (rest.foldl (adv 4) s))/\Mid (k+4*rest.length) (rest.foldl (adv 4) s)
 | rest,pre,s,k,.inl hn,hz,hd,hc,hr,hk=>by
  rw [Ugl rest s hn];exact ⟨⟨0,Nat.zero_le _,.stop (by delta PS.ready;rw [hn];simp)⟩,hd,hz.mono (Nat.le_add_right _ _),.inl hn⟩
 | [],pre,s,k,.inr ⟨h1,h2,hI⟩,hz,hd,hc,hr,hk=>by
  rw [List.append_nil] at h1;refine ⟨⟨0,Nat.zero_le _,.stop ?_⟩,hd,hz,.inr ⟨by show s.pos=s.signs.length;rw [h1];exact h2,hI⟩⟩;show s.ready=false;delta PS.ready;rw [hc,h1,h2];simp
 | c::rest,pre,s,k,.inr ⟨h1,h2,hI⟩,hz,hd,hc,hr,hk=>by
  refine xAA (hr c List.mem_cons_self) fun hok hne=>?_;refine xAA (cur_at h1 h2) fun hcur hlt=>?_;rw [List.foldl_cons];rw [List.length_cons] at hk ⊢;cases ho:ofStr s.state with
  | none =>
   rw [Ufk 4 ho,Ugl rest s ho];exact ⟨⟨0,Nat.zero_le _,.stop (by delta PS.ready;rw [ho];simp)⟩,hd,hz.mono (Nat.le_add_right _ _),.inl ho⟩
  | some q =>
   have hq:=Udd ho;refine xAAA (Upf 4 s q k hq (Umf hok) hI.weak hd hok hne) fun a1 a2 a3=>?_;refine xAAAA (Uej 4 s c) fun b1 b2 b3 b4=>?_;refine xAA (Ukm rest (pre++[c]) (adv 4 s c) (k+4) (a3.imp id fun ⟨p1,p2⟩=>⟨by rw [b1,h1];simp,by rw [p1,h2];simp,p2⟩) a2 a1 (b2.trans hc) (fun x m=>hr x (List.mem_cons_of_mem _ m)) (Nat.le_trans (Nat.le_of_eq (Nat.add_right_comm _ 4 (4*_))) hk)) fun qz1 hM=>?_;obtain ⟨m,hm,hR⟩:=qz1;refine xEAA (chain 4 s q k hq (Umf hok) hI.weak hd hcur (.inr hlt) hok (Nat.le_trans (Nat.add_le_add_left (Nat.le_add_left 4 (4*_)) _) hk) m _ hR) fun m' hm' hR'=>?_;refine ⟨⟨m',(Nat.le_trans hm' (Nat.add_le_add_right hm 4)),hR'⟩,?_⟩;rw [show k+4*(rest.length+1)=k+4+4*rest.length by omega];exact hM
theorem Un4(h:Mid k s)(hc:s.closed=false)(x:Str)(hx:∀ c ∈ feedL s.isret x.cps.toList,okSign c/\c≠"")(hk:k+4*(feedL s.isret x.cps.toList).length<=1500) :
  (∃ m,m<=4*(feedL s.isret x.cps.toList).length/\Runs (s.feed x) m ((feedL s.isret x.cps.toList).foldl (adv 4) (s.feed x)))/\Mid (k+4*(feedL s.isret x.cps.toList).length) ((feedL s.isret x.cps.toList).foldl (adv 4) (s.feed x)):=by
 refine Ukm (feedL s.isret x.cps.toList) s.signs (s.feed x) k (h.at_.imp id fun qq=>xAA qq fun h1 h2=>⟨rfl,h1,h2.pos,⟨h2.sz.out,h2.sz.errs,h2.sz.dr⟩,fun q hq=>?_⟩) ⟨h.sz.out,h.sz.errs,h.sz.dr⟩ h.done hc hx hk;have:=h2.dk q hq;revert this
 generalize need q none=x
 intro this
 match x,this with
 | 0,h=>exact h
 | 1,h=>exact h
 | x+2,h=>exact h
end
section
section
variable {p:Params}{O O' O₁:Store}{n d:Nat}{Q:V->Store->Prop}{k:V->M Fl}
theorem Upn{o:V}{elt:V->M V}{test:V->M Bool}(f:V->Option V)(items:List V)(hd:∀ k,k<=items.length->drawV o k O=some items[k]?)
  (ht:∀ v ∈ items,(f v=Option.none/\test v O=some (false,O))\/∃ w,f v=some w/\test v O=some (true,O)/\elt v O=some (w,O)) :
  ∀ (rest pre:List V) (n:Nat) (acc:List V),items=pre++rest->rest.length < n->acc.length+rest.length < lim->compK o elt test n pre.length acc O=some (.lst (acc++rest.filterMap f),O)
 | [],pre,0,acc,h,hn,hl=>absurd hn (Nat.not_lt_zero _)
 | c::r,pre,0,acc,h,hn,hl=>absurd hn (Nat.not_lt_zero _)
 | [],pre,n+1,acc,h,hn,hl=>by
  rw [compK];have e:=hd pre.length (by rw [h];simp);rw [bnd_of (a:=none) (O₁:=O) (by delta look;rw [e,h];simp)];simp [ret]
 | c::r,pre,n+1,acc,h,hn,hl=>by
  rw [compK];have e:=hd pre.length (by rw [h];simp);rw [bnd_of (a:=some c) (O₁:=O) (by delta look;rw [e,h];simp)];have ih:=fun acc' hl'=>Upn f items hd ht r (pre++[c]) n acc' (by rw [h];simp) (by rw [List.length_cons] at hn;omega) hl';rw [List.length_append,List.length_singleton] at ih;rw [List.length_cons] at hl;rcases ht c (by rw [h];simp) with ⟨h1,h2⟩ | ⟨w,h1,h2,h3⟩
  ·show (bnd (test c) fun b=>if b=true then bnd (elt c) (fun w=>if acc.length < lim then compK o elt test n (pre.length+1) (acc++[w]) else fail) else compK o elt test n (pre.length+1) acc) O=_;rw [bnd_of h2,if_neg Bool.false_ne_true,ih acc (by omega),List.filterMap_cons,h1]
  ·show (bnd (test c) fun b=>if b=true then bnd (elt c) (fun w=>if acc.length < lim then compK o elt test n (pre.length+1) (acc++[w]) else fail) else compK o elt test n (pre.length+1) acc) O=_;rw [bnd_of h2,if_pos rfl,bnd_of h3,if_pos (by omega),ih (acc++[w]) (by simp;omega),List.filterMap_cons,h1];simp
theorem Uoz{o:V}{elt:V->M V}{test:V->M Bool}(f:V->Option V)(items:List V)(hd:∀ k,k<=items.length->drawV o k O=some items[k]?)
  (ht:∀ v ∈ items,(f v=Option.none/\test v O=some (false,O))\/∃ w,f v=some w/\test v O=some (true,O)/\elt v O=some (w,O)) (hl:items.length < 200) :
  compK o elt test 200 0 [] O=some (.lst (items.filterMap f),O):=by
 have:=Upn f items hd ht items [] 200 [] rfl hl (by delta lim;simp;omega)
 simpa using this
theorem Uhh{a b:Int}{k:Nat}:drawV (.rng a b 1) k O=some (if a+(k:Int)*1 < b then some (.int (a+(k:Int)*1)) else none):=by
 show (if (0:Int) < 1 then some (if a+(k:Int)*1 < b then some (V.int (a+(k:Int)*1)) else none) else none)=_;rw [if_pos (by decide)]
theorem Uqr{vs:List V}(k:Nat):drawV (.lst vs) k O=some vs[k]?:=rfl
theorem ext_of{c:CC}{r i:Nat}{vs ws:List V}{v:V}(h:O.get r i=some (.list vs))(hv:asList O v=some ws)(hl:vs.length+ws.length < lim):methodV c (.bi .extend) (.ref r i) [v] O=some (.none,O.put r i (.list (vs++ws))):=by
 show ob (lref O (.ref r i)) (fun z=>ob (asList O v) _ _) _=_;rw [Uf6 h];show ob (asList O v) _ _=_;rw [hv];exact if_pos hl
theorem RF.ext{r i:Nat}{vs:List V}{k:MK->M Fl}{Q:V->Store->Prop}(h:O.get r i=some (.list vs))(g:RF (k (.bi .extend)) O Q) :
  RF (bnd (look (methK (P p) (.ref r i) (Y "extend"))) fun m=>if isRepl m then fail else k m) O Q:=RF.ml h (by kernel_rfl) (by decide) g
theorem RF.upd{r i:Nat}{es:List (Str×V)}{k:MK->M Fl}{Q:V->Store->Prop}(h:O.get r i=some (.dict es))(g:RF (k (.bi .update)) O Q) :
  RF (bnd (look (methK (P p) (.ref r i) (Y "update"))) fun m=>if isRepl m then fail else k m) O Q:=RF.md h (by kernel_rfl) (by decide) g
theorem upd_of{c:CC}{r i r' i':Nat}{es fs es':List (Str×V)}(h:O.get r i=some (.dict es))(h':O.get r' i'=some (.dict fs))(hl:es.length+fs.length < lim)(hn:r≠r'\/i≠i')(he:updD es fs=es') :
  methodV c (.bi .update) (.ref r i) [.ref r' i'] O=some (.none,O.put r i (.dict es')):=by
 show ob (dref O (.ref r i)) (fun z=>ob (dref O (.ref r' i')) _ _) _=_;rw [Uhk h];show ob (dref O (.ref r' i')) _ _=_;rw [Uhk h',<- he];exact if_pos ⟨hl,hn⟩
theorem get_of{c:CC}{r i:Nat}{es:List (Str×V)}{x:Str}{v w:V}(h:O.get r i=some (.dict es))(hw:(lk x es).getD v=w):methodV c (.bi .get) (.ref r i) [.str x,v] O=some (w,O):=by
 show ob (dref O (.ref r i)) _ _=_;rw [Uhk h,<- hw];rfl
theorem Uj1{o:V}{vs:List V}{k:Nat}{v:V}(h:asSeq O o=some vs)(hs:∀ s,o≠.str s)(hk:vs[k]?=some v):itemV o (.int k) O=some v:=Uhe h hs (Int.natCast_nonneg _) (by simpa using hk)
theorem RF.nd{r:Nat}{es:List (Str×V)}(hlen:O.length=24)(hr:r < 24)(g:∀ i,(O.add r (.dict es)).get r i=some (.dict es)->(∀ r' i' o,O.get r' i'=some o->(O.add r (.dict es)).get r' i'=some o)->(∃ l,O[r]?=some l/\i=l.length)->RF (k (.ref r i)) (O.add r (.dict es)) Q):RF (bnd (newD r es) k) O Q:=by
 refine xEA (reg_of hlen hr) fun l hl=>?_;exact RF.b (Uji hl) (g l.length (Ua0 hl) (fun r' i' o e=>Ub5 hl e) ⟨l,hl,rfl⟩)
end
end
section
section
variable {p:Params}{O O' O₁:Store}{n d:Nat}{Q:V->Store->Prop}{k:V->M Fl}{ν:Nf}{kd:Str}{cl:Bool}{ws ts:List V}{s:PS}{D:PD}
end
end
section
section
variable {p:Params}{O O' O₁:Store}{n d:Nat}{Q:V->Store->Prop}{k:V->M Fl}{ν:Nf}{kd:Str}{cl:Bool}{ws ts:List V}{s:PS}{D:PD}{A B:M Fl}
theorem RF.ct{a b:M Fl}(h:RF a O Q):RF (cond true a b) O Q:=h
theorem RF.cf{a b:M Fl}(h:RF b O Q):RF (cond false a b) O Q:=h
end
end
section
variable {O:Store}
end
section
theorem Uiw(n k:Nat):clipAt n (k:Int)=min k n:=by
 delta clipAt;rw [if_neg (by omega)]
 omega
theorem Ure{α:Type}{l:List α}{n a:Nat}(h:l.length<=n):l.drop (min a n)=l.drop a:=by
 rcases Nat.le_total a n with q | q
 ·rw [Nat.min_eq_left q]
 ·rw [Nat.min_eq_right q,List.drop_eq_nil_of_le h,List.drop_eq_nil_of_le (Nat.le_trans h q)]
theorem Umc{α:Type}{l:List α}{b:Nat}:l.take (min b l.length)=l.take b:=by
 rcases Nat.le_total b l.length with q | q
 ·rw [Nat.min_eq_left q]
 ·rw [Nat.min_eq_right q,List.take_length,List.take_of_length_le q]
theorem Uni{α:Type}(a b:Nat)(l:List α)(h:a<=b):sliceL (some (a:Int)) (some (b:Int)) l=(l.drop a).take (b - a):=by
 show (l.drop (clipAt l.length a)).take (clipAt l.length b - clipAt l.length a)=_;rw [Uiw,Uiw,<- List.drop_take,<- List.drop_take,Umc,Ure (Nat.le_trans (Nat.le_of_eq List.length_take) (Nat.min_le_right _ _))]
theorem Uri{α:Type}(b:Nat)(l:List α):sliceL none (some (b:Int)) l=l.take b:=by
 show (l.drop 0).take (clipAt l.length b - 0)=_;rw [Uiw,Nat.sub_zero,List.drop_zero,Umc]
section
variable {p:Params}{O O' O₁:Store}{n d:Nat}{x:Str}
theorem Unb(l:List Nat):strsOf (l.map fun c=>V.str (ch c))=some (l.map ch):=by
 induction l with
 | nil=>rfl
 | cons a r ih=>exact ob_of (f:=fun ds=>some (ch a::ds)) (z:=none) ih
end
end
section
structure Grow(O O':Store):Prop where
 len:O'.length=O.length
 keep:∀ r i o,O.get r i=some o->O'.get r i=some o
section
variable {p:Params}{O O' O₁ O0:Store}{n d i:Nat}{x:Str}{Q:V->Store->Prop}{k:V->M Fl}{vs ws:List V}{v:V}{c:CC}
theorem Grow.rfl:Grow O O:=⟨Eq.refl _,fun w0 w0 w0 h=>h⟩
theorem Grow.trans{a b c:Store}(x:Grow a b)(y:Grow b c):Grow a c:=⟨y.len.trans x.len,fun r i o h=>y.keep r i o (x.keep r i o h)⟩
theorem Usq{a b:V}{us vs:List V}(ha:asList O a=some us)(hb:asList O b=some vs)(h1:∀ s,a≠.str s)(h2:∀ i,a≠.int i)(hl:us.length+vs.length<=lim):binV .Add a b O=some (.lst (us++vs)):=by
 have e:ob2 (asList O) a b (fun x y=>if x.length+y.length<=lim then some (.lst (x++y)) else none) none=some (V.lst (us++vs)):=(ob_of ha).trans ((ob_of hb).trans (if_pos hl));cases a with
 | str s=>exact absurd rfl (h1 s)
 | int i=>exact absurd rfl (h2 i)
 | _=>exact e
end
end
section
theorem Ui9{O:Store}{n:Nat}{vs:List V}{ds:List PyData}(h:toDs O n vs=some ds):toD O (n+1) (.lst vs)=some (.list ds):=ob_of (f:=fun ds=>some (PyData.list ds)) (z:=Option.none) h
theorem Ulg{O:Store}{n:Nat}{vs:List V}{ds:List PyData}(h:toDs O n vs=some ds):toD O (n+1) (.tup vs)=some (.tuple ds):=ob_of (f:=fun ds=>some (PyData.tuple ds)) (z:=Option.none) h
theorem Ugc{O:Store}{n r i:Nat}{vs:List V}{ds:List PyData}(ho:O.get r i=some (.list vs))(h:toDs O n vs=some ds):toD O (n+1) (.ref r i)=some (.list ds) :=
 (ob_of (f:=fun vs=>ob (toDs O n vs) (fun ds=>some (PyData.list ds)) Option.none) (asl_of ho)).trans (ob_of h)
theorem Ubh{O:Store}{n:Nat}{v:V}{d:PyData}{r:List V}{ds:List PyData}(h:toD O n v=some d)(g:toDs O n r=some ds):toDs O n (v::r)=some (d::ds):=(ob_of h).trans (ob_of (f:=fun ds=>some (d::ds)) g)
theorem eqG_of{O:Store}{a b:V}{x y:PyData}(h:toD O 8 a=some x)(g:toD O 8 b=some y):eqG O a b=some (PyData.eqv x y):=(ob_of h).trans (ob_of g)
theorem Ui8:∀ {v:V} {d:PyData},scal v=some d->PyData.eqv d d=true
 | .none,_,e=>by cases e;simp [PyData.eqv]
 | .bool _,_,e=>by cases e;simp [PyData.eqv]
 | .int _,_,e=>by cases e;simp [PyData.eqv]
 | .str _,_,e=>by cases e;simp [PyData.eqv]
 | .tup _,_,e=>by cases e
 | .lst _,_,e=>by cases e
 | .rng _ _ _,_,e=>by cases e
 | .ref _ _,_,e=>by cases e
 | .fn _,_,e=>by cases e
 | .bi _,_,e=>by cases e
theorem Ui2{f:V->Option PyData}(h:∀ v d,f v=some d->PyData.eqv d d=true):∀ vs ds,allO f vs=some ds->PyData.eqvAll ds ds=true
 | [],_,e=>by cases e;simp [PyData.eqvAll]
 | v::r,ds,e=>obS e fun d hv e'=>obS e' fun ds' hr e''=>by
  cases e'';rw [PyData.eqvAll,h v d hv,Ui2 h r ds' hr];rfl
theorem Uh5(O:Store):∀ (n:Nat) (v:V) (d:PyData),toD O n v=some d->PyData.eqv d d=true
 | 0,_,_,e=>Ui8 e
 | n+1,v,d,e=>by
  have e:ob (tupO v) (fun vs=>ob (allO (toD O n) vs) (fun ds=>some (.tuple ds)) none) (ob (asList O v) (fun vs=>ob (allO (toD O n) vs) (fun ds=>some (.list ds)) none) (scal v))=some d:=e;cases ht:tupO v with
  | some vs =>
   rw [ht] at e;exact obS e fun ds hs e'=>by cases e';rw [PyData.eqv];exact Ui2 (Uh5 O n) _ _ hs
  | none =>
   rw [ht] at e;have e:ob (asList O v) (fun vs=>ob (allO (toD O n) vs) (fun ds=>some (.list ds)) none) (scal v)=some d:=e;cases hl:asList O v with
   | some vs =>
    rw [hl] at e;exact obS e fun ds hs e'=>by cases e';rw [PyData.eqv];exact Ui2 (Uh5 O n) _ _ hs
   | none=>rw [hl] at e;exact Ui8 e
noncomputable def Pl(n:Nat)(v:V):Prop:=∀ O,∃ d,toD O n v=some d
theorem Pl.sc{v:V}{d:PyData}(ht:tupO v=none)(hl:∀ O,asList O v=none)(h:scal v=some d):∀ {n:Nat},Pl n v
 | 0=>fun w0=>⟨d,h⟩
 | _+1=>fun O=>⟨d,(ob_no ht).trans ((ob_no (hl O)).trans h)⟩
theorem Pl.none{n:Nat}:Pl n .none:=Pl.sc rfl (fun w0=>rfl) rfl
theorem Pl.bool{n:Nat}{b:Bool}:Pl n (.bool b):=Pl.sc rfl (fun w0=>rfl) rfl
theorem Pl.int{n:Nat}{b:Int}:Pl n (.int b):=Pl.sc rfl (fun w0=>rfl) rfl
theorem Pl.str{n:Nat}{b:Str}:Pl n (.str b):=Pl.sc rfl (fun w0=>rfl) rfl
theorem Ukl{n:Nat}{vs:List V}(h:∀ v ∈ vs,Pl n v)(O:Store):∃ ds,toDs O n vs=some ds:=by
 induction vs with
 | nil=>exact ⟨_,rfl⟩
 | cons v r ih =>
  refine xEA (h v List.mem_cons_self O) fun d hd=>?_;refine xEA (ih fun u m=>h u (List.mem_cons_of_mem _ m)) fun ds hds=>?_;exact ⟨d::ds,Ubh hd hds⟩
theorem Pl.tup{n:Nat}{vs:List V}(h:∀ v ∈ vs,Pl n v):Pl (n+1) (.tup vs):=fun O=>by
 refine xEA (Ukl h O) fun ds hd=>?_;exact ⟨_,Ulg hd⟩
noncomputable def Ov(s:PS):Prop:=(∀ v ∈ s.out,Pl 6 v)/\∀ v ∈ s.errs,Pl 6 v
theorem pl_tok(D:PD):Pl 6 D.tok:=by
 delta PD.tok;split
 ·exact Pl.tup fun v h=>by simp at h;rcases h with rfl | rfl <;> exact Pl.str
 ·refine Pl.tup fun v h=>?_;simp at h;rcases h with rfl | rfl | rfl | rfl
  ·exact Pl.str
  ·exact Pl.str
  ·refine Pl.tup fun v h=>?_;unfold kept at h;refine xEAA (List.mem_map.mp h) fun a w0 qz1=>?_;subst qz1;exact Pl.tup fun v h=>by simp at h;rcases h with rfl | rfl <;> exact Pl.str
  ·exact Pl.bool
theorem pl_err(c:Str)(k:Int):Pl 6 (errV c k):=Pl.tup fun v h=>by simp at h;rcases h with rfl | rfl;exact Pl.str;exact Pl.int
theorem pl_ch(c:Str):Pl 6 (chV c):=Pl.tup fun v h=>by simp at h;rcases h with rfl | rfl <;> exact Pl.str
theorem pl_eof:Pl 6 eofV:=Pl.tup fun v h=>by simp at h;rw [h];exact Pl.str
theorem Ubn{l:List V}{v:V}(h:∀ v ∈ l,Pl 6 v)(hv:Pl 6 v):∀ u ∈ l++[v],Pl 6 u:=fun u m=>by
 rcases List.mem_append.mp m with m | m
 ·exact h u m
 ·rw [List.mem_singleton] at m;rw [m];exact hv
section
variable {s:PS}{c:Str}{k:Nat}
theorem Uor(h:Ov s):Ov s.emitDraft:=by
 delta PS.emitDraft;cases s.draft with
 | none=>exact h
 | some D =>
  refine ⟨Ubn h.1 (pl_tok D),?_⟩;dsimp only;split
  ·refine Ubn ?_ (pl_err _ _);split
   ·exact Ubn h.2 (pl_err _ _)
   ·exact h.2
  ·split
   ·exact Ubn h.2 (pl_err _ _)
   ·exact h.2
theorem Uou(h:Ov s)(d:Deed):Ov (s.deed d c):=by
 have lst:∀ f,Ov (s.last' f):=fun f=>⟨by rw [Ubq.1];exact h.1,by rw [Ubq.2];exact h.2⟩
 have new:Ov s.newAttr:=by delta PS.newAttr;cases s.draft <;> exact h
 cases d with
 | none=>exact h
 | start=>exact h
 | end_=>exact h
 | comment=>exact h
 | lost =>
  show Ov (if (s.state==Qba)=true then _ else _:PS).eof;split
  ·exact ⟨Ubn (Ubn h.1 (pl_ch _)) pl_eof,h.2⟩
  ·exact ⟨Ubn (Ubn (Ubn h.1 (pl_ch _)) (pl_ch _)) pl_eof,h.2⟩
 | lone=>exact ⟨Ubn h.1 (pl_ch _),h.2⟩
 | give=>exact Uor h
 | close =>
  have:Ov s.closeIt:=by delta PS.closeIt;cases s.draft <;> exact h
  exact Uor this
 | put =>
  show Ov (if (s.state==Qai)=true then _ else if (s.state==Qaj)=true then _ else _:PS);split
  ·delta PS.tagName;cases s.draft <;> exact h
  ·split <;> exact lst _
 | quit=>exact ⟨Ubn h.1 pl_eof,h.2⟩
 | new=>exact new
 | first=>exact ⟨by show ∀ v ∈ (s.newAttr.last' _).out,_;rw [Ubq.1];exact new.1,by show ∀ v ∈ (s.newAttr.last' _).errs,_;rw [Ubq.2];exact new.2⟩
 | check =>
  show Ov s.check;delta PS.check;split
  ·exact ⟨(lst _).1,Ubn (lst _).2 (pl_err _ _)⟩
  ·exact h
 | refer=>exact h
theorem ov_go(h:Ov s)(a:Act):Ov (s.goC a c):=by
 obtain ⟨err,deed,goal,again⟩:=a;have key:∀ s2:PS,Ov s2->Ov (s2.goto goal again):=by
  intro s2 h2;delta PS.goto;cases goal with
  | none=>exact h2
  | some g=>cases again <;> exact h2
 cases err with
 | none=>exact key (s.nxt.deed deed c) (Uou (s:=s.nxt) h deed)
 | some e=>exact key ((s.nxt.error e).deed deed c) (Uou (s:=s.nxt.error e) ⟨h.1,Ubn h.2 (pl_err _ _)⟩ deed)
theorem ov_adv:∀ (n:Nat) (s:PS),Ov s->Ov (adv n s c)
 | 0,s,h=>h
 | n+1,s,h=>by
  rw [adv];cases ofStr s.state with
  | none=>exact h
  | some q =>
   dsimp only;split
   ·exact ov_adv n _ (ov_go h _)
   ·exact ov_go h _
noncomputable def PS.wi(s:PS)(l:List Str)(cl ir:Bool):PS:={ s with signs:=l,closed:=cl,isret:=ir }
theorem Ujq(l:List Str)(cl ir:Bool)(f:List PA->PA->PA):(s.wi l cl ir).last' f=(s.last' f).wi l cl ir:=by
 delta PS.last';show (match s.draft with | some D=>_ | none=>_)=_;cases s.draft with
 | none=>rfl
 | some D=>dsimp only;cases D.attrs.getLast? <;> rfl
theorem Uol(l:List Str)(cl ir:Bool):(s.wi l cl ir).emitDraft=s.emitDraft.wi l cl ir:=by
 obtain ⟨pos,state,back,last,out,errs,draft,done,signs,closed,isret,serr⟩:=s;cases draft <;> rfl
theorem wi_new(l:List Str)(cl ir:Bool):(s.wi l cl ir).newAttr=s.newAttr.wi l cl ir:=by
 obtain ⟨pos,state,back,last,out,errs,draft,done,signs,closed,isret,serr⟩:=s;cases draft <;> rfl
theorem Upc(l:List Str)(cl ir:Bool)(d:Deed):(s.wi l cl ir).deed d c=(s.deed d c).wi l cl ir:=by
 cases d with
 | none=>rfl
 | start=>rfl
 | end_=>rfl
 | comment=>rfl
 | lost =>
  show (if (s.state==Qba)=true then _ else _:PS).eof=(if (s.state==Qba)=true then _ else _:PS).eof.wi l cl ir;split <;> rfl
 | lone=>rfl
 | give=>exact Uol l cl ir
 | close =>
  show (s.wi l cl ir).closeIt.emitDraft=s.closeIt.emitDraft.wi l cl ir;rw [<- Uol]
  congr 1
  obtain ⟨pos,state,back,last,out,errs,draft,done,signs,closed,isret,serr⟩:=s;cases draft <;> rfl
 | put =>
  show (if (s.state==Qai)=true then _ else if (s.state==Qaj)=true then _ else _:PS)=(if (s.state==Qai)=true then _ else if (s.state==Qaj)=true then _ else _:PS).wi l cl ir;split
  ·obtain ⟨pos,state,back,last,out,errs,draft,done,signs,closed,isret,serr⟩:=s;cases draft <;> rfl
  ·split
   ·exact Ujq l cl ir _
   ·exact Ujq l cl ir _
 | quit=>rfl
 | new=>exact wi_new l cl ir
 | first =>
  show (s.wi l cl ir).newAttr.addName c=(s.newAttr.addName c).wi l cl ir;rw [wi_new];exact Ujq l cl ir _
 | check =>
  show (s.wi l cl ir).check=s.check.wi l cl ir;delta PS.check;have e:(s.wi l cl ir).isTold=s.isTold:=rfl;rw [e];split
  ·rw [Ujq];rfl
  ·rfl
 | refer=>rfl
theorem wi_go(l:List Str)(cl ir:Bool)(a:Act):(s.wi l cl ir).goC a c=(s.goC a c).wi l cl ir:=by
 obtain ⟨err,deed,goal,again⟩:=a;have key:∀ s2:PS,(s2.wi l cl ir).goto goal again=(s2.goto goal again).wi l cl ir:=by
  intro s2;cases goal with
  | none=>rfl
  | some g=>cases again <;> rfl
 cases err with
 | none =>
  show ((s.nxt.wi l cl ir).deed deed c).goto goal again=((s.nxt.deed deed c).goto goal again).wi l cl ir;rw [Upc,key]
 | some e =>
  show (((s.nxt.error e).wi l cl ir).deed deed c).goto goal again=(((s.nxt.error e).deed deed c).goto goal again).wi l cl ir;rw [Upc,key]
theorem wi_adv(l:List Str)(cl ir:Bool):∀ (n:Nat) (s:PS),adv n (s.wi l cl ir) c=(adv n s c).wi l cl ir
 | 0,s=>rfl
 | n+1,s=>by
  rw [adv,adv,show (s.wi l cl ir).state=s.state from rfl];cases ofStr s.state with
  | none=>rfl
  | some q =>
   dsimp only;rw [wi_go];split
   ·exact wi_adv l cl ir n _
   ·rfl
theorem Uo5(l:List Str)(cl ir:Bool):∀ (cs:List Str) (s:PS),cs.foldl (adv 4) (s.wi l cl ir)=(cs.foldl (adv 4) s).wi l cl ir
 | [],s=>rfl
 | c::r,s=>by rw [List.foldl_cons,List.foldl_cons,wi_adv,Uo5]
end
end
section
section
variable {p:Params}{O O' O₁:Store}{n d tb j k:Nat}{s x:PS}{l:List Str}{cl ir:Bool}
theorem Sz.wi(h:Sz k s):Sz k (s.wi l cl ir):=⟨h.out,h.errs,h.dr⟩
theorem Inv.wi{c:Option Str}(h:Inv k s c):Inv k (s.wi l cl ir) c:=⟨h.pos,h.sz.wi,fun q hq=>by
 have:=h.dk q hq;revert this
 generalize need q c=x
 intro this
 match x,this with
 | 0,h=>exact h
 | 1,h=>exact h
 | x+2,h=>exact h⟩
end
end
section
section
variable {p:Params}{O O' O₁:Store}{n d tb j k sn:Nat}{s s0:PS}{cs:List Nat}{x y text:Str}{τ:Rf}{Q:Fl->Store->Prop}
theorem Uoc(x y:Str):(x++y).cps.toList=x.cps.toList++y.cps.toList:=by show (x.cps++y.cps).toList=_;rw [Array.toList_append]
theorem Unm(x:Str):x.cps.toList.length=x.length:=by rfl
end
end
section
section
variable {p:Params}{O O' O₁:Store}{n d tb j k sn:Nat}{s s0:PS}{cs:List Nat}{x y text:Str}{τ:Rf}{Q:Fl->Store->Prop}{A B:M Fl}
end
end
section
section
variable {p:Params}{O O' O₁:Store}{n d tb j k sn sd:Nat}{s s0 fin:PS}{cs:List Nat}{x y text:Str}{τ:Rf}{Q:V->Store->Prop}{K:V->M Fl}
end
end
noncomputable def bls:List Nat:=[32,10,9,12]
noncomputable def nStop:List Nat:=[32,10,9,12,47,62,61]
noncomputable def nOdd:List Nat:=[34,39,60]
noncomputable def nWhy:Str:="unexpected-character-in-attribute-name"
noncomputable def vOdd:List Nat:=[34,39,60,61,96]
noncomputable def vWhy:Str:="unexpected-character-in-unquoted-attribute-value"
noncomputable def ofC(l:List Nat):Str:=⟨l.toArray⟩
noncomputable def repC(c:Nat):Nat:=if c=0 then 0xFFFD else c
noncomputable def lowC(c:Nat):Nat:=if c=0 then 0xFFFD else if 65<=c/\c<=90 then c+32 else c
noncomputable def tk1(odd:List Nat)(why:Str)(n:Int)(c:Nat):List V:=if c=0 then [errV "unexpected-null-character" n] else if c ∈ odd then [errV why n] else []
noncomputable def tk(odd:List Nat)(why:Str):Int->List Nat->List V
 | _,[]=>[]
 | n,c::r=>tk1 odd why n c++tk odd why (n+1) r
noncomputable def ms(B:PD)(la:Str)(n:Int)(st:Str)(E:List V)(A:List PA):PS:=⟨n,st,"data",la,[],E,some { B with attrs:=A },false,[],false,false,[]⟩
theorem Ul9(a b:Nat):strLt (ch a) (ch b)=decide (a < b):=by 
 by_cases h:a < b
 ·rw [decide_eq_true h];exact decide_eq_true (List.cons_lt_cons_iff.mpr (.inl h))
 ·rw [decide_eq_false h];exact decide_eq_false fun e=>(List.cons_lt_cons_iff.mp e).elim h fun qq=>xAA qq fun w0 e=>absurd e (List.not_lt_nil _)
theorem up_ch(c:Nat):isUpper (ch c)=decide (65<=c/\c<=90):=by
 have e1:Qav=ch 65:=rfl;have e2:Qbk=ch 90:=rfl;delta isUpper;rw [e1,e2,Ul9,Ul9]
 by_cases h1:c < 65
 ·simp [h1];omega
 ·by_cases h2:90 < c
  ·simp [h1,h2]
  ·simp [h1,h2];omega
theorem low_ch(c:Nat):(if ch c==Qab then Qaz else lowerS (ch c))=ch (lowC c):=by
 have e0:Qab=ch 0:=rfl;rw [e0,Uau];delta lowC
 by_cases h:c=0
 ·subst h;rfl
 ·rw [if_neg (by simpa using h),if_neg h];delta lowerS;rw [up_ch]
  by_cases h2:65<=c/\c<=90
  ·rw [if_pos (by simpa using h2),if_pos h2];rfl
  ·rw [if_neg (by simpa using h2),if_neg h2]
theorem rep_ch(c:Nat):repl (ch c)=ch (repC c):=by
 have e0:Qab=ch 0:=rfl;delta repl;rw [e0,Uau];delta repC
 by_cases h:c=0
 ·subst h;rfl
 ·rw [if_neg (by simpa using h),if_neg h]
theorem any_ch(l:List Nat)(c:Nat):(l.map ch).any (·==ch c)=decide (c ∈ l):=by
 rw [List.any_map];rw [Bool.eq_iff_iff];simp only [List.any_eq_true,Function.comp,Uau,beq_iff_eq,decide_eq_true_iff];constructor
 ·rintro ⟨x,h,rfl⟩;exact h
 ·intro h;exact ⟨c,h,rfl⟩
theorem Ubt(c:Nat):isBlank (ch c)=decide (c ∈ bls):=by
 have:isBlank (ch c)=([9,10,12,32].map ch).any (·==ch c):=rfl;rw [this,any_ch];exact decide_eq_decide.mpr (List.Perm.mem_iff (List.isPerm_iff.mp rfl))
theorem nsub{c:Nat}{l m:List Nat}(e:l.all (m.contains ·)=true)(h:c ∉ m):c ∉ l:=fun q=>h (List.contains_iff_mem.mp (List.all_eq_true.mp e c q))
theorem nne{c k:Nat}{m:List Nat}(e:m.contains k=true)(h:c ∉ m):c≠k:=fun q=>h (q▸List.contains_iff_mem.mp e)
theorem dn{c:Nat}{l:List Nat}(h:c ∉ l):¬ (decide (c ∈ l)=true):=fun q=>h (of_decide_eq_true q)
theorem dy{c:Nat}{l:List Nat}(h:c ∈ l):decide (c ∈ l)=true:=decide_eq_true h
theorem ch_ne(c:Nat):(ch c==Qt)=false:=by
 apply beq_eq_false_iff_ne.mpr;intro e;have e2:(1:Nat)=0:=congrArg Str.length e;exact absurd e2 (by decide)
theorem sl_ch(c:Nat):[Qy,">",""].any (·==ch c)=decide (c=47\/c=62):=by
 have e:[Qy,">",""].any (·==ch c)=(ch 47==ch c||(ch 62==ch c||(Qt==ch c||false))):=rfl;have e2:(Qt==ch c)=false:=by rw [Bool.beq_comm];exact ch_ne c
 rw [e,e2,Uau,Uau];rw [Bool.eq_iff_iff];simp
 omega
section
variable {B:PD}{la:Str}{n:Int}{c m:Nat}{q:St}{E:List V}{A:List PA}{x:PA}{s:PS}{st g e:Str}
theorem Uki(c:Str):∀ (k:Nat) (s:PS) (q:St),s.state=q.str->ends k q c=true->adv k s c=adv (k+1) s c
 | 0,s,q,hq,h=>by cases h
 | k+1,s,q,hq,h=>by
  rw [adv.eq_def (k+1+1),adv.eq_def (k+1)];dsimp only;rw [hq,Uas];dsimp only;unfold ends at h;cases ha:(act q c).again with
  | false=>rfl
  | true =>
   rw [ha] at h;rw [if_pos rfl,if_pos rfl];cases hg:(act q c).goal with
   | none=>rw [hg] at h;cases h
   | some g =>
    rw [hg] at h;have hs:(s.goC (act q c) c).state=g:=by rw [(Ucb s (act q c) c).2.2.2.2.2.2,hg];rfl
    cases ho:ofStr g with
    | none=>rw [Ufk _ (by rw [hs];exact ho),Ufk _ (by rw [hs];exact ho)]
    | some q' =>
     have h:(match ofStr g with | some q'=>ends k q' c | none=>true)=true:=h;rw [ho] at h;exact Uki c k _ q' (by rw [hs];exact Udd ho) h
theorem st_on{c:Str}(hc:okSign c)(hq:s.state=q.str)(h:(act q c).again=true):adv 4 s c=adv 4 (s.goC (act q c) c) c:=by
 rw [Uki c 4 s q hq (Umf hc),adv,hq,Uas];dsimp only;rw [h];rfl
theorem st_to{c:Str}(hq:s.state=q.str)(h:(act q c).again=false):adv 4 s c=s.goC (act q c) c:=by
 rw [adv,hq,Uas];dsimp only;rw [h];rfl
theorem g_on{c:Str}:(ms B la n st E A).goC ⟨none,.none,some g,true⟩ c=ms B la n g E A:=by
 show ms B la (n+1 - 1) g E A=_;rw [Int.add_sub_cancel]
theorem g_eon{c:Str}:(ms B la n st E A).goC ⟨some e,.none,some g,true⟩ c=ms B la n g (E++[errV e n]) A:=by
 show ms B la (n+1 - 1) g (E++[errV e (n+1 - 1)]) A=_;rw [Int.add_sub_cancel]
theorem g_new{c:Str}:(ms B la n st E A).goC ⟨none,.new,some g,true⟩ c=ms B la n g E (A++[⟨"","",true⟩]):=by
 show ms B la (n+1 - 1) g E (A++[⟨"","",true⟩])=_;rw [Int.add_sub_cancel]
theorem Ugh{f:List PA->PA->PA}:(ms B la n st E (A++[x])).last' f=ms B la n st E (A++[f A x]):=by
 delta PS.last';show (match (A++[x]).getLast? with | some a=>(ms B la n st E (A++[x])).setDraft { B with attrs:=(A++[x]).dropLast++[f (A++[x]).dropLast a] } | none=>_)=_;rw [List.getLast?_concat,List.dropLast_concat]
 rfl
noncomputable def ckE(n:Int)(E:List V)(A:List PA)(x:PA):List V:=if toldP A x then E++[errV "duplicate-attribute" n] else E
noncomputable def ckA(A:List PA)(x:PA):PA:=if toldP A x then { x with k:=false } else x
theorem Umk:(ms B la (n+1) st E (A++[x])).check=ms B la (n+1) st (ckE n E A x) (A++[ckA A x]):=by
 delta PS.check;have e:(ms B la (n+1) st E (A++[x])).isTold=toldP A x:=by
  delta PS.isTold;show (match (A++[x]).getLast? with | some a=>toldP (A++[x]).dropLast a | none=>false)=_;rw [List.getLast?_concat,List.dropLast_concat]
 rw [e];delta ckE ckA;cases toldP A x with
 | false=>rfl
 | true =>
  rw [if_pos rfl,if_pos rfl,if_pos rfl,Ugh];show ms B la (n+1) st (E++[errV _ (n+1 - 1)]) _=_;rw [Int.add_sub_cancel]
theorem g_cto{c:Str}:(ms B la n st E (A++[x])).goC ⟨none,.check,some g,false⟩ c=ms B la (n+1) g (ckE n E A x) (A++[ckA A x]):=by
 show ((ms B la (n+1) st E (A++[x])).check).to g=_;rw [Umk];rfl
theorem g_con{c:Str}:(ms B la n st E (A++[x])).goC ⟨none,.check,some g,true⟩ c=ms B la n g (ckE n E A x) (A++[ckA A x]):=by
 show ((ms B la (n+1) st E (A++[x])).check).again g=_;rw [Umk];show ms B la (n+1 - 1) g _ _=_;rw [Int.add_sub_cancel]
 rfl
theorem Uqp{c:Str}:(ms B la n "attribute name" E (A++[x])).deed .put c=ms B la n "attribute name" E (A++[{ x with n:=x.n++(if c==Qab then Qaz else lowerS c) }]):=by
 have e:(ms B la n "attribute name" E (A++[x])).deed .put c=(ms B la n "attribute name" E (A++[x])).addName (if c==Qab then Qaz else lowerS c):=by kernel_rfl
 rw [e];exact Ugh
theorem Ust{c:Str}(h1:(st==Qai)=false)(h2:(st==Qaj)=false):(ms B la n st E (A++[x])).deed .put c=ms B la n st E (A++[{ x with v:=x.v++repl c }]):=by
 have e:(ms B la n st E (A++[x])).deed .put c=(ms B la n st E (A++[x])).addValue (repl c):=by
  show (if (st==Qai)=true then _ else if (st==Qaj)=true then _ else _)=_;rw [h1,h2];rfl
 rw [e];exact Ugh
noncomputable def eL(e:Option Str)(n:Int):List V:=match e with
 | some e=>[errV e n]
 | none=>[]
theorem g_put{c:Str}{o:Option Str}:s=ms B la n st E A->s.goC ⟨o,.put,none,false⟩ c=(ms B la (n+1) st (E++eL o n) A).deed .put c:=fun e=>by
 subst e;cases o with
 | none=>show (ms B la (n+1) st E A).deed .put c=_;delta eL;rw [List.append_nil]
 | some e=>show (ms B la (n+1) st (E++[errV e (n+1 - 1)]) A).deed .put c=_;rw [Int.add_sub_cancel];rfl
noncomputable def vErr(odd:List Nat)(why:Str)(c:Nat):Option Str:=if c=0 then some "unexpected-null-character" else if c ∈ odd then some why else none
theorem Ulp(odd:List Nat)(why:Str):eL (vErr odd why c) n=tk1 odd why n c:=by
 delta vErr tk1
 by_cases h:c=0
 ·rw [if_pos h,if_pos h];rfl
 ·rw [if_neg h,if_neg h]
  by_cases h2:c ∈ odd
  ·rw [if_pos h2,if_pos h2];rfl
  ·rw [if_neg h2,if_neg h2];rfl
theorem eqc(k:Nat)(h:c≠k):(ch c==ch k)=false:=by rw [Uau];simpa using h
theorem Uk4(h:c ∉ nStop):act .name (ch c)=⟨vErr nOdd nWhy c,.put,none,false⟩:=by
 show actName (ch c)=_;delta actName;rw [Ubt,sl_ch,if_neg (dn (nsub (l:=bls) rfl h)),if_neg (fun q=>(of_decide_eq_true q).elim (nne (k:=47) rfl h) (nne (k:=62) rfl h)),show Str.ofString "="=ch 61 from rfl,eqc 61 (nne (k:=61) rfl h),if_neg Bool.false_ne_true,show Str.ofString "\x00"=ch 0 from rfl,Uau];delta vErr
 by_cases h0:c=0
 ·subst h0;rfl
 ·rw [if_neg (by simpa using h0),if_neg h0];have:[Qan,"'","<"].any (·==ch c)=decide (c ∈ nOdd):=any_ch nOdd c;rw [this]
  by_cases h2:c ∈ nOdd
  ·rw [if_pos (dy h2),if_pos h2];rfl
  ·rw [if_neg (dn h2),if_neg h2]
theorem Uhq{k:Nat}(h1:c≠k)(h2:c≠38):actQuoted (ch k) (ch c)=⟨vErr [] "" c,.put,none,false⟩:=by
 delta actQuoted;rw [eqc k h1,if_neg Bool.false_ne_true,show Str.ofString "&"=ch 38 from rfl,eqc 38 h2,if_neg Bool.false_ne_true,show Str.ofString "\x00"=ch 0 from rfl,Uau,ch_ne,if_neg Bool.false_ne_true];delta vErr
 by_cases h0:c=0
 ·subst h0;rfl
 ·rw [if_neg (by simpa using h0),if_neg h0,if_neg (by simp)]
theorem Uq7(h:c ∉ bls)(h1:c≠62)(h2:c≠38):act .bare (ch c)=⟨vErr vOdd vWhy c,.put,none,false⟩:=by
 show actBare (ch c)=_;delta actBare;rw [Ubt,if_neg (dn h),show Str.ofString "&"=ch 38 from rfl,eqc 38 h2,if_neg Bool.false_ne_true,show Str.ofString ">"=ch 62 from rfl,eqc 62 h1,if_neg Bool.false_ne_true,show Str.ofString "\x00"=ch 0 from rfl,Uau,ch_ne];delta vErr
 by_cases h0:c=0
 ·subst h0;rfl
 ·rw [if_neg (by simpa using h0),if_neg h0,if_neg Bool.false_ne_true];have:[Qan,"'","<","=","`"].any (·==ch c)=decide (c ∈ vOdd):=any_ch vOdd c;rw [this]
  by_cases h2:c ∈ vOdd
  ·rw [if_pos (dy h2),if_pos h2];rfl
  ·rw [if_neg (dn h2),if_neg h2]
theorem s_name(h:c ∉ nStop):adv 4 (ms B la n "attribute name" E (A++[x])) (ch c)=ms B la (n+1) "attribute name" (E++tk1 nOdd nWhy n c) (A++[{ x with n:=x.n++ch (lowC c) }]):=by
 rw [st_to (q:=.name) rfl (by rw [Uk4 h]),Uk4 h,g_put rfl,Uqp,low_ch,Ulp]
theorem s_val(h:act q (ch c)=⟨vErr odd why c,.put,none,false⟩)(h1:(q.str==Qai)=false)(h2:(q.str==Qaj)=false) :
  adv 4 (ms B la n q.str E (A++[x])) (ch c)=ms B la (n+1) q.str (E++tk1 odd why n c) (A++[{ x with v:=x.v++ch (repC c) }]):=by
 rw [st_to (q:=q) rfl (by rw [h]),h,g_put rfl,Ust h1 h2,rep_ch,Ulp]
theorem Ulu(x:Str)(c:Nat)(l:List Nat):x++ch c++ofC l=x++ofC (c::l):=by
 delta ofC ch;show (⟨(x.cps++#[c])++l.toArray⟩:Str)=⟨x.cps++(c::l).toArray⟩
 congr 1
 apply Array.ext';simp
theorem Um1(x:Str):x++ofC []=x:=by
 show (⟨x.cps++#[]⟩:Str)=x;rw [Array.append_empty]
theorem f_name:∀ (l:List Nat) (n:Int) (E:List V) (x:PA),(∀ c ∈ l,c ∉ nStop)->(l.map ch).foldl (adv 4) (ms B la n "attribute name" E (A++[x]))=ms B la (n+l.length) "attribute name" (E++tk nOdd nWhy n l) (A++[{ x with n:=x.n++ofC (l.map lowC) }])
 | [],n,E,x,h=>by
  show ms B la n _ E (A++[x])=_;rw [List.map_nil,Um1];delta tk;rw [List.append_nil,List.length_nil,show n+((0:Nat):Int)=n by omega]
 | c::l,n,E,x,h=>by
  rw [List.map_cons,List.foldl_cons,s_name (h c List.mem_cons_self),f_name l (n+1) _ _ fun c m=>h c (List.mem_cons_of_mem _ m)];rw [show tk nOdd nWhy n (c::l)=tk1 nOdd nWhy n c++tk nOdd nWhy (n+1) l from rfl,<- List.append_assoc,List.map_cons];skip;rw [Ulu,List.length_cons,show n+1+(l.length:Int)=n+((l.length+1:Nat):Int) by omega]
theorem f_val{odd:List Nat}{why:Str}(h1:(q.str==Qai)=false)(h2:(q.str==Qaj)=false):∀ (l:List Nat) (n:Int) (E:List V) (x:PA),(∀ c ∈ l,act q (ch c)=⟨vErr odd why c,.put,none,false⟩) ->
  (l.map ch).foldl (adv 4) (ms B la n q.str E (A++[x]))=ms B la (n+l.length) q.str (E++tk odd why n l) (A++[{ x with v:=x.v++ofC (l.map repC) }])
 | [],n,E,x,h=>by
  show ms B la n _ E (A++[x])=_;rw [List.map_nil,Um1];delta tk;rw [List.append_nil,List.length_nil,show n+((0:Nat):Int)=n by omega]
 | c::l,n,E,x,h=>by
  rw [List.map_cons,List.foldl_cons,s_val (h c List.mem_cons_self) h1 h2,f_val h1 h2 l (n+1) _ _ fun c m=>h c (List.mem_cons_of_mem _ m)];rw [show tk odd why n (c::l)=tk1 odd why n c++tk odd why (n+1) l from rfl,<- List.append_assoc,List.map_cons];skip;rw [Ulu,List.length_cons,show n+1+(l.length:Int)=n+((l.length+1:Nat):Int) by omega]
theorem tk_len(odd:List Nat)(why:Str):∀ (l:List Nat) (n:Int),(tk odd why n l).length<=l.length
 | [],n=>Nat.le_refl 0
 | c::l,n=>by
  have:=tk_len odd why l (n+1);have h1:(tk1 odd why n c).length<=1:=by
   delta tk1;split
   ·exact Nat.le_refl 1
   ·split
    ·exact Nat.le_refl 1
    ·exact Nat.zero_le 1
  show (tk1 odd why n c++tk odd why (n+1) l).length<=_;rw [List.length_append,List.length_cons]
  omega
theorem tk_app(odd:List Nat)(why:Str):∀ (a b:List Nat) (n:Int),tk odd why n (a++b)=tk odd why n a++tk odd why (n+a.length) b
 | [],b,n=>by show tk odd why n b=_;delta tk;simp
 | c::a,b,n=>by
  show tk1 odd why n c++tk odd why (n+1) (a++b)=(tk1 odd why n c++tk odd why (n+1) a)++tk odd why (n+(c::a).length) b;rw [tk_app odd why a b,List.append_assoc,List.length_cons,show n+1+(a.length:Int)=n+((a.length+1:Nat):Int) by omega]
end
noncomputable def fE(kd:Str)(n:Int)(E:List V)(A:List PA)(cl:Bool):List V :=
 let e1:=if kd=="end"&&0 < A.length then E++[errV "end-tag-with-attributes" n] else E
 if kd=="end"&&cl then e1++[errV "end-tag-with-trailing-solidus" n] else e1
noncomputable def outS(B:PD)(la:Str)(n:Int)(E:List V)(A:List PA)(cl:Bool):PS :=
 ⟨n+1,"data","data",if B.kind=="start" then B.name else la,[PD.tok ⟨B.kind,B.name,cl,A⟩],fE B.kind n E A cl,none,false,[],false,false,[]⟩
section
variable {B:PD}{la:Str}{n:Int}{c m:Nat}{q:St}{E:List V}{A:List PA}{x:PA}{s:PS}{st g e:Str}
theorem okS(h:c ∈ okL):okSign (ch c):=.inr ⟨c,h,rfl⟩
theorem nb(k:Nat)(h:c=k)(hk:decide (k ∈ bls)=false):¬ decide (c ∈ bls)=true:=by subst h;rw [hk];exact Bool.false_ne_true
theorem a_bl(h:c ∈ bls):act .befName (ch c)=⟨none,.none,none,false⟩/\act .aftName (ch c)=⟨none,.none,none,false⟩/\act .befVal (ch c)=⟨none,.none,none,false⟩/\act .bare (ch c)=⟨none,.none,some "before attribute name",false⟩/\act .aftVal (ch c)=⟨none,.none,some "before attribute name",false⟩/\act .name (ch c)=⟨none,.check,some "after attribute name",true⟩/\act .tagName (ch c)=⟨none,.none,some "before attribute name",false⟩:=by
 have e:isBlank (ch c)=true:=by rw [Ubt];simpa using h
 exact ⟨if_pos e,if_pos e,if_pos e,if_pos e,if_pos e,if_pos e,if_pos e⟩
theorem t_bef(h:c ∈ bls):adv 4 (ms B la n "before attribute name" E A) (ch c)=ms B la (n+1) "before attribute name" E A:=by rw [st_to (q:=.befName) rfl (by rw [(a_bl h).1]),(a_bl h).1];rfl
theorem t_aft(h:c ∈ bls):adv 4 (ms B la n "after attribute name" E A) (ch c)=ms B la (n+1) "after attribute name" E A:=by rw [st_to (q:=.aftName) rfl (by rw [(a_bl h).2.1]),(a_bl h).2.1];rfl
theorem Uqs(h:c ∈ bls):adv 4 (ms B la n "before attribute value" E A) (ch c)=ms B la (n+1) "before attribute value" E A:=by rw [st_to (q:=.befVal) rfl (by rw [(a_bl h).2.2.1]),(a_bl h).2.2.1];rfl
theorem t_bare(h:c ∈ bls):adv 4 (ms B la n "attribute value (unquoted)" E A) (ch c)=ms B la (n+1) "before attribute name" E A:=by rw [st_to (q:=.bare) rfl (by rw [(a_bl h).2.2.2.1]),(a_bl h).2.2.2.1];rfl
theorem Uqi(h:c ∈ bls):adv 4 (ms B la n "after attribute value (quoted)" E A) (ch c)=ms B la (n+1) "before attribute name" E A:=by rw [st_to (q:=.aftVal) rfl (by rw [(a_bl h).2.2.2.2.1]),(a_bl h).2.2.2.2.1];rfl
theorem ok47:okSign (ch 47):=okS (by decide)
theorem ok62:okSign (ch 62):=okS (by decide)
theorem bl_ok(h:c ∈ bls):c ∈ okL:=by
 simp only [bls,List.mem_cons,List.not_mem_nil,or_false] at h;rcases h with rfl | rfl | rfl | rfl <;> decide
theorem Uf4:adv 4 (ms B la n "after attribute name" E A) (ch 47)=ms B la (n+1) "self-closing start tag" E A:=by
 have h:act .aftName (ch 47)=⟨none,.none,some "self-closing start tag",false⟩:=by kernel_rfl
 rw [st_to (q:=.aftName) rfl (by rw [h]),h];rfl
theorem Upd(h:c=47\/c=62):adv 4 (ms B la n "before attribute name" E A) (ch c)=adv 4 (ms B la n "after attribute name" E A) (ch c):=by
 have h1:act .befName (ch 47)=⟨none,.none,some "after attribute name",true⟩:=by kernel_rfl
 have h2:act .befName (ch 62)=⟨none,.none,some "after attribute name",true⟩:=by kernel_rfl
 rcases h with rfl | rfl
 ·rw [st_on (q:=.befName) ok47 rfl (by rw [h1]),h1,g_on]
 ·rw [st_on (q:=.befName) ok62 rfl (by rw [h2]),h2,g_on]
theorem Ukx:adv 4 (ms B la n "before attribute name" E A) (ch 47)=ms B la (n+1) "self-closing start tag" E A:=(Upd (.inl rfl)).trans Uf4
theorem aft_gt:adv 4 (ms B la n "after attribute name" E A) (ch 62)=outS B la n E A B.closing:=by
 have h:act .aftName (ch 62)=⟨none,.give,some "data",false⟩:=by kernel_rfl
 rw [st_to (q:=.aftName) rfl (by rw [h]),h];have e:(ms B la n "after attribute name" E A).goC ⟨none,.give,some "data",false⟩ (ch 62)={ outS B la n E A B.closing with errs:=fE B.kind (n+1 - 1) E A B.closing }:=rfl;rw [e,Int.add_sub_cancel];rfl
theorem bef_gt:adv 4 (ms B la n "before attribute name" E A) (ch 62)=outS B la n E A B.closing:=(Upd (.inr rfl)).trans aft_gt
theorem Usf:adv 4 (ms B la n "self-closing start tag" E A) (ch 62)=outS B la n E A true:=by
 have h:act .self (ch 62)=⟨none,.close,some "data",false⟩:=by kernel_rfl
 rw [st_to (q:=.self) rfl (by rw [h]),h];have e:(ms B la n "self-closing start tag" E A).goC ⟨none,.close,some "data",false⟩ (ch 62)={ outS B la n E A true with errs:=fE B.kind (n+1 - 1) E A true }:=rfl;rw [e,Int.add_sub_cancel];rfl
theorem self_o(hc:c ∈ okL)(h:c≠62):adv 4 (ms B la n "self-closing start tag" E A) (ch c)=adv 4 (ms B la n "before attribute name" (E++[errV "unexpected-solidus-in-tag" n]) A) (ch c):=by
 have h1:act .self (ch c)=⟨some "unexpected-solidus-in-tag",.none,some "before attribute name",true⟩:=by
  show actSelf (ch c)=_;delta actSelf;rw [show Str.ofString ">"=ch 62 from rfl,eqc 62 h,ch_ne,if_neg Bool.false_ne_true,if_neg Bool.false_ne_true]
 rw [st_on (q:=.self) (okS hc) rfl (by rw [h1]),h1,g_eon]
theorem a_new(h:c ∉ nStop):act .befName (ch c)=⟨none,.new,some "attribute name",true⟩/\act .aftName (ch c)=⟨none,.new,some "attribute name",true⟩:=by
 simp only [nStop,List.mem_cons,List.not_mem_nil,or_false,not_or] at h;have hb:¬ decide (c ∈ bls)=true:=by simp [bls];omega
 refine ⟨?_,?_⟩
 ·show actBefName (ch c)=_;delta actBefName;rw [Ubt,sl_ch,if_neg hb,if_neg (by simp;omega),show Str.ofString "="=ch 61 from rfl,eqc 61 (by omega),if_neg Bool.false_ne_true]
 ·show actAftName (ch c)=_;delta actAftName;rw [Ubt,if_neg hb,show Str.ofString "/"=ch 47 from rfl,eqc 47 (by omega),show Str.ofString "="=ch 61 from rfl,eqc 61 (by omega),show Str.ofString ">"=ch 62 from rfl,eqc 62 (by omega),ch_ne]
  rfl
theorem t_new(hc:c ∈ okL)(h:c ∉ nStop)(hst:st="before attribute name"\/st="after attribute name"):adv 4 (ms B la n st E A) (ch c)=adv 4 (ms B la n "attribute name" E (A++[⟨"","",true⟩])) (ch c):=by
 rcases hst with rfl | rfl
 ·rw [st_on (q:=.befName) (okS hc) rfl (by rw [(a_new h).1]),(a_new h).1,g_new]
 ·rw [st_on (q:=.aftName) (okS hc) rfl (by rw [(a_new h).2]),(a_new h).2,g_new]
theorem t_eq:adv 4 (ms B la n "after attribute name" E A) (ch 61)=ms B la (n+1) "before attribute value" E A:=by
 have h:act .aftName (ch 61)=⟨none,.none,some "before attribute value",false⟩:=by kernel_rfl
 rw [st_to (q:=.aftName) rfl (by rw [h]),h];rfl
theorem Ug1(h:c ∈ nStop):adv 4 (ms B la n "attribute name" E (A++[x])) (ch c)=adv 4 (ms B la n "after attribute name" (ckE n E A x) (A++[ckA A x])) (ch c):=by
 have h61:act .name (ch 61)=⟨none,.check,some "before attribute value",false⟩:=by kernel_rfl
 have h47:act .name (ch 47)=⟨none,.check,some "after attribute name",true⟩:=by kernel_rfl
 have h62:act .name (ch 62)=⟨none,.check,some "after attribute name",true⟩:=by kernel_rfl
 have on:c ∈ okL->act .name (ch c)=⟨none,.check,some "after attribute name",true⟩->adv 4 (ms B la n "attribute name" E (A++[x])) (ch c)=adv 4 (ms B la n "after attribute name" (ckE n E A x) (A++[ckA A x])) (ch c):=fun hc h=>by
  rw [st_on (q:=.name) (okS hc) rfl (by rw [h]),h,g_con]
 simp only [nStop,List.mem_cons,List.not_mem_nil,or_false] at h;rcases h with h | h | h | h | h | h | h
 ·subst h;exact on (by decide) (a_bl (by decide)).2.2.2.2.2.1
 ·subst h;exact on (by decide) (a_bl (by decide)).2.2.2.2.2.1
 ·subst h;exact on (by decide) (a_bl (by decide)).2.2.2.2.2.1
 ·subst h;exact on (by decide) (a_bl (by decide)).2.2.2.2.2.1
 ·subst h;exact on (by decide) h47
 ·subst h;exact on (by decide) h62
 ·subst h;rw [st_to (q:=.name) rfl (by rw [h61]),h61,g_cto,t_eq]
theorem vdq:adv 4 (ms B la n "before attribute value" E A) (ch 34)=ms B la (n+1) "attribute value (double-quoted)" E A:=by
 have h:act .befVal (ch 34)=⟨none,.none,some "attribute value (double-quoted)",false⟩:=by kernel_rfl
 rw [st_to (q:=.befVal) rfl (by rw [h]),h];rfl
theorem vsq:adv 4 (ms B la n "before attribute value" E A) (ch 39)=ms B la (n+1) "attribute value (single-quoted)" E A:=by
 have h:act .befVal (ch 39)=⟨none,.none,some "attribute value (single-quoted)",false⟩:=by kernel_rfl
 rw [st_to (q:=.befVal) rfl (by rw [h]),h];rfl
theorem vgt:adv 4 (ms B la n "before attribute value" E A) (ch 62)=adv 4 (ms B la n "after attribute name" (E++[errV "missing-attribute-value" n]) A) (ch 62):=by
 have h:act .befVal (ch 62)=⟨some "missing-attribute-value",.give,some "data",false⟩:=by kernel_rfl
 rw [st_to (q:=.befVal) rfl (by rw [h]),h,aft_gt];have e:(ms B la n "before attribute value" E A).goC ⟨some "missing-attribute-value",.give,some "data",false⟩ (ch 62)={ outS B la n (E++[errV "missing-attribute-value" (n+1 - 1)]) A B.closing with errs:=fE B.kind (n+1 - 1) (E++[errV "missing-attribute-value" (n+1 - 1)]) A B.closing }:=rfl;rw [e,Int.add_sub_cancel];rfl
theorem vbare(hc:c ∈ okL)(h:c ∉ bls)(h1:c≠34)(h2:c≠39)(h3:c≠62):adv 4 (ms B la n "before attribute value" E A) (ch c)=adv 4 (ms B la n "attribute value (unquoted)" E A) (ch c):=by
 have e:act .befVal (ch c)=⟨none,.none,some "attribute value (unquoted)",true⟩:=by
  show actBefVal (ch c)=_;delta actBefVal;rw [Ubt,if_neg (by simpa using h),show Str.ofString "\""=ch 34 from rfl,eqc 34 h1,show Str.ofString "'"=ch 39 from rfl,eqc 39 h2,show Str.ofString ">"=ch 62 from rfl,eqc 62 h3]
  rfl
 rw [st_on (q:=.befVal) (okS hc) rfl (by rw [e]),e,g_on]
theorem c_dq:adv 4 (ms B la n "attribute value (double-quoted)" E A) (ch 34)=ms B la (n+1) "after attribute value (quoted)" E A:=by
 have h:act .dq (ch 34)=⟨none,.none,some "after attribute value (quoted)",false⟩:=by kernel_rfl
 rw [st_to (q:=.dq) rfl (by rw [h]),h];rfl
theorem c_sq:adv 4 (ms B la n "attribute value (single-quoted)" E A) (ch 39)=ms B la (n+1) "after attribute value (quoted)" E A:=by
 have h:act .sq (ch 39)=⟨none,.none,some "after attribute value (quoted)",false⟩:=by kernel_rfl
 rw [st_to (q:=.sq) rfl (by rw [h]),h];rfl
theorem Utr:adv 4 (ms B la n "attribute value (unquoted)" E A) (ch 62)=outS B la n E A B.closing:=by
 have h:act .bare (ch 62)=⟨none,.give,some "data",false⟩:=by kernel_rfl
 rw [st_to (q:=.bare) rfl (by rw [h]),h];have e:(ms B la n "attribute value (unquoted)" E A).goC ⟨none,.give,some "data",false⟩ (ch 62)={ outS B la n E A B.closing with errs:=fE B.kind (n+1 - 1) E A B.closing }:=rfl;rw [e,Int.add_sub_cancel];rfl
theorem Uml(h:c ∈ bls\/c=62):adv 4 (ms B la n "attribute value (unquoted)" E A) (ch c)=adv 4 (ms B la n "before attribute name" E A) (ch c):=by
 rcases h with h | rfl
 ·rw [t_bare h,t_bef h]
 ·rw [Utr,bef_gt]
theorem Ubm(h:c ∈ bls\/c=47\/c=62):adv 4 (ms B la n "after attribute value (quoted)" E A) (ch c)=adv 4 (ms B la n "before attribute name" E A) (ch c):=by
 have h1:act .aftVal (ch 47)=⟨none,.none,some "self-closing start tag",false⟩:=by kernel_rfl
 have h2:act .aftVal (ch 62)=⟨none,.give,some "data",false⟩:=by kernel_rfl
 rcases h with h | rfl | rfl
 ·rw [Uqi h,t_bef h]
 ·rw [st_to (q:=.aftVal) rfl (by rw [h1]),h1,Ukx];rfl
 ·rw [st_to (q:=.aftVal) rfl (by rw [h2]),h2,bef_gt];have e:(ms B la n "after attribute value (quoted)" E A).goC ⟨none,.give,some "data",false⟩ (ch 62)={ outS B la n E A B.closing with errs:=fE B.kind (n+1 - 1) E A B.closing }:=rfl;rw [e,Int.add_sub_cancel];rfl
theorem Ul0(hc:c ∈ okL)(h:c ∉ bls)(h1:c≠47)(h2:c≠62):adv 4 (ms B la n "after attribute value (quoted)" E A) (ch c)=adv 4 (ms B la n "before attribute name" (E++[errV "missing-whitespace-between-attributes" n]) A) (ch c):=by
 have e:act .aftVal (ch c)=⟨some "missing-whitespace-between-attributes",.none,some "before attribute name",true⟩:=by
  show actAftVal (ch c)=_;delta actAftVal;rw [Ubt,if_neg (by simpa using h),show Str.ofString "/"=ch 47 from rfl,eqc 47 h1,show Str.ofString ">"=ch 62 from rfl,eqc 62 h2,ch_ne]
  rfl
 rw [st_on (q:=.aftVal) (okS hc) rfl (by rw [e]),e,g_eon]
end
noncomputable def sgn(c:Nat):Str:=if c=13 then "\x0d\x0a" else ch c
noncomputable def sv(c:Nat):V:=.str (sgn c)
noncomputable def nrm(c:Nat):Nat:=if c=13 then 10 else c
noncomputable def vC(c:Nat):Nat:=if c=13 then 10 else repC c
noncomputable def upC(c:Nat):Nat:=if 97<=c/\c<=122 then c - 32 else c
noncomputable def loC(c:Nat):Nat:=if 65<=c/\c<=90 then c+32 else c
noncomputable def drawnN(W:List Nat):Nat->Nat->List Nat
 | _,0=>[]
 | n,m+1=>W.getD (n % W.length) 0::drawnN W (n / W.length) m
noncomputable def Un(K:List Nat)(O O':Store):Prop:=∀ r,K.contains r=false->O'[r]?=O[r]?
noncomputable def Dw(K:List Nat)(O:Store)(v:V)(l:List V):Prop:=∀ O',Un K O O'->(∀ k,drawV v k O'=some l[k]?)/\asList O' v=some l
structure SE(O:Store)(i j:Nat)(S:List Nat)(E:List V):Prop where
 len:O.length=24
 sg:O.get 11 i=some (.list (S.map sv))
 er:O.get 12 j=some (.list E)
section
variable {p:Params}{O O' O₁ O0:Store}{d i j n m:Nat}{E:List V}{S W K:List Nat}{Q:V->Store->Prop}{v:V}{l:List V}
theorem Un.rfl:Un K O O:=fun w0 w0=>Eq.refl _
theorem Un.trans{a b c:Store}(x:Un K a b)(y:Un K b c):Un K a c:=fun r h=>(y r h).trans (x r h)
theorem Un.put{r i:Nat}{o:Ob}(h:K.contains r=true):Un K O (O.put r i o):=fun r' h'=>Uc6 fun e=>by subst e;rw [h] at h';cases h'
theorem Un.add{r:Nat}{o:Ob}(h:K.contains r=true):Un K O (O.add r o):=fun r' h'=>Uft fun e=>by subst e;rw [h] at h';cases h'
theorem Un.get{r i:Nat}(x:Un K O O')(h:K.contains r=false):O'.get r i=O.get r i:=by delta Store.get;rw [x r h]
theorem Un.sub{K':List Nat}(x:Un K O O')(h:K.all (K'.contains ·)=true):Un K' O O':=fun r hr=>x r (by
 cases q:K.contains r with
 | false=>rfl
 | true=>rw [List.all_eq_true.mp h r (List.contains_iff_mem.mp q)] at hr;cases hr)
theorem Dw.lst:Dw K O (.lst l) l:=fun w0 w0=>⟨fun k=>Uqr k,rfl⟩
theorem Dw.ref{r i:Nat}(h:O.get r i=some (.list l))(hr:K.contains r=false):Dw K O (.ref r i) l:=fun O' x =>
 have e:O'.get r i=some (.list l):=(x.get hr).trans h
 ⟨fun k=>Uek e,asl_of e⟩
theorem Dw.mono{v:V}(h:Dw K O v l)(x:Un K O O'):Dw K O' v l:=fun O'' y=>h O'' (x.trans y)
theorem Dw.as{v:V}(h:Dw K O v l):asList O v=some l:=(h O Un.rfl).2
theorem Uqo(a b:Nat):(a:Int).fdiv b=((a / b:Nat):Int):=by rw [Int.fdiv_eq_ediv_of_nonneg _ (Int.natCast_nonneg b)];rfl
theorem Uq8(a b:Nat):(a:Int).fmod b=((a % b:Nat):Int):=by rw [Int.fmod_eq_emod_of_nonneg _ (Int.natCast_nonneg b)];rfl
theorem div_of(a b:Nat)(hb:0 < b/\b < 1000000000):binV .FloorDiv (.int a) (.int b) O=some (.int ((a / b:Nat):Int)):=by
 show (if (0:Int) < b/\(b:Int).natAbs < 1000000000 then some (V.int ((a:Int).fdiv b)) else none)=_;rw [if_pos ⟨Int.natCast_pos.mpr hb.1,hb.2⟩,Uqo]
theorem mod_of(a b:Nat)(hb:0 < b):binV .Mod (.int a) (.int b) O=some (.int ((a % b:Nat):Int)):=by
 show (if (0:Int) < b then some (V.int ((a:Int).fmod b)) else none)=_;rw [if_pos (Int.natCast_pos.mpr hb),Uq8]
theorem Uah(W:List Nat):∀ n m,(drawnN W n m).length=m
 | _,0=>rfl
 | n,m+1=>congrArg (·+1) (Uah W (n / W.length) m)
theorem Ual(W:List Nat)(hP:0 < W.length):∀ n m,∀ c ∈ drawnN W n m,c ∈ W
 | _,0,c,h=>by cases h
 | n,m+1,c,h=>by
  rcases List.mem_cons.mp h with rfl | h
  ·have hlt:n % W.length < W.length:=Nat.mod_lt _ hP;rw [List.getD_eq_getElem?_getD,List.getElem?_eq_getElem hlt];exact List.getElem_mem _
  ·exact Ual W hP _ m c h
noncomputable def divN(b:Nat):Nat->Nat->Nat
 | n,0=>n
 | n,m+1=>divN b (n / b) m
theorem Uhf(W:List Nat):∀ n m,drawnN W n (m+1)=drawnN W n m++[W.getD (divN W.length n m % W.length) 0]
 | _,0=>rfl
 | n,m+1=>congrArg (W.getD (n % W.length) 0::·) (Uhf W (n / W.length) m)
theorem Uly(b:Nat):∀ n m,divN b n (m+1)=divN b n m / b
 | _,0=>rfl
 | n,m+1=>Uly b (n / b) m
noncomputable abbrev frD(n:Nat)(W:List Nat)(m i:Nat)(r:Fr):Fr:=(Qae,.int n)::(Qr,.lst (W.map sv))::(Qbf,.int m)::(Qad,.ref 14 i)::r
theorem Ujz(W:List Nat)(n:Nat)(hW:0 < W.length):itemV (.lst (W.map sv)) (.int ((n % W.length:Nat):Int)) O=some (sv (W.getD (n % W.length) 0)) :=
 Uj1 (vs:=W.map sv) rfl (fun w0 e=>by cases e) (by
  have hlt:n % W.length < W.length:=Nat.mod_lt _ hW;rw [List.getElem?_map,List.getD_eq_getElem?_getD,List.getElem?_eq_getElem hlt];rfl)
theorem Uc5(W:List Nat)(hW:0 < W.length/\W.length < 100)(n m:Nat)(hm:m < 1000)(hlen:O.length=24) :
  Run (callK (P p) (d+1) a__law_drawn [.int n,.lst (W.map sv),.int m]) O fun v O'=>∃ i,v=.ref 14 i/\O'.get 14 i=some (.list ((drawnN W n m).map sv))/\Un [14] O O'/\O'.length=24:=by
 rw [Uio];show RF _ O _;delta F__law_drawn;refine xEA (reg_of hlen (by decide:14 < 24)) fun l hl=>?_;refine RF.b (Uf8 hl) (RF.b (a:=.rng 0 m 1) (O₁:=O.add 14 (.list [])) ?_ ?_)
 ·refine bi_of ?_;show (if (m:Int).natAbs<=lim then some (V.rng 0 m 1) else none)=_;rw [if_pos (show (m:Int).natAbs<=lim from Nat.le_of_lt (Nat.lt_of_lt_of_le hm (by decide)))]
 refine forRun (fun k fr s=>s.length=24/\Un [14] O s/\s.get 14 l.length=some (.list ((drawnN W n k).map sv))/\∃ r,fr=frD (divN W.length n k) W m l.length r/\(r=[]\/∃ u,r=[(Qn,u)])) ((List.range m).map fun j:Nat=>.int j)
  ⟨Uba.trans hlen,Un.add rfl,Ua0 hl,[],rfl,.inl rfl⟩ (by rw [List.length_map,List.length_range];exact Nat.lt_trans hm (by decide)) (fun k v fr s hv hI=>?_) (fun fr s hI=>?_) fun fr s hI=>?_
 ·refine xAAAA hI fun h1 h2 h3 h4=>?_;clear hI;rw [List.getElem?_map] at hv;refine xEAA (Option.map_eq_some_iff.mp hv) fun j hj qz1=>?_;subst qz1;have hk:k < m:=by rw [List.getElem?_eq_some_iff] at hj;simpa using hj.1
  have hjk:j=k:=by rw [List.getElem?_range hk] at hj;cases hj;rfl
  subst hjk;refine ⟨?_,frD (divN W.length n j) W m l.length [(Qn,.int j)],?_,?_⟩
  ·rw [Uhh,if_pos (by omega),show (0:Int)+(j:Int)*1=j by omega]
  ·refine h4.elim fun r q=>?_;rcases q with ⟨rfl,rfl | ⟨u,rfl⟩⟩ <;> exact Ubg (by kernel_rfl)
  ·rw [Ucu];delta T__law_drawn_l0_0;refine Run.app h3 (Run.b (a:=.int (W.length:Nat)) (O₁:=s) (by show some (V.int ((W.map sv).length:Nat),s)=_;rw [List.length_map]) (Run.l (mod_of _ _ hW.1) (Run.l (Ujz W _ hW.1) (Run.b (Uad h3 (by rw [List.length_map,Uah];exact Nat.lt_trans hk (Nat.lt_of_lt_of_le hm (by decide)))) (Run.b (a:=.int (W.length:Nat)) (by show some (V.int ((W.map sv).length:Nat),_)=_;rw [List.length_map]) (Run.l (div_of _ _ ⟨hW.1,Nat.lt_trans hW.2 (by decide)⟩) (Run.next (.inl ⟨_,rfl,Uaq.trans h1,h2.trans (Un.put rfl),?_,[(Qn,.int j)],?_,.inr ⟨_,rfl⟩⟩))))))))
   ·rw [Uaj h3,Uhf,List.map_append];rfl
   ·rw [Uly]
 ·rw [List.length_map,List.length_range,Uhh,if_neg (by omega)]
 ·rw [List.length_map,List.length_range] at hI;refine xAAAA hI fun h1 h2 h3 h4=>h4.elim fun r q=>?_;rcases q with ⟨rfl,rfl | ⟨u,rfl⟩⟩
  ·rw [Udr];exact RF.r ⟨_,rfl,h3,h2,h1⟩
  ·rw [Udk];exact RF.r ⟨_,rfl,h3,h2,h1⟩
end
section
variable {p:Params}{O O' O₁ O0:Store}{d i j n m:Nat}{E:List V}{S W K:List Nat}{Q:V->Store->Prop}{v:V}{l:List V}
theorem Utb(x:Str)(c:Nat):(Txt.find x (ch c)=-1/\c ∉ x.cps.toList)\/∃ k:Nat,Txt.find x (ch c)=(k:Int)/\x.cps.toList[k]?=some c:=by
 delta Txt.find;rcases StrLaws.occ_head x (ch c) 1 (Nat.le_refl 1) with ⟨h0,hn⟩ | ⟨k,r,h0,hk,hn⟩
 ·rw [h0];refine .inl ⟨rfl,fun hm=>?_⟩;obtain ⟨k,hk,e⟩:=List.mem_iff_getElem.mp hm;exact hn k ((StrLaws.subAt_one x c k).mpr (by rw [List.getElem?_eq_getElem hk,e]))
 ·rw [h0];exact .inr ⟨k,rfl,(StrLaws.subAt_one x c k).mp hk⟩
noncomputable def trC(x y c:Nat):Nat:=if x<=c/\c < x+26 then y+(c - x) else c
noncomputable abbrev capS:Str:="ABCDEFGHIJKLMNOPQRSTUVWXYZ"
noncomputable abbrev lowAS:Str:="abcdefghijklmnopqrstuvwxyz"
theorem Us5{x:Str}{b:Nat}(hx:x.cps.toList=List.range' b 26)(c:Nat):Txt.find x (ch c)=if b<=c/\c < b+26 then ((c - b:Nat):Int) else -1:=by
 rcases Utb x c with ⟨h,hn⟩ | ⟨k,h,hk⟩
 ·rw [hx,List.mem_range'_1] at hn;rw [h,if_neg hn]
 ·rw [hx,List.getElem?_eq_some_iff] at hk;obtain ⟨hk,e⟩:=hk;rw [List.length_range'] at hk;rw [List.getElem_range'] at e;rw [h,if_pos (by omega)]
  congr 1
  omega
theorem Um0(l:List Nat)(c:Nat):ofC l++ch c=ofC (l++[c]):=by
 show (⟨l.toArray++#[c]⟩:Str)=⟨(l++[c]).toArray⟩;simp
theorem Upp(l:List Nat):(ofC l).length=l.length:=by rfl
noncomputable abbrev frC(x:Str)(up:Bool)(a b o:Str)(r:Fr):Fr:=(Qk,.str x)::(Qas,.bool up)::(Qat,.str a)::(Qau,.str b)::(Qad,.str o)::r
theorem Ug8{a b:Str}{x y:Nat}(hx:a.cps.toList=List.range' x 26)(hy:b.cps.toList=List.range' y 26)(up:Bool)(l:List Nat)(hl:l.length < 1000) :
  RF (J__law_cased_0 p (callK (P p) d) [(Qk,.str (ofC l)),(Qas,.bool up),(Qat,.str a),(Qau,.str b)]) O fun v O'=>v=.str (ofC (l.map (trC x y)))/\O'=O:=by
 rw [Udp];delta J__law_cased_0_T0;refine forRun (fun k fr s=>s=O/\∃ r,fr=frC (ofC l) up a b (ofC ((l.take k).map (trC x y))) r/\(r=[]\/∃ u w,r=[(Qx,u),(Qbs,w)])) (l.map fun c=>.str (ch c))
  ⟨rfl,[],rfl,.inl rfl⟩ (by rw [List.length_map];exact Nat.lt_trans hl (by decide)) (fun k v fr s hv hI=>?_) (fun fr s hI=>?_) fun fr s hI=>?_
 ·refine xAEAA hI fun h1 r h2 h3=>?_;clear hI;subst h1;rw [List.getElem?_map] at hv;refine xEAA (Option.map_eq_some_iff.mp hv) fun c hc qz1=>?_;subst qz1;have hk:k < l.length:=by rw [List.getElem?_eq_some_iff] at hc;exact hc.1
  refine ⟨?_,?_⟩
  ·show some (if k < (ofC l).cps.size then some (V.str ⟨#[(ofC l).cps.getD k 0]⟩) else none)=_;rw [if_pos (show k < (ofC l).cps.size from hk),StrLaws.getD_of_getElem? (x:=ofC l) (v:=k) (c:=c) hc];rfl
  ·have hlen:((l.take k).map (trC x y)).length=k:=by rw [List.length_map,List.length_take];exact Nat.min_eq_left (Nat.le_of_lt hk)
   have hs:(l.take (k+1)).map (trC x y)=(l.take k).map (trC x y)++[trC x y c]:=by
    rw [List.take_add_one,hc,List.map_append];rfl
   have ha:∀ e:Nat,binV .Add (.str (ofC ((l.take k).map (trC x y)))) (.str (ch e)) s=some (.str (ofC ((l.take k).map (trC x y)++[e]))):=fun e=>by
    rw [add_str (by rw [Upp,hlen];exact Nat.succ_le_of_lt (Nat.lt_trans hk (Nat.lt_trans hl (by decide)))),Um0]
   have one:∀ (u w:V),Run (T__law_cased_l0_0 p (callK (P p) d) (.str (ofC l)) (.bool up) (.str a) (.str b) (.str (ofC ((l.take k).map (trC x y)))) (.str (ch c))) s fun fl O' =>
     (∃ fr',fl=.next fr'/\O'=s/\∃ r,fr'=frC (ofC l) up a b (ofC ((l.take (k+1)).map (trC x y))) r/\(r=[]\/∃ u w,r=[(Qx,u),(Qbs,w)]))\/∃ v,fl=.ret v/\v=.str (ofC (l.map (trC x y)))/\O'=s:=fun u w=>by
    delta T__law_cased_l0_0;refine Run.l (a:=.bi .find) (by kernel_rfl) (Run.neg (by decide) (Run.b (a:=.int (Txt.find a (ch c))) (O₁:=s) rfl ?_));rw [Us5 hx,hs]
    by_cases h:x<=c/\c < x+26
    ·rw [if_pos h,show trC x y c=y+(c - x) from if_pos h];have hj:b.cps.toList[c - x]?=some (y+(c - x)):=by
      rw [hy,List.getElem?_range']
      ·simp
      ·omega
     refine Run.l (a:=true) (show some (decide ((0:Int)<=((c - x:Nat):Int)))=_ by rw [decide_eq_true (Int.natCast_nonneg _)]) (Run.pos rfl (Run.l (a:=.str (ch (y+(c - x)))) ?_ (Run.l (ha _) (Run.next (.inl ⟨_,rfl,rfl,_,rfl,.inr ⟨_,_,rfl⟩⟩)))));have hb:c - x < b.length:=by rw [List.getElem?_eq_some_iff] at hj;exact hj.1
     show ob (idx ((c - x:Nat):Int) b.length) _ _=_;rw [show idx ((c - x:Nat):Int) b.length=some (c - x) by delta idx;rw [if_pos (Int.natCast_nonneg _),if_pos (show ((c - x:Nat):Int).toNat < b.length from hb)];rfl];show some (V.str ⟨#[b.cps.getD (c - x) 0]⟩)=_;rw [StrLaws.getD_of_getElem? hj];rfl
    ·rw [if_neg h,show trC x y c=c from if_neg h];exact Run.l (a:=false) (by kernel_rfl) (Run.neg Bool.false_ne_true (Run.l (ha _) (Run.next (.inl ⟨_,rfl,rfl,_,rfl,.inr ⟨_,_,rfl⟩⟩))))
   rcases h3 with rfl | ⟨u,w,rfl⟩
   ·subst h2;exact ⟨frC (ofC l) up a b (ofC ((l.take k).map (trC x y))) [(Qx,.str (ch c))],Ubg (by kernel_rfl),by rw [Ucp];exact one .none .none⟩
   ·subst h2;exact ⟨frC (ofC l) up a b (ofC ((l.take k).map (trC x y))) [(Qx,.str (ch c)),(Qbs,w)],Ubg (by kernel_rfl),by rw [Uco];exact one .none .none⟩
 ·rw [List.length_map];show some (if l.length < (ofC l).cps.size then some (V.str ⟨#[(ofC l).cps.getD l.length 0]⟩) else none)=_;rw [if_neg (show ¬ l.length < (ofC l).cps.size from Nat.lt_irrefl _)]
 ·rw [List.length_map,List.take_length] at hI;refine xAEAA hI fun h1 r h2 h3=>?_;rcases h3 with rfl | ⟨u,w,rfl⟩
  ·rw [h2,Uds];exact RF.r ⟨rfl,h1⟩
  ·rw [h2,Udw];exact RF.r ⟨rfl,h1⟩
theorem Ug0(up:Bool)(l:List Nat)(hl:l.length < 1000):Run (callK (P p) (d+1) a__law_cased [.str (ofC l),.bool up]) O fun v O'=>v=.str (ofC (l.map (if up then upC else loC)))/\O'=O:=by
 rw [Uil];show RF _ O _;delta F__law_cased;show RF (if up=true then _ else _) O _;cases up with
 | true =>
  refine RF.pos rfl ((Ug8 (a:=lowAS) (b:=capS) (x:=97) (y:=65) (by kernel_rfl) (by kernel_rfl) true l hl).mono fun v s qq=>⟨qq.1.trans ?_,qq.2⟩)
  congr 3
  funext c
  show _=upC c;delta upC trC
  by_cases h:97<=c/\c<=122
  ·rw [if_pos h,if_pos (by omega)];omega
  ·rw [if_neg h,if_neg (by omega)]
 | false =>
  refine RF.neg Bool.false_ne_true ((Ug8 (a:=capS) (b:=lowAS) (x:=65) (y:=97) (by kernel_rfl) (by kernel_rfl) false l hl).mono fun v s qq=>⟨qq.1.trans ?_,qq.2⟩)
  congr 3
  funext c
  show _=loC c;delta loC trC
  by_cases h:65<=c/\c<=90
  ·rw [if_pos h,if_pos (by omega)];omega
  ·rw [if_neg h,if_neg (by omega)]
end
theorem xAAEAA{τ0:Sort _}{p0 p1:Prop}{p2 p3:τ0->Prop}{P:Prop}(h:p0/\p1/\∃ a0,p2 a0/\p3 a0)(k:p0->p1->∀ a0,p2 a0->p3 a0->P):P:=h.2.2.elim fun a g=>k h.1 h.2.1 a g.1 g.2
noncomputable def sg(L:List Nat):V:=.lst (L.map fun c=>.str (ch c))
noncomputable def Lv(O:Store)(v:V)(l:List V):Prop:=v=.lst l\/∃ i,v=.ref 14 i/\O.get 14 i=some (.list l)
noncomputable def gapP:List Nat:=[32,47,10,12,47,9,13]
noncomputable def gapN(n m:Nat)(ahead:Str):List Nat:=if (ahead=="bare")=true/\(drawnN gapP n m).take 1=[47] then 32::drawnN gapP n m else drawnN gapP n m
noncomputable def layE:Nat->List Nat->List V
 | _,[]=>[]
 | n,c::r=>(if c=47 then [errV "unexpected-solidus-in-tag" ((n+1:Nat):Int)] else [])++layE (n+1) r
section
variable {p:Params}{O O' O₁ O0:Store}{d i j n m:Nat}{E:List V}{S W K L L':List Nat}{Q:V->Store->Prop}{v w:V}{l:List V}{why ahead:Str}
theorem Lv.dw(h:Lv O v l)(hK:K.contains 14=false):Dw K O v l:=by
 rcases h with rfl | ⟨i,rfl,h⟩
 ·exact Dw.lst
 ·exact Dw.ref h hK
theorem Lv.as(h:Lv O v l):asList O v=some l:=by
 rcases h with rfl | ⟨i,rfl,h⟩
 ·rfl
 ·exact asl_of h
theorem Lv.keep(h:Lv O v l)(x:Un K O O')(hK:K.contains 14=false):Lv O' v l:=by
 rcases h with rfl | ⟨i,rfl,h⟩
 ·exact .inl rfl
 ·exact .inr ⟨i,rfl,(x.get hK).trans h⟩
theorem Uho(a b:Nat):(sgn a==sgn b)=decide (a=b):=by
 delta sgn
 by_cases ha:a=13
 ·by_cases hb:b=13
  ·subst ha hb;rfl
  ·rw [if_pos ha,if_neg hb,decide_eq_false (fun (e:a=b)=>hb (e▸ha))];exact beq_eq_false_iff_ne.mpr fun e=>by
    have e2:(2:Nat)=1:=congrArg Str.length e;exact absurd e2 (by decide)
 ·by_cases hb:b=13
  ·rw [if_neg ha,if_pos hb,decide_eq_false (fun (e:a=b)=>ha (e.trans hb))];exact beq_eq_false_iff_ne.mpr fun e=>by
    have e2:(1:Nat)=2:=congrArg Str.length e;exact absurd e2 (by decide)
  ·rw [if_neg ha,if_neg hb,Uau];rfl
theorem Um2(L:List Nat)(n:Nat):toDs O (n+1) (L.map sv)=some (L.map fun c=>PyData.str (sgn c)):=by
 induction L with
 | nil=>rfl
 | cons c r ih=>exact Ubh rfl ih
theorem eqv_sv:∀ L M:List Nat,PyData.eqvAll (L.map fun c=>PyData.str (sgn c)) (M.map fun c=>PyData.str (sgn c))=decide (L=M)
 | [],[]=>rfl
 | [],b::M=>rfl
 | a::L,[]=>rfl
 | a::L,b::M=>by
  show ((sgn a==sgn b)&&PyData.eqvAll _ _)=_;rw [Uho,eqv_sv L M,Bool.eq_iff_iff];simp
theorem Lv.eq(h:Lv O v (L.map sv))(L':List Nat):cmpV .Eq v (.lst (L'.map sv)) O=some (decide (L=L')):=by
 show eqV O v (.lst (L'.map sv))=_;have e2:toD O 8 (.lst (L'.map sv))=some (.list (L'.map fun c=>PyData.str (sgn c))):=Ui9 (Um2 L' 6);rcases h with rfl | ⟨i,rfl,h⟩
 ·rw [show eqV O (.lst (L.map sv)) (.lst (L'.map sv))=_ from eqG_of (Ui9 (Um2 L 6)) e2];exact congrArg some (eqv_sv L L')
 ·rw [show eqV O (.ref 14 i) (.lst (L'.map sv))=_ from eqG_of (Ugc h (Um2 L 6)) e2];exact congrArg some (eqv_sv L L')
theorem Lv.add(h:Lv O v (L.map sv))(A:List Nat)(hl:A.length+L.length<=1000):binV .Add (.lst (A.map sv)) v O=some (.lst ((A++L).map sv)):=by
 rw [List.map_append];exact Usq rfl h.as (fun w0 e=>by cases e) (fun w0 e=>by cases e) (by rw [List.length_map,List.length_map];exact Nat.le_trans hl (by decide))
theorem Lv.to1(h:Lv O v (L.map sv)):sliceV v none (some (.int 1)) O=some (.lst ((L.take 1).map sv)):=by
 have e:∀ vs:List V,sliceL none (some (1:Int)) vs=vs.take 1:=fun vs=>Uri 1 vs;have h':=h;rcases h with rfl | ⟨i,rfl,h⟩
 ·show some (V.lst (sliceL none (some (1:Int)) (L.map sv)))=_;rw [e,List.map_take]
 ·show ob (asList O (.ref 14 i)) (fun vs=>some (V.lst (sliceL none (some (1:Int)) vs))) none=_;rw [h'.as];show some (V.lst (sliceL none (some (1:Int)) (L.map sv)))=_;rw [e,List.map_take]
theorem Uos(n m:Nat)(ahead:Str)(hm:m < 100)(hlen:O.length=24):Run (callK (P p) (d+2) a__law_gap [.int n,.int m,.str ahead]) O fun v O'=>Lv O' v ((gapN n m ahead).map sv)/\Un [14] O O'/\O'.length=24:=by
 rw [Ul5];show RF _ O _;delta F__law_gap;refine RF.b1 (RF.c (Uc5 (d:=d) gapP (by decide) n m (Nat.lt_trans hm (by decide)) hlen) fun v O1 qq=>xEAAAA qq fun i ev h1 h2 h3=>?_);subst ev;have hL:Lv O1 (.ref 14 i) ((drawnN gapP n m).map sv):=.inr ⟨i,rfl,h1⟩;refine RF.l (a:=ahead==Qcx) rfl ?_;have no:gapN n m ahead=drawnN gapP n m->RF (J__law_gap_0 p (callK (P p) (d+1)) [(Qae,.int n),(Qbf,.int m),(Qj,.str ahead),(Qf,.ref 14 i)]) O1 fun v O'=>Lv O' v ((gapN n m ahead).map sv)/\Un [14] O O'/\O'.length=24:=fun e=>by
  rw [Ue5,e];exact RF.r ⟨hL,h2,h3⟩
 cases hb:ahead==Qcx with
 | false=>exact RF.cf (no (if_neg fun q=>by rw [hb] at q;exact absurd q.1 Bool.false_ne_true))
 | true =>
  refine RF.ct (RF.l hL.to1 (RF.b1 (RF.l (Lv.eq (.inl rfl) [47]) ?_)))
  by_cases h47:(drawnN gapP n m).take 1=[47]
  ·rw [decide_eq_true h47];refine RF.ct (RF.b1 (RF.l (hL.add [32] (by rw [Uah];exact Nat.le_trans (Nat.add_le_add_left (Nat.le_of_lt hm) 1) (by decide))) (RF.r ⟨?_,h2,h3⟩)));rw [show gapN n m ahead=32::drawnN gapP n m from if_pos ⟨hb,h47⟩];exact .inl rfl
  ·rw [decide_eq_false h47];exact RF.cf (no (if_neg fun q=>h47 q.2))
theorem SE.put1(h:SE O i j S E)(c:Nat):SE (O.put 11 i (.list ((S++[c]).map sv))) i j (S++[c]) E:=⟨Uaq.trans h.len,Uaj h.sg,by rw [Uan (by decide)];exact h.er⟩
theorem SE.err1{E':List V}(h:SE O i j S E):SE (O.put 12 j (.list E')) i j S E':=⟨Uaq.trans h.len,by rw [Uan (by decide)];exact h.sg,Uaj h.er⟩
theorem SE.keep(h:SE O i j S E)(x:Un K O O')(h1:K.contains 11=false)(h2:K.contains 12=false)(hl:O'.length=24):SE O' i j S E:=⟨hl,(x.get h1).trans h.sg,(x.get h2).trans h.er⟩
theorem SE.slen(h:SE O i j S E):builtinV .len [.ref 11 i] O=some (.int (S.length:Nat),O):=by
 rw [len_list h.sg,List.length_map]
theorem Run.sa{α:Type}{k:V->M α}{Q:α->Store->Prop}(h:SE O i j S E)(c:Nat)(hl:S.length < 1000)(g:∀ O',SE O' i j (S++[c]) E->Un [11,12] O O'->Run (k .none) O' Q) :
  Run (bnd (look (methK (P p) (.ref 11 i) Qv)) fun m=>if isRepl m then fail else bnd (methodV (callK (P p) d) m (.ref 11 i) [sv c]) k) O Q :=
 Run.app h.sg (Run.b (Uad h.sg (by rw [List.length_map];exact Nat.lt_trans hl (by decide))) (g _ (by have:=h.put1 c;rw [List.map_append] at this;exact this) (Un.put rfl)))
theorem Run.ea{α:Type}{k:V->M α}{Q:α->Store->Prop}{e:V}{code:Str}(h:SE O i j S E)(hl:E.length < 1000)(he:e=.str code)(g:∀ O',SE O' i j S (E++[errV code (S.length:Nat)])->Un [11,12] O O'->Run (k .none) O' Q) :
  Run (bnd (look (methK (P p) (.ref 12 j) Qv)) fun m=>if isRepl m then fail else bnd (builtinV .len [.ref 11 i]) fun x=>bnd (methodV (callK (P p) d) m (.ref 12 j) [.tup [e,x]]) k) O Q:=by
 subst he;exact Run.app h.er (Run.b h.slen (Run.b (Uad h.er (Nat.lt_trans hl (by decide))) (g _ h.err1 (Un.put rfl))))
theorem RF.sa{k:V->M Fl}(h:SE O i j S E)(c:Nat)(hl:S.length < 1000)(g:∀ O',SE O' i j (S++[c]) E->Un [11,12] O O'->RF (k .none) O' Q) :
  RF (bnd (look (methK (P p) (.ref 11 i) Qv)) fun m=>if isRepl m then fail else bnd (methodV (callK (P p) d) m (.ref 11 i) [sv c]) k) O Q :=
 RF.app h.sg (RF.b (Uad h.sg (by rw [List.length_map];exact Nat.lt_trans hl (by decide))) (g _ (by have:=h.put1 c;rw [List.map_append] at this;exact this) (Un.put rfl)))
theorem RF.ea{k:V->M Fl}{e:V}{code:Str}(h:SE O i j S E)(hl:E.length < 1000)(he:e=.str code)(g:∀ O',SE O' i j S (E++[errV code (S.length:Nat)])->Un [11,12] O O'->RF (k .none) O' Q) :
  RF (bnd (look (methK (P p) (.ref 12 j) Qv)) fun m=>if isRepl m then fail else bnd (builtinV .len [.ref 11 i]) fun x=>bnd (methodV (callK (P p) d) m (.ref 12 j) [.tup [e,x]]) k) O Q:=by
 subst he;exact RF.app h.er (RF.b h.slen (RF.b (Uad h.er (Nat.lt_trans hl (by decide))) (g _ h.err1 (Un.put rfl))))
theorem sgn_ch(k:Nat)(hk:k≠13):ch k=sgn k:=(if_neg hk).symm
theorem sv_eq(c k:Nat)(hk:k≠13):cmpV .Eq (sv c) (.str (ch k)) O=some (decide (c=k)):=by
 show some (sgn c==ch k)=_;rw [sgn_ch k hk,Uho]
theorem Uib:∀ (n:Nat) (a:List Nat) (c:Nat),layE n (a++[c])=layE n a++(if c=47 then [errV "unexpected-solidus-in-tag" ((n+a.length+1:Nat):Int)] else [])
 | n,[],c=>by show _++[]=_;rw [List.append_nil];rfl
 | n,b::a,c=>by
  show _++layE (n+1) (a++[c])=(_++_)++_;rw [Uib (n+1) a c,List.append_assoc,show n+1+a.length=n+(b::a).length by rw [List.length_cons];omega]
theorem Uha:∀ (n:Nat) (a:List Nat),(layE n a).length<=a.length
 | _,[]=>Nat.le_refl _
 | n,c::a=>by
  have:=Uha (n+1) a;show (_++layE (n+1) a).length<=_;rw [List.length_append,List.length_cons];split <;> simp <;> omega
theorem Uow(h:SE O i j S E)(L:List Nat)(hv:Lv O v (L.map sv))(hL:L.length < 100)(hS:S.length < 800)(hE:E.length < 800) :
  Run (callK (P p) (d+1) a__law_lay [.ref 11 i,.ref 12 j,v]) O fun v O'=>v=.none/\SE O' i j (S++L) (E++layE S.length L)/\Un [11,12] O O':=by
 rw [Ulk];show RF _ O _;delta F__law_lay;have hD:Dw [11,12] O v (L.map sv):=hv.dw rfl;refine forRun (fun k fr s=>SE s i j (S++L.take k) (E++layE S.length (L.take k))/\Un [11,12] O s/\∃ r,fr=(Qa,V.ref 11 i)::(Qb,.ref 12 j)::(Qf,v)::r/\(r=[]\/∃ u,r=[(Qx,u)])) (L.map sv)
  ⟨by rw [List.take_zero,List.append_nil,show layE S.length []=[] from rfl,List.append_nil];exact h,Un.rfl,[],rfl,.inl rfl⟩ (by rw [List.length_map];exact Nat.lt_trans hL (by decide)) (fun k v' fr s hv hI=>?_) (fun fr s hI=>?_) fun fr s hI=>?_
 ·refine xAAEAA hI fun h1 h2 r h3 h4=>?_;clear hI;refine ⟨by rw [(hD s h2).1 k,hv],(Qa,.ref 11 i)::(Qb,.ref 12 j)::(Qf,v)::[(Qx,v')],?_,?_⟩
  ·rcases h4 with rfl | ⟨u,rfl⟩ <;> (subst h3;exact Ubg (by kernel_rfl))
  ·rw [List.getElem?_map] at hv;refine xEAA (Option.map_eq_some_iff.mp hv) fun c hc qz1=>?_;subst qz1;have hk:k < L.length:=by rw [List.getElem?_eq_some_iff] at hc;exact hc.1
   have ht:L.take (k+1)=L.take k++[c]:=by rw [List.take_add_one,hc];rfl
   have hlk:(L.take k).length=k:=by rw [List.length_take];exact Nat.min_eq_left (Nat.le_of_lt hk)
   have hle:(layE S.length (L.take k)).length<=k:=Nat.le_trans (Uha S.length (L.take k)) (Nat.le_of_eq hlk);rw [Udj];delta T__law_lay_l0_0;refine Run.sa h1 c (by rw [List.length_append,hlk];omega) fun s1 h5 x5=>Run.l (sv_eq c 47 (by decide)) ?_;rw [List.append_assoc,<- ht] at h5;have fin:∀ {s':Store},SE s' i j (S++L.take (k+1)) (E++layE S.length (L.take (k+1)))->Un [11,12] O s'->Run (ret (Fl.next [(Qa,.ref 11 i),(Qb,.ref 12 j),(Qf,v),(Qx,sv c)])) s' fun fl O'=>(∃ fr',fl=.next fr'/\SE O' i j (S++L.take (k+1)) (E++layE S.length (L.take (k+1)))/\Un [11,12] O O'/\∃ r,fr'=(Qa,V.ref 11 i)::(Qb,.ref 12 j)::(Qf,v)::r/\(r=[]\/∃ u,r=[(Qx,u)]))\/∃ v,fl=.ret v/\v=.none/\SE O' i j (S++L) (E++layE S.length L)/\Un [11,12] O O' :=
    fun a b=>Run.next (.inl ⟨_,rfl,a,b,_,rfl,.inr ⟨_,rfl⟩⟩)
   by_cases h47:c=47
   ·rw [decide_eq_true h47];refine Run.pos rfl (Run.ea h5 (by rw [List.length_append];omega) rfl fun s2 h6 x6=>fin ?_ ((h2.trans x5).trans x6));have e1:(S++L.take (k+1)).length=S.length+k+1:=by rw [List.length_append,List.length_take,Nat.min_eq_left hk];rfl
    have e2:layE S.length (L.take (k+1))=layE S.length (L.take k)++[errV "unexpected-solidus-in-tag" ((S.length+k+1:Nat):Int)]:=by rw [ht,Uib,if_pos h47,hlk]
    rw [e1] at h6;rw [e2,<- List.append_assoc];exact h6
   ·rw [decide_eq_false h47];refine Run.neg Bool.false_ne_true (fin ?_ (h2.trans x5));rw [show layE S.length (L.take (k+1))=layE S.length (L.take k) by rw [ht,Uib,if_neg h47,List.append_nil]];exact h5
 ·refine xAAEAA hI fun h1 h2 r h3 h4=>?_;rw [(hD s h2).1,List.getElem?_eq_none (Nat.le_refl _)]
 ·rw [List.length_map,List.take_length] at hI;refine xAAEAA hI fun h1 h2 r h3 h4=>?_;rcases h4 with rfl | ⟨u,rfl⟩
  ·rw [h3,Ue4];exact RF.n ⟨rfl,h1,h2⟩
  ·rw [h3,Ufz];exact RF.n ⟨rfl,h1,h2⟩
end
section
variable {p:Params}{O O' O₁ O0:Store}{d i j n m:Nat}{E:List V}{S W K L L' odd:List Nat}{Q:V->Store->Prop}{v w:V}{l:List V}{why ahead:Str}
theorem sv_in(c:Nat)(l:List Nat)(h:13 ∉ l):cmpV .In (sv c) (sg l) O=some (decide (c ∈ l)):=by
 have e:cmpV .In (sv c) (sg l) O=some ((l.map ch).any (·==sgn c)):=ob_of (f:=fun l:List Str=>some (l.any (·==sgn c))) (z:=none) (Unb l);rw [e]
 by_cases hc:c=13
 ·subst hc;rw [decide_eq_false h]
  congr 1
  rw [List.any_eq_false];intro x hx;obtain ⟨b,hb,rfl⟩:=List.mem_map.mp hx;rw [sgn_ch b (fun q=>h (q▸hb)),Uho,decide_eq_false (fun (q:b=13)=>h (q▸hb))];exact Bool.false_ne_true
 ·rw [<- sgn_ch c hc,any_ch]
noncomputable abbrev putEs:List (Str×V):=[("\x00",.str "�"),("\x0d\x0a",.str "\x0a")]
theorem put_lk(c:Nat):(lk (sgn c) putEs).getD (sv c)=.str (ch (vC c)):=by
 have e1:(Qab==sgn c)=decide (0=c):=Uho 0 c;have e2:(Qdh==sgn c)=decide (13=c):=Uho 13 c;delta putEs;rw [lk,e1,lk,e2]
 by_cases h0:0=c
 ·subst h0;rfl
 ·rw [decide_eq_false h0,if_neg Bool.false_ne_true]
  by_cases h1:13=c
  ·subst h1;rfl
  ·rw [decide_eq_false h1,if_neg Bool.false_ne_true];show sv c=_;delta vC repC;rw [if_neg (fun q=>h1 q.symm),if_neg (fun q=>h0 q.symm)];delta sv;rw [sgn_ch c (fun q=>h1 q.symm)]
theorem Utd(odd:List Nat)(why:Str)(a:List Nat)(c:Nat)(n:Int):tk odd why n (a++[c])=tk odd why n a++tk1 odd why (n+a.length) c:=by
 rw [tk_app];exact congrArg (tk odd why n a++·) (List.append_nil _)
noncomputable abbrev frP(i j:Nat)(v:V)(odd:List Nat)(why t:Str)(r:Fr):Fr:=(Qa,.ref 11 i)::(Qb,.ref 12 j)::(Qi,v)::(Qbg,sg odd)::(Qbh,.str why)::(Qk,.str t)::r
theorem xEAAEAA{τ0 τ1:Sort _}{p0 p1:τ0->Prop}{p2 p3:τ0->τ1->Prop}{P:Prop}(h:∃ a,p0 a/\p1 a/\∃ b,p2 a b/\p3 a b)(k:∀ a,p0 a->p1 a->∀ b,p2 a b->p3 a b->P):P:=h.elim fun a g=>g.2.2.elim fun b f=>k a g.1 g.2.1 b f.1 f.2
theorem Run.md{α:Type}{r i:Nat}{es:List (Str×V)}{x:Str}{id:Mi}{k:MK->M α}{Q:α->Store->Prop}(h:O.get r i=some (.dict es))(hx:dictM x=some id)(hr:isRepl (.bi id)=false)(g:Run (k (.bi id)) O Q):Run (bnd (look (methK (P p) (.ref r i) x)) fun m=>if isRepl m then fail else k m) O Q:=Run.l ((Ujc h).trans (by rw [hx];rfl)) (Run.neg (by rw [hr];decide) g)
noncomputable def PutI(O O':Store)(i j:Nat)(S:List Nat)(E:List V)(odd:List Nat)(why:Str)(L:List Nat):Prop:=SE O' i j (S++L) (E++tk odd why S.length L)/\Un [11,12,15] O O'
theorem Ui0{s:Store}{c k:Nat}{E':List V}(h1:SE s i j (S++L.take k) E')(h2:Un [11,12,15] O s)(hc:L[k]?=some c)(hL:L.length < 100)(hS:S.length < 800)(he:E'=E++tk odd why S.length (L.take (k+1))) :
  Run (J__law_put_1 p (callK (P p) d) (frP i j v odd why (ofC ((L.take k).map vC)) [(Qx,sv c)])) s fun fl O'=>∃ fr',fl=.next fr'/\PutI O O' i j S E odd why (L.take (k+1))/\∃ r,fr'=frP i j v odd why (ofC ((L.take (k+1)).map vC)) r/\(r=[]\/∃ u,r=[(Qx,u)]):=by
 have hk:k < L.length:=by rw [List.getElem?_eq_some_iff] at hc;exact hc.1
 have ht:L.take (k+1)=L.take k++[c]:=by rw [List.take_add_one,hc];rfl
 have hlk:(L.take k).length=k:=by rw [List.length_take];exact Nat.min_eq_left (Nat.le_of_lt hk)
 rw [Uff];delta J__law_put_1_T0;refine Run.sa h1 c (by rw [List.length_append,hlk];omega) fun s1 h5 x5=>?_;rw [List.append_assoc,<- ht] at h5;refine xEA (reg_of h5.len (by decide:15 < 24)) fun l hl=>?_;refine Run.b (Uji hl) (Run.md (Ua0 hl) (by kernel_rfl) (by decide) (Run.b (get_of (Ua0 hl) (put_lk c)) (Run.l (a:=.str (ofC ((L.take (k+1)).map vC))) ?_ (Run.next ⟨_,rfl,⟨?_,?_⟩,_,rfl,.inr ⟨_,rfl⟩⟩))))
 ·rw [add_str (by rw [Upp,List.length_map,hlk];exact Nat.succ_le_of_lt (Nat.lt_trans hk (Nat.lt_trans hL (by decide)))),Um0,ht,List.map_append];rfl
 ·rw [<- he];exact h5.keep (K:=[15]) (Un.add rfl) rfl rfl (Uba.trans h5.len)
 ·exact (h2.trans (x5.sub rfl)).trans (Un.add rfl)
theorem Ujg(h:SE O i j S E)(L odd:List Nat)(hv:Dw [11,12,15] O v (L.map sv))(ho:13 ∉ odd)(hL:L.length < 100)(hS:S.length < 800)(hE:E.length < 800) :
  Run (callK (P p) (d+1) a__law_put [.ref 11 i,.ref 12 j,v,sg odd,.str why]) O fun v O'=>v=.str (ofC (L.map vC))/\PutI O O' i j S E odd why L:=by
 rw [Ukj];show RF _ O _;delta F__law_put;refine forRun (fun k fr s=>PutI O s i j S E odd why (L.take k)/\∃ r,fr=frP i j v odd why (ofC ((L.take k).map vC)) r/\(r=[]\/∃ u,r=[(Qx,u)])) (L.map sv)
  ⟨⟨by rw [List.take_zero,List.append_nil,show tk odd why S.length []=[] from rfl,List.append_nil];exact h,Un.rfl⟩,[],rfl,.inl rfl⟩ (by rw [List.length_map];exact Nat.lt_trans hL (by decide)) (fun k v' fr s hv' hI=>?_) (fun fr s hI=>?_) fun fr s hI=>?_
 ·refine xAEAA hI fun h0 r h3 h4=>xAA h0 fun h1 h2=>?_;clear hI h0;refine ⟨by rw [(hv s h2).1 k,hv'],frP i j v odd why (ofC ((L.take k).map vC)) [(Qx,v')],?_,?_⟩
  ·rcases h4 with rfl | ⟨u,rfl⟩ <;> (subst h3;exact Ubg (by kernel_rfl))
  ·rw [List.getElem?_map] at hv';refine xEAA (Option.map_eq_some_iff.mp hv') fun c hc qz1=>?_;subst qz1;have hk:k < L.length:=by rw [List.getElem?_eq_some_iff] at hc;exact hc.1
   have ht:L.take (k+1)=L.take k++[c]:=by rw [List.take_add_one,hc];rfl
   have hlk:(L.take k).length=k:=by rw [List.length_take];exact Nat.min_eq_left (Nat.le_of_lt hk)
   have hle:(tk odd why S.length (L.take k)).length<=k:=Nat.le_trans (tk_len odd why (L.take k) S.length) (Nat.le_of_eq hlk);have hlE:(E++tk odd why S.length (L.take k)).length < 1000:=by rw [List.length_append];omega
   have e1:((S++L.take k).length:Nat)=S.length+k:=by rw [List.length_append,hlk]
   have e2:E++tk odd why S.length (L.take (k+1))=E++tk odd why S.length (L.take k)++tk1 odd why ((S.length+k:Nat):Int) c:=by rw [ht,Utd,hlk,List.append_assoc];rfl
   rw [Udq];delta T__law_put_l0_0;refine Run.l (sv_eq c 0 (by decide)) ?_
   by_cases h0:c=0
   ·rw [decide_eq_true h0];refine Run.pos rfl (Run.ea h1 hlE rfl fun s1 h5 x5=>(Ui0 h5 (h2.trans (x5.sub rfl)) hc hL hS ?_).mono fun fl s' qq=>.inl (xEAAEAA qq fun fr' a b r c d=>⟨fr',a,b,r,c,d⟩));rw [e1,e2,show tk1 odd why ((S.length+k:Nat):Int) c=_ from if_pos h0]
   ·rw [decide_eq_false h0];refine Run.neg Bool.false_ne_true (Run.l (sv_in c odd ho) ?_)
    by_cases hm:c ∈ odd
    ·rw [decide_eq_true hm];refine Run.pos rfl (Run.ea h1 hlE rfl fun s1 h5 x5=>(Ui0 h5 (h2.trans (x5.sub rfl)) hc hL hS ?_).mono fun fl s' qq=>.inl (xEAAEAA qq fun fr' a b r c d=>⟨fr',a,b,r,c,d⟩));rw [e1,e2,show tk1 odd why ((S.length+k:Nat):Int) c=_ from (if_neg h0).trans (if_pos hm)]
    ·rw [decide_eq_false hm];refine Run.neg Bool.false_ne_true ((Ui0 h1 h2 hc hL hS ?_).mono fun fl s' qq=>.inl (xEAAEAA qq fun fr' a b r c d=>⟨fr',a,b,r,c,d⟩));rw [e2,show tk1 odd why ((S.length+k:Nat):Int) c=_ from (if_neg h0).trans (if_neg hm),List.append_nil]
 ·refine xAEAA hI fun h0 r h3 h4=>?_;rw [(hv s h0.2).1,List.getElem?_eq_none (Nat.le_refl _)]
 ·rw [List.length_map,List.take_length] at hI;refine xAEAA hI fun h0 r h3 h4=>?_;rcases h4 with rfl | ⟨u,rfl⟩
  ·rw [h3,Uez];exact RF.r ⟨rfl,h0⟩
  ·rw [h3,Ufe];exact RF.r ⟨rfl,h0⟩
end
noncomputable def nameP:List Nat:=[97,66,65,0,122,8490,34,90,60,64,39,91,98,201]
noncomputable def nameN(n:Nat)(A:List (List Nat)):List Nat :=
 if n % 3=0/\A≠[] then (if n / 3 % 2=0 then (A.getD (n / 6 % A.length) []).map upC else A.getD (n / 6 % A.length) []) else drawnN nameP (n / 6) (1+n / 3 % 2)
noncomputable def bareP:List Nat:=[97,47,66,34,61,0,39,60,96,8490]
noncomputable def bareD(n:Nat):List Nat:=drawnN bareP (n / 3) (1+n % 3)
noncomputable def bareL(n:Nat):List Nat:=if (bareD n).getD 0 0 ∈ [34,39] then 99::bareD n else bareD n
noncomputable def quoP(q:Nat):List Nat:=[97,62,0,if q=34 then 39 else 34,47,32,61,60,66,13,96]
noncomputable def quoL(q n:Nat):List Nat:=drawnN (quoP q) (n / 4) (n % 4)
section
variable {p:Params}{O O' O₁ O0:Store}{d i j n m:Nat}{E:List V}{S W K L L' odd:List Nat}{Q:V->Store->Prop}{v w:V}{l:List V}{why ahead:Str}{A:List (List Nat)}
theorem eq_int(k m:Nat):cmpV .Eq (.int k) (.int m) O=some (decide (k=m)):=by
 show some ((k:Int)==(m:Int))=_
 congr 1
 rw [Bool.eq_iff_iff];simp
 omega
noncomputable def sA(A:List (List Nat)):V:=.lst (A.map fun a=>.str (ofC a))
theorem sA_ne(A:List (List Nat)):cmpV .NotEq (sA A) (.lst []) O=some (decide (A≠[])):=by
 have hl:∀ A:List (List Nat),toDs O 7 (A.map fun a=>V.str (ofC a))=some (A.map fun a=>PyData.str (ofC a)):=fun A=>by
  induction A with
  | nil=>rfl
  | cons c r ih=>exact Ubh rfl ih
 show (eqV O (sA A) (.lst [])).map (!·)=_;rw [show eqV O (sA A) (.lst [])=_ from eqG_of (Ui9 (hl A)) rfl];cases A with
 | nil=>rfl
 | cons a r=>rfl
theorem Umg(L:List Nat)(h:∀ c ∈ L,c≠13):builtinV .list [.str (ofC L)] O=some (.lst (L.map sv),O):=by
 show some (V.lst (L.map fun c=>.str ⟨#[c]⟩),O)=_;rw [show L.map sv=L.map fun c=>V.str ⟨#[c]⟩ from List.map_congr_left fun c hc=>by delta sv;rw [<- sgn_ch c (h c hc)];rfl]
theorem upC13{c:Nat}(h:c≠13):upC c≠13:=by delta upC;split <;> omega
theorem Uoi(n:Nat)(A:List (List Nat))(hA:A.length < 100)(hc:∀ a ∈ A,a.length < 100/\∀ c ∈ a,c≠13)(hlen:O.length=24) :
  Run (callK (P p) (d+2) a__law_name [.int n,sA A]) O fun v O'=>Lv O' v ((nameN n A).map sv)/\Un [14] O O'/\O'.length=24:=by
 rw [Uj3];show RF _ O _;delta F__law_name;have no:nameN n A=drawnN nameP (n / 6) (1+n / 3 % 2)->RF (J__law_name_0 p (callK (P p) (d+1)) [(Qae,.int n),(Qak,sA A)]) O fun v O'=>Lv O' v ((nameN n A).map sv)/\Un [14] O O'/\O'.length=24:=fun e=>by
  rw [Ud6,e];delta J__law_name_0_T0;refine RF.b1 (RF.l (div_of n 6 (by decide)) (RF.l (div_of n 3 (by decide)) (RF.l (mod_of (n / 3) 2 (by decide)) (RF.l (a:=.int ((1+n / 3 % 2:Nat):Int)) (by rw [Int.natCast_add];rfl) ?_))));refine RF.c (Uc5 (d:=d) nameP (by decide) (n / 6) (1+n / 3 % 2) (by omega) hlen) fun v O1 qq=>xEAAAA qq fun i ev h1 h2 h3=>?_;subst ev;exact RF.r ⟨.inr ⟨i,rfl,h1⟩,h2,h3⟩
 refine RF.l (mod_of n 3 (by decide)) (RF.l (eq_int (n % 3) 0) ?_)
 by_cases h3:n % 3=0
 ·rw [decide_eq_true h3];refine RF.ct (RF.b1 (RF.l (sA_ne A) ?_))
  by_cases h0:A≠[]
  ·rw [decide_eq_true h0];have hl:0 < A.length:=List.length_pos_iff.mpr h0;have hlt:n / 6 % A.length < A.length:=Nat.mod_lt _ hl;have hg:A[n / 6 % A.length]?=some (A.getD (n / 6 % A.length) []):=by rw [List.getD_eq_getElem?_getD,List.getElem?_eq_getElem hlt];rfl
   have hm:=List.mem_of_getElem? hg;have e:nameN n A=if n / 3 % 2=0 then (A.getD (n / 6 % A.length) []).map upC else A.getD (n / 6 % A.length) []:=if_pos ⟨h3,h0⟩;rw [e]
   generalize A.getD (n / 6 % A.length) []=a at hg hm
   refine RF.ct (RF.l (div_of n 6 (by decide)) (RF.b (a:=.int (A.length:Nat)) (O₁:=O) (by show some (V.int ((A.map _).length:Nat),O)=_;rw [List.length_map]) (RF.l (mod_of (n / 6) A.length hl) (RF.l (a:=.str (ofC a)) (Uj1 (vs:=A.map fun a=>V.str (ofC a)) rfl (fun w0 e=>by cases e) (by rw [List.getElem?_map,hg];rfl))
    (RF.l (div_of n 3 (by decide)) (RF.l (mod_of (n / 3) 2 (by decide)) (RF.l (eq_int (n / 3 % 2) 0) ?_)))))))
   by_cases h2:n / 3 % 2=0
   ·rw [decide_eq_true h2,if_pos h2];refine RF.pos rfl (RF.c (Ug0 (d:=d) true a (Nat.lt_trans (hc a hm).1 (by decide))) fun v O1 qq=>xAA qq fun ev e1=>?_);subst ev e1;refine RF.b (Umg (a.map upC) fun c hcm=>?_) (RF.r ⟨.inl rfl,Un.rfl,hlen⟩);obtain ⟨b,hb,rfl⟩:=List.mem_map.mp hcm;exact upC13 ((hc a hm).2 b hb)
   ·rw [decide_eq_false h2,if_neg h2];exact RF.neg Bool.false_ne_true (RF.b (Umg a (hc a hm).2) (RF.r ⟨.inl rfl,Un.rfl,hlen⟩))
  ·rw [decide_eq_false h0];exact RF.cf (no (if_neg fun q=>h0 q.2))
 ·rw [decide_eq_false h3];exact RF.cf (no (if_neg fun q=>h3 q.1))
theorem Un5(h:SE O i j S E)(n:Nat)(hS:S.length < 700)(hE:E.length < 700) :
  Run (callK (P p) (d+2) a__law_value [.ref 11 i,.ref 12 j,.int n,.str "bare"]) O fun v O'=>v=.str (ofC ((bareL n).map vC))/\SE O' i j (S++bareL n) (E++tk vOdd vWhy S.length (bareL n))/\Un [11,12,14,15] O O':=by
 rw [Ufc];show RF _ O _;delta F__law_value;refine RF.l (a:=true) (by kernel_rfl) (RF.pos rfl (RF.l (div_of n 3 (by decide)) (RF.b1 (RF.l (mod_of n 3 (by decide)) (RF.l (a:=.int ((1+n % 3:Nat):Int)) (by rw [Int.natCast_add];rfl) ?_)))));refine RF.c (Uc5 (d:=d) bareP (by decide) (n / 3) (1+n % 3) (by omega) h.len) fun v O1 qq=>xEAAAA qq fun k ev h1 h2 h3=>?_;subst ev;have hs:SE O1 i j S E:=h.keep h2 rfl rfl h3;have hlv:Lv O1 (.ref 14 k) ((bareD n).map sv):=.inr ⟨k,rfl,h1⟩;have hbl:(bareD n).length=1+n % 3:=Uah _ _ _;have hg:(bareD n)[0]?=some ((bareD n).getD 0 0):=by rw [List.getD_eq_getElem?_getD,List.getElem?_eq_getElem (by omega)];rfl
 have fin:∀ {v:V},Lv O1 v ((bareL n).map sv)->RF (J__law_value_1 p (callK (P p) (d+1)) [(Qa,.ref 11 i),(Qb,.ref 12 j),(Qae,.int n),(Qah,.str "bare"),(Qi,v)]) O1 fun v O'=>v=.str (ofC ((bareL n).map vC))/\SE O' i j (S++bareL n) (E++tk vOdd vWhy S.length (bareL n))/\Un [11,12,14,15] O O':=fun {v} hv=>by
  rw [Udn];delta J__law_value_1_T0;have hl:(bareL n).length < 100:=by delta bareL;split <;> (try rw [List.length_cons]) <;> omega
  refine RF.b1 (RF.c (Ujg (d:=d) (why:=vWhy) hs (bareL n) vOdd (hv.dw rfl) (by decide) hl (by omega) (by omega)) fun v s qq=>xAA qq fun ev hp=>?_);subst ev;exact RF.r ⟨rfl,hp.1,(h2.sub rfl).trans (hp.2.sub rfl)⟩
 refine RF.l (a:=sv ((bareD n).getD 0 0)) (Uj1 (vs:=(bareD n).map sv) (k:=0) (Uju h1) (fun w0 e=>by cases e) (by rw [List.getElem?_map,hg];rfl)) (RF.b1 (RF.l (sv_in _ [34,39] (by decide)) ?_))
 by_cases hq:(bareD n).getD 0 0 ∈ [34,39]
 ·rw [decide_eq_true hq];refine RF.pos rfl (RF.b1 (RF.l (hlv.add [99] (by rw [hbl];simp only [List.length_cons,List.length_nil];omega)) (fin ?_)));rw [show bareL n=99::bareD n from if_pos hq];exact .inl rfl
 ·rw [decide_eq_false hq];refine RF.neg Bool.false_ne_true (fin ?_);rw [show bareL n=bareD n from if_neg hq];exact hlv
theorem Umw(h:SE O i j S E)(q n:Nat)(hq:q=34\/q=39)(way:V)(hS:S.length < 700)(hE:E.length < 700) :
  RF (J__law_value_2 p (callK (P p) (d+1)) [(Qa,.ref 11 i),(Qb,.ref 12 j),(Qae,.int n),(Qah,way),(Qbp,sv q),(Qdj,sv (if q=34 then 39 else 34))]) O fun v O' =>
   v=.str (ofC ((quoL q n).map vC))/\SE O' i j (S++[q]++quoL q n++[q]) (E++tk [] "" ((S.length+1:Nat):Int) (quoL q n))/\Un [11,12,14,15] O O':=by
 rw [Udv];delta J__law_value_2_T0;have hlq:(quoL q n).length < 4:=by delta quoL;rw [Uah];omega
 have hlp:(quoP q).length=11:=rfl;refine RF.sa h q (by omega) fun s1 h1 x1=>RF.l (div_of n 4 (by decide)) (RF.b1 (RF.l (mod_of n 4 (by decide)) ?_));refine RF.c (Uc5 (d:=d) (quoP q) (by rw [hlp];decide) (n / 4) (n % 4) (by omega) h1.len) fun v s2 qq=>xEAAAA qq fun k ev h2 x2 h3=>?_;subst ev;have hs:SE s2 i j (S++[q]) E:=h1.keep x2 rfl rfl h3;refine RF.b1 (RF.c (Ujg (d:=d) (why:="") hs (quoL q n) [] (Dw.ref h2 rfl) (by decide) (by omega) (by rw [List.length_append];simp only [List.length_cons,List.length_nil];omega) (by omega)) fun v s3 qq=>xAA qq fun ev hp=>?_);subst ev;have hl:(S++[q]++quoL q n).length < 1000:=by simp only [List.length_append,List.length_cons,List.length_nil];omega
 refine RF.sa hp.1 q hl fun s4 h4 x4=>RF.r ⟨rfl,?_,(x1.sub rfl).trans ((x2.sub rfl).trans ((hp.2.sub rfl).trans (x4.sub rfl)))⟩;rw [show ((S.length+1:Nat))=(S++[q]).length by rw [List.length_append];rfl];exact h4
theorem Uo3(h:SE O i j S E)(q n:Nat){way:Str}(hq:(q=34/\way="double")\/(q=39/\way="single"))(hS:S.length < 700)(hE:E.length < 700) :
  Run (callK (P p) (d+2) a__law_value [.ref 11 i,.ref 12 j,.int n,.str way]) O fun v O' =>
   v=.str (ofC ((quoL q n).map vC))/\SE O' i j (S++[q]++quoL q n++[q]) (E++tk [] "" ((S.length+1:Nat):Int) (quoL q n))/\Un [11,12,14,15] O O':=by
 rw [Ufc];show RF _ O _;delta F__law_value;rcases hq with ⟨rfl,rfl⟩ | ⟨rfl,rfl⟩
 ·refine RF.l (a:=false) (by kernel_rfl) (RF.neg Bool.false_ne_true ?_);rw [Ubl];exact RF.l (a:=true) (by kernel_rfl) (RF.pos rfl (Umw h 34 n (.inl rfl) _ hS hE))
 ·refine RF.l (a:=false) (by kernel_rfl) (RF.neg Bool.false_ne_true ?_);rw [Ubl];exact RF.l (a:=false) (by kernel_rfl) (RF.neg Bool.false_ne_true (Umw h 39 n (.inr rfl) _ hS hE))
end
inductive Way where
 | name | none | bare | single | double | missing
noncomputable def Way.str:Way->Str
 | .name=>"name"
 | .none=>"none"
 | .bare=>"bare"
 | .single=>"single"
 | .double=>"double"
 | .missing=>"missing"
noncomputable def wayN(n:Nat):Way:=[Way.none,.bare,.single,.double,.missing].getD (n % 5) .missing
noncomputable def blk(k:Nat):List Nat:=([32,10,9,12].drop k).take 1
noncomputable def midN(n:Nat):List Nat:=blk (n / 5 % 5)++[61]++blk (n / 25 % 5)
noncomputable def Way.mid:Way->Nat->List Nat
 | .none,_=>[]
 | _,n=>midN n
noncomputable def Way.vS:Way->Nat->List Nat
 | .bare,n=>bareL n
 | .single,n=>[39]++quoL 39 n++[39]
 | .double,n=>[34]++quoL 34 n++[34]
 | _,_=>[]
noncomputable def Way.vE:Way->Nat->Nat->List V
 | .bare,k,n=>tk vOdd vWhy k (bareL n)
 | .single,k,n=>tk [] "" ((k+1:Nat):Int) (quoL 39 n)
 | .double,k,n=>tk [] "" ((k+1:Nat):Int) (quoL 34 n)
 | _,_,_=>[]
noncomputable def Way.vV:Way->Nat->List Nat
 | .bare,n=>(bareL n).map vC
 | .single,n=>(quoL 39 n).map vC
 | .double,n=>(quoL 34 n).map vC
 | _,_=>[]
noncomputable abbrev At1:=List (List Nat×List Nat)
noncomputable def aV(x:List Nat×List Nat):V:=.tup [.str (ofC x.1),.str (ofC x.2)]
noncomputable def kn(A:At1):List (List Nat):=A.map (·.1)
noncomputable def lowN(L:List Nat):List Nat:=(L.map vC).map loC
noncomputable def attA(A:At1)(nm v:List Nat):At1:=if nm ∈ kn A then A else A++[(nm,v)]
section
variable {p:Params}{O O' O₁ O0:Store}{d i j n m a:Nat}{E:List V}{S W K L L' odd G nm:List Nat}{Q:V->Store->Prop}{v w:V}{l:List V}{why ahead:Str}{A:At1}{y:Way}
theorem Uon(a b:List Nat):(ofC a==ofC b)=decide (a=b):=by
 by_cases h:a=b
 ·subst h;rw [decide_eq_true rfl];exact beq_self_eq_true _
 ·rw [decide_eq_false h];exact beq_eq_false_iff_ne.mpr fun e=>h (congrArg (fun s:Str=>s.cps.toList) e)
theorem Umh(l:List (List Nat)):strsOf (l.map fun a=>V.str (ofC a))=some (l.map ofC):=by
 induction l with
 | nil=>rfl
 | cons a r ih=>exact ob_of (f:=fun ds=>some (ofC a::ds)) (z:=Option.none) ih
theorem sA_in(a:List Nat)(A:List (List Nat)):cmpV .In (.str (ofC a)) (sA A) O=some (decide (a ∈ A)):=by
 have e:cmpV .In (.str (ofC a)) (sA A) O=some ((A.map ofC).any (·==ofC a)):=ob_of (f:=fun l:List Str=>some (l.any (·==ofC a))) (z:=Option.none) (Umh A);rw [e,List.any_map]
 congr 1
 rw [Bool.eq_iff_iff];simp only [List.any_eq_true,Function.comp,Uon,decide_eq_true_iff];constructor
 ·rintro ⟨x,h,rfl⟩;exact h
 ·intro h;exact ⟨a,h,rfl⟩
theorem sA_nin(a:List Nat)(A:List (List Nat)):cmpV .NotIn (.str (ofC a)) (sA A) O=some (decide (a ∉ A)):=by
 show (cmpV .In (.str (ofC a)) (sA A) O).map (!·)=_;rw [sA_in];show some (!decide (a ∈ A))=_;rw [decide_not]
noncomputable def AttQ(O:Store)(i j a:Nat)(S:List Nat)(E:List V)(A:At1)(y:Way)(v:V)(O':Store):Prop:=v=.str y.str/\SE O' i j S E/\O'.get 13 a=some (.list (A.map aV))/\Un [11,12,13,14,15] O O'
noncomputable abbrev frA(i j a:Nat)(ns ah gap:V)(r:Fr):Fr:=(Qa,.ref 11 i)::(Qb,.ref 12 j)::(Qe,.ref 13 a)::(Qu,ns)::(Qj,ah)::(Qf,gap)::r
theorem att3{ns ah gap dr b1 b2 b3:V}(h:SE O i j S E)(ha:O.get 13 a=some (.list (A.map aV)))(hl:A.length < 100)(vv:List Nat) :
  (∀ r,(r=[]\/r=[(Qce,b1),(Qcf,b2),(Qcg,b3)]) ->
   RF (J__law_attr_2 p (callK (P p) d) (frA i j a ns ah gap ((Qak,sA (kn A))::(Qi,dr)::(Qg,.str (ofC nm))::(Qah,.str y.str)::(Qay,.str (ofC vv))::r))) O (AttQ O i j a S E (attA A nm vv) y)):=fun r hr=>by
 have go:∀ {k:M Fl},(∀ {s:Store} {Q:V->Store->Prop},Q (.str y.str) s->RF k s Q)->RF (bnd (look (cmpV .NotIn (.str (ofC nm)) (sA (kn A)))) fun b=>if b then bnd (look (methK (P p) (.ref 13 a) Qv)) fun m=>if isRepl m then fail else bnd (methodV (callK (P p) d) m (.ref 13 a) [.tup [.str (ofC nm),.str (ofC vv)]]) fun w0=>k else k) O (AttQ O i j a S E (attA A nm vv) y):=fun {k} hk=>by
  refine RF.l (sA_nin nm (kn A)) ?_
  by_cases hm:nm ∈ kn A
  ·rw [decide_eq_false (fun q=>q hm)];refine RF.neg Bool.false_ne_true (hk ⟨rfl,h,?_,Un.rfl⟩);rw [show attA A nm vv=A from if_pos hm];exact ha
  ·rw [decide_eq_true hm];refine RF.pos rfl (RF.app ha (RF.b (Uad ha (by rw [List.length_map];exact Nat.lt_trans hl (by decide))) (hk ⟨rfl,h.keep (K:=[13]) (Un.put rfl) rfl rfl (Uaq.trans h.len),?_,Un.put rfl⟩)));rw [Uaj ha,show attA A nm vv=A++[(nm,vv)] from if_neg hm,List.map_append];rfl
 rcases hr with rfl | rfl
 ·rw [Ud8];exact go fun {s Q} q=>by rw [Uec];exact RF.r q
 ·rw [Ud9];exact go fun {s Q} q=>by rw [Ud4];exact RF.r q
theorem blk_of(k:Nat):sliceV (.lst [.str " ",.str "\x0a",.str "\x09",.str "\x0c"]) (some (.int k)) (some (.int ((k+1:Nat):Int))) O=some (.lst ((blk k).map sv)):=by
 show some (V.lst (sliceL (some (k:Int)) (some ((k+1:Nat):Int)) (([32,10,9,12]:List Nat).map sv)))=_;rw [Uni k (k+1) _ (Nat.le_succ k),Nat.add_sub_cancel_left,<- List.map_drop,<- List.map_take]
 rfl
theorem Uhx(k:Nat):(blk k).length<=1:=by delta blk;rw [List.length_take];exact Nat.min_le_left _ _
theorem Uk0(n:Nat):(midN n).length<=3:=by
 delta midN;have h1:=Uhx (n / 5 % 5);have h2:=Uhx (n / 25 % 5);simp only [List.length_append,List.length_cons,List.length_nil]
 omega
end
noncomputable def nums(n0 n1 n2 n3:Nat):V:=.lst [.int n0,.int n1,.int n2,.int n3]
section
variable {p:Params}{O O' O₁ O0:Store}{d i j n m a n0 n1 n2 n3:Nat}{E:List V}{S W K L L' odd G nm:List Nat}{Q:V->Store->Prop}{v w:V}{l:List V}{why ahead:Str}{A:At1}{y:Way}
theorem AttQ.tr(h:AttQ O₁ i j a S E A y v O')(x:Un [11,12,13,14,15] O O₁):AttQ O i j a S E A y v O':=⟨h.1,h.2.1,h.2.2.1,x.trans h.2.2.2⟩
theorem Up6(n:Nat):itemV (.lst [.str "none",.str "bare",.str "single",.str "double",.str "missing"]) (.int ((n % 5:Nat):Int)) O=some (.str (wayN n).str):=by
 have h:n % 5 < 5:=Nat.mod_lt _ (by decide);delta wayN
 generalize n % 5=k at h
 match k,h with
 | 0,_=>rfl
 | 1,_=>rfl
 | 2,_=>rfl
 | 3,_=>rfl
 | 4,_=>rfl
theorem way_ne(n:Nat):wayN n≠.name:=by
 have h:n % 5 < 5:=Nat.mod_lt _ (by decide);delta wayN
 generalize n % 5=k at h
 match k,h with
 | 0,_=>exact Way.noConfusion
 | 1,_=>exact Way.noConfusion
 | 2,_=>exact Way.noConfusion
 | 3,_=>exact Way.noConfusion
 | 4,_=>exact Way.noConfusion
theorem Ujf{H:V->V->V->V->M Fl}(h:SE O i j S E)(hl:S.length < 900)(g:∀ O1,SE O1 i j (S++midN n2) E->Un [11] O O1->RF (H (.lst [.str " ",.str "\x0a",.str "\x09",.str "\x0c"]) (.int ((n2 / 5 % 5:Nat):Int)) (.int ((n2 / 25 % 5:Nat):Int)) .none) O1 Q) :
  RF (bnd (ret (V.lst [(.str Qbv),(.str Qbj),(.str Qdb),(.str Qdc)])) fun x37 =>
   bnd (look (itemV (nums n0 n1 n2 n3) (.int 2))) fun x38 =>
   bnd (look (binV .FloorDiv x38 (.int 5))) fun x39 =>
   bnd (look (binV .Mod x39 (.int 5))) fun x40 =>
   bnd (look (itemV (nums n0 n1 n2 n3) (.int 2))) fun x41 =>
   bnd (look (binV .FloorDiv x41 (.int 25))) fun x42 =>
   bnd (look (binV .Mod x42 (.int 5))) fun x43 =>
   bnd (look (methK (P p) (.ref 11 i) (Y "extend"))) fun x44 =>
   if isRepl x44 then fail else bnd (look (binV .Add x40 (.int 1))) fun x45 =>
   bnd (look (sliceV x37 (some x40) (some x45))) fun x46 =>
   bnd (ret (V.lst [(.str Qbd)])) fun x47 =>
   bnd (look (binV .Add x46 x47)) fun x48 =>
   bnd (look (binV .Add x43 (.int 1))) fun x49 =>
   bnd (look (sliceV x37 (some x43) (some x49))) fun x50 =>
   bnd (look (binV .Add x48 x50)) fun x51 =>
   bnd (methodV (callK (P p) d) x44 (.ref 11 i) [x51]) fun x52=>H x37 x40 x43 x52) O Q:=by
 have b1:=Uhx (n2 / 5 % 5);have b2:=Uhx (n2 / 25 % 5);refine RF.b1 (RF.l (a:=.int n2) rfl (RF.l (div_of n2 5 (by decide)) (RF.l (mod_of (n2 / 5) 5 (by decide)) (RF.l (a:=.int n2) rfl (RF.l (div_of n2 25 (by decide)) (RF.l (mod_of (n2 / 25) 5 (by decide)) (RF.ext h.sg ?_)))))));refine RF.l (a:=.int ((n2 / 5 % 5+1:Nat):Int)) rfl (RF.l (blk_of _) (RF.b1 (RF.l (Lv.add (L:=[61]) (.inl rfl) (blk (n2 / 5 % 5)) (by simp only [List.length_cons,List.length_nil];omega)) (RF.l (a:=.int ((n2 / 25 % 5+1:Nat):Int)) rfl (RF.l (blk_of _)
  (RF.l (Lv.add (L:=blk (n2 / 25 % 5)) (.inl rfl) (blk (n2 / 5 % 5)++[61]) (by simp only [List.length_append,List.length_cons,List.length_nil];omega)) (RF.b (ext_of h.sg (show asList O (.lst ((midN n2).map sv))=some ((midN n2).map sv) from rfl) (by rw [List.length_map,List.length_map];have:=Uk0 n2;delta lim;omega)) (g _ ⟨Uaq.trans h.len,?_,?_⟩ (Un.put rfl)))))))))
 ·rw [Uaj h.sg,List.map_append]
 ·rw [Uan (by decide)];exact h.er
theorem att1(h:SE O i j S E)(ha:O.get 13 a=some (.list (A.map aV)))(hl:A.length < 100)(hS:S.length < 500)(hE:E.length < 500){ah gap dr:V} :
  RF (J__law_attr_1 p (callK (P p) (d+2)) (frA i j a (nums n0 n1 n2 n3) ah gap [(Qak,sA (kn A)),(Qi,dr),(Qg,.str (ofC nm))])) O
   (AttQ O i j a (S++(wayN n2).mid n2++(wayN n2).vS n3) (E++(wayN n2).vE (S++(wayN n2).mid n2).length n3) (attA A nm ((wayN n2).vV n3)) (wayN n2)):=by
 rw [Ud7];delta J__law_attr_1_T0;have hm:=Uk0 n2;have hlm:(S++midN n2).length < 700:=by rw [List.length_append];omega
 refine RF.b1 (RF.l (a:=.int n2) rfl (RF.l (mod_of n2 5 (by decide)) (RF.l (Up6 n2) (RF.l (a:=!((wayN n2).str==(Y "none"))) rfl ?_))));have hne:=way_ne n2
 generalize wayN n2=y at hne
 cases y with
 | name=>exact absurd rfl hne
 | none =>
  refine RF.neg (by decide) ?_;rw [show S++Way.none.mid n2++Way.none.vS n3=S by show S++[]++[]=S;rw [List.append_nil,List.append_nil],show E++Way.none.vE (S++Way.none.mid n2).length n3=E from List.append_nil _];exact att3 (y:=.none) (b1:=.none) (b2:=.none) (b3:=.none) h ha hl [] [] (.inl rfl)
 | missing =>
  refine RF.pos (by decide) (Ujf h (by omega) fun O1 h1 x1=>RF.l (a:=false) (by kernel_rfl) (RF.neg Bool.false_ne_true ?_));rw [show S++Way.missing.mid n2++Way.missing.vS n3=S++midN n2 from List.append_nil _,show E++Way.missing.vE (S++Way.missing.mid n2).length n3=E from List.append_nil _];exact (att3 (y:=.missing) h1 ((x1.get rfl).trans ha) hl [] _ (.inr rfl)).mono fun v s q=>q.tr (x1.sub rfl)
 | bare =>
  refine RF.pos (by decide) (Ujf h (by omega) fun O1 h1 x1=>RF.l (a:=true) (by kernel_rfl) (RF.pos rfl (RF.l (a:=.int n3) rfl ?_)));refine RF.c (Un5 (d:=d) h1 n3 hlm (by omega)) fun v O2 qq=>xAAA qq fun ev h2 x2=>?_;subst ev;exact (att3 (y:=.bare) h2 ((x2.get rfl).trans ((x1.get rfl).trans ha)) hl _ _ (.inr rfl)).mono fun v s q=>q.tr ((x1.sub rfl).trans (x2.sub rfl))
 | single =>
  refine RF.pos (by decide) (Ujf h (by omega) fun O1 h1 x1=>RF.l (a:=true) (by kernel_rfl) (RF.pos rfl (RF.l (a:=.int n3) rfl ?_)));refine RF.c (Uo3 (d:=d) h1 39 n3 (.inr ⟨rfl,rfl⟩) hlm (by omega)) fun v O2 qq=>xAAA qq fun ev h2 x2=>?_;subst ev;rw [show S++Way.single.mid n2++Way.single.vS n3=S++midN n2++[39]++quoL 39 n3++[39] by show S++midN n2++([39]++quoL 39 n3++[39])=_;simp only [List.append_assoc]];exact (att3 (y:=.single) h2 ((x2.get rfl).trans ((x1.get rfl).trans ha)) hl _ _ (.inr rfl)).mono fun v s q=>q.tr ((x1.sub rfl).trans (x2.sub rfl))
 | double =>
  refine RF.pos (by decide) (Ujf h (by omega) fun O1 h1 x1=>RF.l (a:=true) (by kernel_rfl) (RF.pos rfl (RF.l (a:=.int n3) rfl ?_)));refine RF.c (Uo3 (d:=d) h1 34 n3 (.inl ⟨rfl,rfl⟩) hlm (by omega)) fun v O2 qq=>xAAA qq fun ev h2 x2=>?_;subst ev;rw [show S++Way.double.mid n2++Way.double.vS n3=S++midN n2++[34]++quoL 34 n3++[34] by show S++midN n2++([34]++quoL 34 n3++[34])=_;simp only [List.append_assoc]];exact (att3 (y:=.double) h2 ((x2.get rfl).trans ((x1.get rfl).trans ha)) hl _ _ (.inr rfl)).mono fun v s q=>q.tr ((x1.sub rfl).trans (x2.sub rfl))
end
noncomputable def nmN(A:At1)(n1:Nat):List Nat:=nameN n1 (kn A)
noncomputable def atS(A:At1)(S:List Nat)(n1 n2 n3:Nat):List Nat:=S++nmN A n1++(wayN n2).mid n2++(wayN n2).vS n3
noncomputable def nmE(A:At1)(S:List Nat)(E:List V)(n1:Nat):List V :=
 (if lowN (nmN A n1) ∈ kn A then E++tk nOdd nWhy S.length (nmN A n1)++[errV "duplicate-attribute" ((S++nmN A n1).length:Nat)] else E++tk nOdd nWhy S.length (nmN A n1))
noncomputable def atE(A:At1)(S:List Nat)(E:List V)(n1 n2 n3:Nat):List V:=nmE A S E n1++(wayN n2).vE (S++nmN A n1++(wayN n2).mid n2).length n3
noncomputable def atA(A:At1)(n1 n2 n3:Nat):At1:=attA A (lowN (nmN A n1)) ((wayN n2).vV n3)
noncomputable def sng(ahead:Str):Bool:=([(Y "single"),"double"]).any (·==ahead)
noncomputable def gpL(n0:Nat)(ahead:Str):List Nat:=if gapN (n0 / 3) (n0 % 3) ahead=[] then (if sng ahead then [] else [32]) else gapN (n0 / 3) (n0 % 3) ahead
noncomputable def gpE(S:List Nat)(E:List V)(n0:Nat)(ahead:Str):List V :=
 (if gapN (n0 / 3) (n0 % 3) ahead=[]/\sng ahead=true then E++[errV "missing-whitespace-between-attributes" (S.length:Nat)] else E)++layE S.length (gpL n0 ahead)
section
variable {p:Params}{O O' O₁ O0:Store}{d i j n m a n0 n1 n2 n3:Nat}{E:List V}{S W K L L' odd G nm:List Nat}{Q:V->Store->Prop}{v w:V}{l:List V}{why ahead:Str}{A:At1}{y:Way}
noncomputable def NmOk(A:At1):Prop:=∀ x ∈ A,x.1.length<=2/\∀ c ∈ x.1,c≠13
theorem NmOk.kn(h:NmOk A):∀ x ∈ kn A,x.length<=2/\∀ c ∈ x,c≠13:=fun x hx=>by
 obtain ⟨y,hy,rfl⟩:=List.mem_map.mp hx;exact h y hy
set_option tactic.hygienic true in
theorem Ujl(h:NmOk A)(n1:Nat):(nmN A n1).length<=2:=by
 delta nmN nameN;split
 ·rename_i q;have hl:0 < (Mine.kn A).length:=List.length_pos_iff.mpr q.2;have hlt:n1 / 6 % (Mine.kn A).length < (Mine.kn A).length:=Nat.mod_lt _ hl;have hg:(Mine.kn A)[n1 / 6 % (Mine.kn A).length]?=some ((Mine.kn A).getD (n1 / 6 % (Mine.kn A).length) []):=by rw [List.getD_eq_getElem?_getD,List.getElem?_eq_getElem hlt];rfl
  have hm:=(h.kn _ (List.mem_of_getElem? hg)).1;split
  ·rw [List.length_map];exact hm
  ·exact hm
 ·rw [Uah];omega
theorem fm_kn:∀ A:At1,(A.map aV).filterMap (fun v=>itemV v (.int 0) O)=(kn A).map fun a=>V.str (ofC a)
 | []=>rfl
 | x::r=>congrArg (V.str (ofC x.1)::·) (fm_kn r)
theorem Utc(hA:A.length < 100)(ha:O.get 13 a=some (.list (A.map aV))) :
  compK (.ref 13 a) (fun x20=>bnd (bnd (look (itemV x20 (.int 0))) fun x21=>ret (.ret x21)) unFl) (fun x20=>ret true) 200 0 [] O=some (sA (kn A),O):=by
 rw [Uoz (fun v=>itemV v (.int 0) O) (A.map aV) (fun k w0=>Uek ha) (fun v hv=>.inr ?_) (by rw [List.length_map];exact Nat.lt_trans hA (by decide)),fm_kn]
 ·rfl
 ·obtain ⟨x,hx,rfl⟩:=List.mem_map.mp hv;exact ⟨.str (ofC x.1),rfl,rfl,rfl⟩
theorem att0(h:SE O i j S E)(ha:O.get 13 a=some (.list (A.map aV)))(hl:A.length < 100)(hA:NmOk A)(hS:S.length < 400)(hE:E.length < 400)(hv:Lv O v (G.map sv))(hG:G.length < 10){ah:V} :
  RF (J__law_attr_0 p (callK (P p) (d+2)) (frA i j a (nums n0 n1 n2 n3) ah v [])) O (AttQ O i j a (atS A (S++G) n1 n2 n3) (atE A (S++G) (E++layE S.length G) n1 n2 n3) (atA A n1 n2 n3) (wayN n2)):=by
 rw [Uea];delta J__law_attr_0_T0;refine RF.c (Uow (d:=d+1) h G hv (by omega) (by omega) (by omega)) fun v1 O1 qq=>xAAA qq fun ev h1 x1=>?_;have ha1:=(x1.get (i:=a) (r:=13) rfl).trans ha;refine RF.b (Utc hl ha1) (RF.l (a:=.int n1) rfl ?_);have hkl:(kn A).length=A.length:=List.length_map _;refine RF.c (Uoi (d:=d) n1 (kn A) (by rw [hkl];exact hl) (fun x hx=>⟨Nat.lt_of_le_of_lt (hA.kn x hx).1 (by decide),(hA.kn x hx).2⟩) h1.len) fun v2 O2 qq=>xAAA qq fun hv2 x2 hl2=>?_;have h2:=h1.keep x2 rfl rfl hl2;have hnl:=Ujl hA n1;have hgl:(layE S.length G).length<=G.length:=Uha _ _;have hSG:(S++G).length < 450:=by rw [List.length_append];omega
 have hEG:(E++layE S.length G).length < 450:=by rw [List.length_append];omega
 refine RF.b1 (RF.c (Ujg (d:=d+1) (why:=nWhy) h2 (nmN A n1) nOdd (hv2.dw rfl) (by decide) (by omega) (by omega) (by omega)) fun v3 O3 qq=>xAA qq fun ev3 hp=>?_);subst ev3;refine RF.c (Ug0 (d:=d+1) false ((nmN A n1).map vC) (by rw [List.length_map];omega)) fun v4 O4 qq=>xAA qq fun ev4 e4=>?_;subst ev4;have e5:=e4.symm;clear e4;subst e5;have x3:Un [11,12,13,14,15] O O3:=(x1.sub rfl).trans ((x2.sub rfl).trans (hp.2.sub rfl));have ha3:O3.get 13 a=some (.list (A.map aV)):=(hp.2.get rfl).trans ((x2.get rfl).trans ha1);have hEt:(E++layE S.length G++tk nOdd nWhy (S++G).length (nmN A n1)).length < 460:=by
  have:=tk_len nOdd nWhy (nmN A n1) (S++G).length;rw [List.length_append];omega
 have hSn:(S++G++nmN A n1).length < 460:=by rw [List.length_append];omega
 refine RF.l (sA_in (lowN (nmN A n1)) (kn A)) ?_
 by_cases hm:lowN (nmN A n1) ∈ kn A
 ·rw [decide_eq_true hm];refine RF.pos rfl (RF.ea hp.1 (by omega) rfl fun O5 h5 x5=>?_);have e:nmE A (S++G) (E++layE S.length G) n1=_:=if_pos hm;rw [<- e] at h5;exact (att1 h5 ((x5.get rfl).trans ha3) hl (by omega) (by rw [e,List.length_append];simp only [List.length_cons,List.length_nil];omega)).mono fun v s q=>q.tr (x3.trans (x5.sub rfl))
 ·rw [decide_eq_false hm];have e:nmE A (S++G) (E++layE S.length G) n1=_:=if_neg hm;have h5:=hp.1;rw [<- e] at h5;exact RF.neg Bool.false_ne_true ((att1 h5 ha3 hl (by omega) (by rw [e];omega)).mono fun v s q=>q.tr x3)
theorem Urc(h:SE O i j S E)(ha:O.get 13 a=some (.list (A.map aV)))(hl:A.length < 100)(hA:NmOk A)(hS:S.length < 390)(hE:E.length < 390)(n0 n1 n2 n3:Nat)(ahead:Str) :
  Run (callK (P p) (d+3) a__law_attr [.ref 11 i,.ref 12 j,.ref 13 a,nums n0 n1 n2 n3,.str ahead]) O (AttQ O i j a (atS A (S++gpL n0 ahead) n1 n2 n3) (atE A (S++gpL n0 ahead) (gpE S E n0 ahead) n1 n2 n3) (atA A n1 n2 n3) (wayN n2)):=by
 rw [Ukc];show RF _ O _;delta F__law_attr;refine RF.l (a:=.int n0) rfl (RF.l (div_of n0 3 (by decide)) (RF.l (a:=.int n0) rfl (RF.l (mod_of n0 3 (by decide)) ?_)));refine RF.c (Uos (d:=d) (n0 / 3) (n0 % 3) ahead (by omega) h.len) fun v1 O1 qq=>xAAA qq fun hv1 x1 hl1=>?_;have h1:=h.keep x1 rfl rfl hl1;have ha1:=(x1.get (i:=a) (r:=13) rfl).trans ha;have hgl:(gapN (n0 / 3) (n0 % 3) ahead).length<=3:=by
  delta gapN;have:=Uah gapP (n0 / 3) (n0 % 3);split <;> (try rw [List.length_cons]) <;> omega
 refine RF.b1 (RF.l (hv1.eq []) ?_)
 by_cases hg:gapN (n0 / 3) (n0 % 3) ahead=[]
 ·rw [decide_eq_true hg];refine RF.ct (RF.b1 (RF.l (a:=sng ahead) rfl ?_));cases hs:sng ahead with
  | true =>
   have e1:gpL n0 ahead=[]:=(if_pos hg).trans (if_pos hs);have e2:gpE S E n0 ahead=E++[errV "missing-whitespace-between-attributes" (S.length:Nat)]++layE S.length []:=by
    delta gpE;rw [e1,if_pos ⟨hg,hs⟩]
   refine RF.ct (RF.ea h1 (by omega) rfl fun O2 h2 x2=>?_);rw [e1,e2];rw [hg] at hv1;exact (att0 (G:=[]) h2 ((x2.get rfl).trans ha1) hl hA (by omega) (by rw [List.length_append];simp only [List.length_cons,List.length_nil];omega) (hv1.keep x2 rfl) (by decide)).mono fun v s q=>q.tr ((x1.sub rfl).trans (x2.sub rfl))
  | false =>
   have e1:gpL n0 ahead=[32]:=(if_pos hg).trans (if_neg (by rw [hs];exact Bool.false_ne_true));have e2:gpE S E n0 ahead=E++layE S.length [32]:=by
    delta gpE;rw [e1,if_neg fun q=>by rw [hs] at q;exact Bool.false_ne_true q.2]
   refine RF.cf (RF.b1 (RF.l (hv1.eq []) ?_));rw [decide_eq_true hg,e1,e2];exact RF.pos rfl (RF.b1 ((att0 (G:=[32]) h1 ha1 hl hA (by omega) (by omega) (.inl rfl) (by decide)).mono fun v s q=>q.tr (x1.sub rfl)))
 ·rw [decide_eq_false hg];have e1:gpL n0 ahead=gapN (n0 / 3) (n0 % 3) ahead:=if_neg hg;have e2:gpE S E n0 ahead=E++layE S.length (gapN (n0 / 3) (n0 % 3) ahead):=by
   delta gpE;rw [e1,if_neg fun q=>hg q.1]
  refine RF.cf (RF.b1 (RF.l (hv1.eq []) ?_));rw [decide_eq_false hg,e1,e2];exact RF.neg Bool.false_ne_true ((att0 h1 ha1 hl hA (by omega) (by omega) hv1 (by omega)).mono fun v s q=>q.tr (x1.sub rfl))
end
noncomputable def Sh1(r:Fr):Prop:=r=[]\/(∃ k,r=[(Qn,k)])\/∃ k n,r=[(Qn,k),(Qu,n)]
noncomputable abbrev frT(i j a:Nat)(s hd tg en:V)(kd:Str)(po dr nm:V)(ah:Str)(r:Fr):Fr:=(Qo,s)::(Qa,.ref 11 i)::(Qb,.ref 12 j)::(Qp,hd)::(Qq,tg)::(Qh,en)::(Ql,.str kd) ::
 (Qr,po)::(Qi,dr)::(Qg,nm)::(Qe,.ref 13 a)::(Qj,.str ah)::r
noncomputable def miE(ah:Str)(n:Nat)(E:List V):List V:=if (ah==Qac)=true then E++[errV "missing-attribute-value" n] else E
section
variable {p:Params}{O O' O₁ O0:Store}{d i j n m a n0 n1 n2 n3:Nat}{E:List V}{S W K L L' odd G nm:List Nat}{Q:V->Store->Prop}{v w s hd tg en po dr nv gp:V}{l:List V}{why kd ah:Str}{A:At1}{y:Way}{H:M Fl}{cl:Bool}{r:Fr}
theorem RF.re{x z:M Fl}(e:x=z)(g:RF z O Q):RF x O Q:=e▸g
noncomputable def TagQ(O:Store)(i j:Nat)(S:List Nat)(E:List V)(tok v:V)(O':Store):Prop:=v=tok/\SE O' i j S E/\Un [11,12,13,14,15] O O'
theorem TagQ.tr{tok:V}(h:TagQ O₁ i j S E tok v O')(x:Un [11,12,13,14,15] O O₁):TagQ O i j S E tok v O':=⟨h.1,h.2.1,x.trans h.2.2⟩
noncomputable def tokT(kd:Str)(nv:V)(A:At1)(cl:Bool):V:=.tup [.str kd,nv,.tup (A.map aV),.bool cl]
theorem core7(h:SE O i j S E)(ha:O.get 13 a=some (.list (A.map aV)))(hS:S.length < 900) :
  RF (bnd (look (methK (P p) (.ref 11 i) Qv)) fun m=>if isRepl m then fail else bnd (methodV (callK (P p) d) m (.ref 11 i) [.str Qar]) fun w0=>bnd (builtinV .tuple [.ref 13 a]) fun x=>ret (.ret (.tup [.str kd,nv,x,.bool cl]))) O (TagQ O i j (S++[62]) E (tokT kd nv A cl)) :=
 RF.sa (k:=fun w0=>bnd (builtinV .tuple [.ref 13 a]) fun x=>ret (.ret (.tup [.str kd,nv,x,.bool cl]))) h 62 (Nat.lt_trans hS (by decide)) fun O1 h1 x1=>RF.b (a:=.tup (A.map aV)) (O₁:=O1) (bi_of (n:=.tuple) (show ob (asList O1 (.ref 13 a)) (fun vs=>some (V.tup vs)) none=_ from ob_of (asl_of ((x1.get rfl).trans ha)))) (RF.r ⟨rfl,h1,x1.sub rfl⟩)
theorem tag7(hr:Sh1 r)(h:SE O i j S E)(ha:O.get 13 a=some (.list (A.map aV)))(hS:S.length < 900) :
  RF (J__law_tag_7 p (callK (P p) d) (frT i j a s hd tg en kd po dr nv ah (r++[(Qf,gp),(Qs,.bool cl)]))) O (TagQ O i j (S++[62]) E (tokT kd nv A cl)):=by
 rcases hr with rfl | ⟨k,rfl⟩ | ⟨k,u,rfl⟩
 ·exact RF.re (Uex ..) (core7 h ha hS)
 ·exact RF.re (Ufl ..) (core7 h ha hS)
 ·exact RF.re (Ue6 ..) (core7 h ha hS)
noncomputable def e6(kd:Str)(cl:Bool)(n:Nat)(E:List V):List V:=if (kd==Qh&&cl)=true then E++[errV "end-tag-with-trailing-solidus" n] else E
theorem core6(h:SE O i j S E)(hE:E.length < 900)(g:∀ O1,SE O1 i j S (e6 kd cl S.length E)->Un [12] O O1->RF H O1 Q) :
  RF (bnd (look (cmpV .Eq (.str kd) (.str Qh))) fun x=>cond x (cond cl (bnd (look (methK (P p) (.ref 12 j) Qv)) fun m=>if isRepl m then fail else bnd (builtinV .len [.ref 11 i]) fun x=>bnd (methodV (callK (P p) d) m (.ref 12 j) [.tup [.str Qcv,x]]) fun w0=>H) H) H) O Q:=by
 refine RF.l (a:=kd==Qh) rfl ?_;cases hk:kd==Qh with
 | false =>
  rw [show e6 kd cl S.length E=E from if_neg (by rw [hk];exact Bool.false_ne_true)] at g;exact RF.cf (g O h Un.rfl)
 | true =>
  cases cl with
  | false =>
   rw [show e6 kd false S.length E=E from if_neg (by rw [hk];exact Bool.false_ne_true)] at g;exact RF.ct (RF.cf (g O h Un.rfl))
  | true =>
   rw [show e6 kd true S.length E=_ from if_pos (by rw [hk];rfl)] at g;exact RF.ct (RF.ct (RF.app h.er (RF.b h.slen (RF.b (Uad h.er (Nat.lt_trans hE (by decide))) (g _ h.err1 (Un.put rfl))))))
theorem tag6(hr:Sh1 r)(h:SE O i j S E)(ha:O.get 13 a=some (.list (A.map aV)))(hS:S.length < 900)(hE:E.length < 900) :
  RF (J__law_tag_6 p (callK (P p) d) (frT i j a s hd tg en kd po dr nv ah (r++[(Qf,gp),(Qs,.bool cl)]))) O (TagQ O i j (S++[62]) (e6 kd cl S.length E) (tokT kd nv A cl)):=by
 have g:∀ (r:Fr),Sh1 r->∀ O1,SE O1 i j S (e6 kd cl S.length E)->Un [12] O O1->RF (J__law_tag_7 p (callK (P p) d) (frT i j a s hd tg en kd po dr nv ah (r++[(Qf,gp),(Qs,.bool cl)]))) O1 (TagQ O i j (S++[62]) (e6 kd cl S.length E) (tokT kd nv A cl)) :=
  fun r hr O1 h1 x1=>(tag7 hr h1 ((x1.get rfl).trans ha) hS).mono fun v s q=>q.tr (x1.sub rfl)
 have hr':=hr;rcases hr with rfl | ⟨k,rfl⟩ | ⟨k,u,rfl⟩
 ·refine RF.re (Ufs ..) ?_;delta J__law_tag_6_T0;exact core6 h hE (g [] hr')
 ·refine RF.re (Ues ..) ?_;delta J__law_tag_6_T1;exact core6 h hE (g [(Qn,k)] hr')
 ·refine RF.re (Ufj ..) ?_;delta J__law_tag_6_T2;exact core6 h hE (g [(Qn,k),(Qu,u)] hr')
theorem ne_A(ha:O.get 13 a=some (.list (A.map aV))):cmpV .NotEq (.ref 13 a) (.lst []) O=some (decide (A≠[])):=by
 have hl:∀ A:At1,toDs O 7 (A.map aV)=some (A.map fun x=>PyData.tuple [.str (ofC x.1),.str (ofC x.2)]):=fun A=>by
  induction A with
  | nil=>rfl
  | cons c r ih=>exact Ubh rfl ih
 show (eqV O (.ref 13 a) (.lst [])).map (!·)=_;rw [show eqV O (.ref 13 a) (.lst [])=_ from eqG_of (Ugc ha (hl A)) rfl];cases A with
 | nil=>rfl
 | cons a r=>rfl
noncomputable def e5(kd:Str)(A:At1)(n:Nat)(E:List V):List V:=if (kd==Qh)=true/\A≠[] then E++[errV "end-tag-with-attributes" n] else E
theorem core5(h:SE O i j S E)(ha:O.get 13 a=some (.list (A.map aV)))(hE:E.length < 900)(g:∀ O1,SE O1 i j S (e5 kd A S.length E)->Un [12] O O1->RF H O1 Q) :
  RF (bnd (look (cmpV .Eq (.str kd) (.str Qh))) fun x=>cond x (bnd (ret (V.lst [])) fun x91=>bnd (look (cmpV .NotEq (.ref 13 a) x91)) fun x92=>cond x92 (bnd (look (methK (P p) (.ref 12 j) Qv)) fun m=>if isRepl m then fail else bnd (builtinV .len [.ref 11 i]) fun x=>bnd (methodV (callK (P p) d) m (.ref 12 j) [.tup [.str Qcw,x]]) fun w0=>H) H) H) O Q:=by
 refine RF.l (a:=kd==Qh) rfl ?_;cases hk:kd==Qh with
 | false =>
  rw [show e5 kd A S.length E=E from if_neg (fun q=>by rw [hk] at q;exact Bool.false_ne_true q.1)] at g;exact RF.cf (g O h Un.rfl)
 | true =>
  refine RF.ct (RF.b1 (RF.l (ne_A ha) ?_))
  by_cases hA:A≠[]
  ·rw [decide_eq_true hA];rw [show e5 kd A S.length E=_ from if_pos ⟨hk,hA⟩] at g;exact RF.ct (RF.app h.er (RF.b h.slen (RF.b (Uad h.er (Nat.lt_trans hE (by decide))) (g _ h.err1 (Un.put rfl)))))
  ·rw [decide_eq_false hA];rw [show e5 kd A S.length E=E from if_neg (fun q=>hA q.2)] at g;exact RF.cf (g O h Un.rfl)
theorem e5_len(kd:Str)(A:At1)(n:Nat)(E:List V):(e5 kd A n E).length<=E.length+1:=by
 delta e5;split
 ·rw [List.length_append];exact Nat.le_refl _
 ·exact Nat.le_succ _
theorem mi_len(ah:Str)(n:Nat)(E:List V):(miE ah n E).length<=E.length+1:=by
 delta miE;split
 ·rw [List.length_append];exact Nat.le_refl _
 ·exact Nat.le_succ _
noncomputable def eT(kd ah:Str)(A:At1)(cl:Bool)(n:Nat)(E:List V):List V:=e6 kd cl n (e5 kd A n (miE ah n E))
theorem tag5(hr:Sh1 r)(h:SE O i j S E)(ha:O.get 13 a=some (.list (A.map aV)))(hS:S.length < 900)(hE:E.length < 800) :
  RF (J__law_tag_5 p (callK (P p) d) (frT i j a s hd tg en kd po dr nv ah (r++[(Qf,gp),(Qs,.bool cl)]))) O (TagQ O i j (S++[62]) (e6 kd cl S.length (e5 kd A S.length E)) (tokT kd nv A cl)):=by
 have g:∀ (r:Fr),Sh1 r->∀ O1,SE O1 i j S (e5 kd A S.length E)->Un [12] O O1->RF (J__law_tag_6 p (callK (P p) d) (frT i j a s hd tg en kd po dr nv ah (r++[(Qf,gp),(Qs,.bool cl)]))) O1 (TagQ O i j (S++[62]) (e6 kd cl S.length (e5 kd A S.length E)) (tokT kd nv A cl)) :=
  fun r hr O1 h1 x1=>(tag6 hr h1 ((x1.get rfl).trans ha) hS (Nat.lt_of_le_of_lt (e5_len kd A S.length E) (by omega))).mono fun v s q=>q.tr (x1.sub rfl)
 have hr':=hr;rcases hr with rfl | ⟨k,rfl⟩ | ⟨k,u,rfl⟩
 ·refine RF.re (Ufb ..) ?_;delta J__law_tag_5_T0;exact core5 h ha (by omega) (g [] hr')
 ·refine RF.re (Uev ..) ?_;delta J__law_tag_5_T1;exact core5 h ha (by omega) (g [(Qn,k)] hr')
 ·refine RF.re (Ueq ..) ?_;delta J__law_tag_5_T2;exact core5 h ha (by omega) (g [(Qn,k),(Qu,u)] hr')
theorem core4(h:SE O i j S E)(hE:E.length < 900)(g:∀ O1,SE O1 i j S (miE ah S.length E)->Un [12] O O1->RF H O1 Q) :
  RF (bnd (look (cmpV .Eq (.str ah) (.str Qac))) fun x=>if x then (bnd (look (methK (P p) (.ref 12 j) Qv)) fun m=>if isRepl m then fail else bnd (builtinV .len [.ref 11 i]) fun x=>bnd (methodV (callK (P p) d) m (.ref 12 j) [.tup [.str Qcu,x]]) fun w0=>H) else H) O Q:=by
 refine RF.l (a:=ah==Qac) rfl ?_;cases hk:ah==Qac with
 | false =>
  rw [show miE ah S.length E=E from if_neg (by rw [hk];exact Bool.false_ne_true)] at g;exact RF.neg Bool.false_ne_true (g O h Un.rfl)
 | true =>
  rw [show miE ah S.length E=_ from if_pos hk] at g;exact RF.pos rfl (RF.app h.er (RF.b h.slen (RF.b (Uad h.er (Nat.lt_trans hE (by decide))) (g _ h.err1 (Un.put rfl)))))
theorem tag4(hr:Sh1 r)(h:SE O i j S E)(ha:O.get 13 a=some (.list (A.map aV)))(hS:S.length < 900)(hE:E.length < 700) :
  RF (J__law_tag_4 p (callK (P p) d) (frT i j a s hd tg en kd po dr nv ah (r++[(Qf,gp),(Qs,.bool cl)]))) O (TagQ O i j (S++[62]) (eT kd ah A cl S.length E) (tokT kd nv A cl)):=by
 have g:∀ (r:Fr),Sh1 r->∀ O1,SE O1 i j S (miE ah S.length E)->Un [12] O O1->RF (J__law_tag_5 p (callK (P p) d) (frT i j a s hd tg en kd po dr nv ah (r++[(Qf,gp),(Qs,.bool cl)]))) O1 (TagQ O i j (S++[62]) (eT kd ah A cl S.length E) (tokT kd nv A cl)) :=
  fun r hr O1 h1 x1=>(tag5 hr h1 ((x1.get rfl).trans ha) hS (Nat.lt_of_le_of_lt (mi_len ah S.length E) (by omega))).mono fun v s q=>q.tr (x1.sub rfl)
 have hr':=hr;rcases hr with rfl | ⟨k,rfl⟩ | ⟨k,u,rfl⟩
 ·refine RF.re (Ue7 ..) ?_;delta J__law_tag_4_T0;exact core4 h (by omega) (g [] hr')
 ·refine RF.re (Uer ..) ?_;delta J__law_tag_4_T1;exact core4 h (by omega) (g [(Qn,k)] hr')
 ·refine RF.re (Ueu ..) ?_;delta J__law_tag_4_T2;exact core4 h (by omega) (g [(Qn,k),(Qu,u)] hr')
end
noncomputable def clG(G:List Nat):Bool:=decide (G.drop (G.length - 1)=[47])
noncomputable def e3(S:List Nat)(E:List V)(G:List Nat):List V:=if clG G=true then (E++layE S.length G).dropLast else E++layE S.length G
noncomputable def gapT(y:Way)(ne:Nat):List Nat:=if (y.str==Qac)=true then [] else gapN (ne / 4) (ne % 4) y.str
section
variable {p:Params}{O O' O₁ O0:Store}{d i j n m a n0 n1 n2 n3 ne:Nat}{E:List V}{S W K L L' odd G nm:List Nat}{Q:V->Store->Prop}{v w s hd tg en po dr nv gp:V}{l:List V}{why kd ah:Str}{A:At1}{y:Way}{cl:Bool}{r:Fr}
theorem Ull{α:Type}(l:List α):sliceL (some (-1)) none l=l.drop (l.length - 1):=by
 show (l.drop (clipAt l.length (-1))).take (l.length - clipAt l.length (-1))=_;have e:clipAt l.length (-1)=l.length - 1:=by
  delta clipAt;rw [if_pos (by decide)]
  omega
 rw [e,<- List.drop_take,List.take_length]
theorem Lv.last(h:Lv O v (L.map sv)):sliceV v (some (.int (-1))) none O=some (.lst ((L.drop (L.length - 1)).map sv)):=by
 have e:sliceL (some (-1)) none (L.map sv)=(L.drop (L.length - 1)).map sv:=by rw [Ull,List.length_map,List.map_drop]
 have h':=h;rcases h with rfl | ⟨i,rfl,h⟩
 ·show some (V.lst (sliceL (some (-1)) none (L.map sv)))=_;rw [e]
 ·show ob (asList O (.ref 14 i)) (fun vs=>some (V.lst (sliceL (some (-1)) none vs))) none=_;rw [h'.as];show some (V.lst (sliceL (some (-1)) none (L.map sv)))=_;rw [e]
theorem lay_ne:∀ (n:Nat) (G:List Nat),clG G=true->layE n G≠[]
 | n,[],h=>by cases h
 | n,[c],h=>by
  have e:c=47:=by
   have:=of_decide_eq_true h;cases this;rfl
  subst e;exact fun q=>by cases q
 | n,c::b::G,h=>fun q=>lay_ne (n+1) (b::G) h (List.append_eq_nil_iff.mp q).2
theorem pop_of{c:CC}{vs:List V}(h:O.get 12 j=some (.list vs))(hn:vs≠[]):∃ x,methodV c (.bi .pop) (.ref 12 j) [] O=some (x,O.put 12 j (.list vs.dropLast)):=by
 refine ⟨vs.getLast hn,?_⟩;show ob (lref O (.ref 12 j)) _ _=_;rw [Uf6 h];show ob vs.getLast? _ _=_;rw [List.getLast?_eq_some_getLast hn]
theorem core3{H:Bool->M Fl}(h:SE O i j S E)(hv:Lv O v (G.map sv))(hG:G.length < 10)(hS:S.length < 700)(hE:E.length < 600)(g:∀ O1,SE O1 i j (S++G) (e3 S E G)->Un [11,12] O O1->RF (H (clG G)) O1 Q) :
  RF (bnd (callK (P p) (d+1) a__law_lay [.ref 11 i,.ref 12 j,v]) fun x60=>bnd (look (sliceV v (some (.int (-1))) none)) fun x61=>bnd (ret (V.lst [(.str Qy)])) fun x62=>bnd (look (cmpV .Eq x61 x62)) fun x63 =>
   if x63 then bnd (look (methK (P p) (.ref 12 j) Qdk)) fun m=>if isRepl m then fail else bnd (methodV (callK (P p) (d+1)) m (.ref 12 j) []) fun w0=>H x63 else H x63) O Q:=by
 refine RF.c (Uow (d:=d) h G hv (by omega) (by omega) (by omega)) fun v1 O1 qq=>xAAA qq fun ev h1 x1=>?_;refine RF.l (hv.keep x1 rfl).last (RF.b1 (RF.l (Lv.eq (.inl rfl) [47]) ?_));rw [show decide (G.drop (G.length - 1)=[47])=clG G from rfl];cases hc:clG G with
 | false =>
  rw [show e3 S E G=_ from if_neg (by rw [hc];exact Bool.false_ne_true),hc] at g;exact RF.neg Bool.false_ne_true (g O1 h1 x1)
 | true =>
  rw [show e3 S E G=_ from if_pos hc,hc] at g;refine (pop_of (c:=callK (P p) (d+1)) h1.er fun q=>lay_ne S.length G hc (List.append_eq_nil_iff.mp q).2).elim fun x hx=>?_;exact RF.pos rfl (RF.ml h1.er (id:=.pop) (by kernel_rfl) (by decide) (RF.b hx (g _ h1.err1 (x1.trans (Un.put rfl)))))
theorem e3_len(S:List Nat)(E:List V)(G:List Nat):(e3 S E G).length<=E.length+G.length:=by
 have:=Uha S.length G;delta e3;split
 ·rw [List.length_dropLast,List.length_append];omega
 ·rw [List.length_append];omega
theorem tag3(hr:Sh1 r)(h:SE O i j S E)(ha:O.get 13 a=some (.list (A.map aV)))(hv:Lv O v (G.map sv))(hG:G.length < 10)(hS:S.length < 500)(hE:E.length < 500) :
  RF (J__law_tag_3 p (callK (P p) (d+1)) (frT i j a s hd tg en kd po dr nv ah (r++[(Qf,v)]))) O (TagQ O i j (S++G++[62]) (eT kd ah A (clG G) (S++G).length (e3 S E G)) (tokT kd nv A (clG G))):=by
 have g:∀ (r:Fr),Sh1 r->∀ O1,SE O1 i j (S++G) (e3 S E G)->Un [11,12] O O1->RF (J__law_tag_4 p (callK (P p) (d+1)) (frT i j a s hd tg en kd po dr nv ah (r++[(Qf,v),(Qs,.bool (clG G))]))) O1 (TagQ O i j (S++G++[62]) (eT kd ah A (clG G) (S++G).length (e3 S E G)) (tokT kd nv A (clG G))) :=
  fun r hr O1 h1 x1=>(tag4 hr h1 ((x1.get rfl).trans ha) (by rw [List.length_append];omega) (Nat.lt_of_le_of_lt (e3_len S E G) (by omega))).mono fun v s q=>q.tr (x1.sub rfl)
 have hr':=hr;rcases hr with rfl | ⟨k,rfl⟩ | ⟨k,u,rfl⟩
 ·refine RF.re (Ue9 ..) ?_;delta J__law_tag_3_T0;exact core3 h hv hG (by omega) (by omega) (g [] hr')
 ·refine RF.re (Ufg ..) ?_;delta J__law_tag_3_T1;exact core3 h hv hG (by omega) (by omega) (g [(Qn,k)] hr')
 ·refine RF.re (Ufh ..) ?_;delta J__law_tag_3_T2;exact core3 h hv hG (by omega) (by omega) (g [(Qn,k),(Qu,u)] hr')
theorem Ul6(n m:Nat)(ah:Str):(gapN n m ah).length<=m+1:=by
 delta gapN;have:=Uah gapP n m;split <;> (try rw [List.length_cons]) <;> omega
theorem Ukh(y:Way)(ne:Nat):(gapT y ne).length<=4:=by
 have:=Ul6 (ne / 4) (ne % 4) y.str;delta gapT;split
 ·exact Nat.zero_le _
 ·omega
theorem core2{H:V->M Fl}(h:SE O i j S E)(g:∀ v O1,SE O1 i j S E->Lv O1 v ((gapT y ne).map sv)->Un [14] O O1->RF (H v) O1 Q) :
  RF (bnd (look (cmpV .Eq (.str y.str) (.str Qac))) fun x=>if x then bnd (ret (V.lst [])) fun x46=>H x46 else bnd (look (binV .FloorDiv (.int ne) (.int 4))) fun x47=>bnd (look (binV .Mod (.int ne) (.int 4))) fun x48=>bnd (callK (P p) (d+2) a__law_gap [x47,x48,.str y.str]) fun x49=>H x49) O Q:=by
 refine RF.l (a:=y.str==Qac) rfl ?_;cases hk:y.str==Qac with
 | true =>
  rw [show gapT y ne=[] from if_pos hk] at g;exact RF.pos rfl (RF.b1 (g _ O h (.inl rfl) Un.rfl))
 | false =>
  rw [show gapT y ne=_ from if_neg (by rw [hk];exact Bool.false_ne_true)] at g;refine RF.neg Bool.false_ne_true (RF.l (div_of ne 4 (by decide)) (RF.l (mod_of ne 4 (by decide)) ?_));exact RF.c (Uos (d:=d) (ne / 4) (ne % 4) y.str (by omega) h.len) fun v O1 qq=>xAAA qq fun hv x1 hl=>g v O1 (h.keep x1 rfl rfl hl) hv x1
noncomputable def endS(S:List Nat)(y:Way)(ne:Nat):List Nat:=S++gapT y ne++[62]
noncomputable def endE(kd:Str)(S:List Nat)(E:List V)(A:At1)(y:Way)(ne:Nat):List V:=eT kd y.str A (clG (gapT y ne)) (S++gapT y ne).length (e3 S E (gapT y ne))
theorem tag2(hr:Sh1 r)(h:SE O i j S E)(ha:O.get 13 a=some (.list (A.map aV)))(hS:S.length < 500)(hE:E.length < 500) :
  RF (J__law_tag_2 p (callK (P p) (d+2)) (frT i j a s hd tg (.int ne) kd po dr nv y.str r)) O (TagQ O i j (endS S y ne) (endE kd S E A y ne) (tokT kd nv A (clG (gapT y ne)))):=by
 have g:∀ (r:Fr),Sh1 r->∀ v O1,SE O1 i j S E->Lv O1 v ((gapT y ne).map sv)->Un [14] O O1->RF (J__law_tag_3 p (callK (P p) (d+2)) (frT i j a s hd tg (.int ne) kd po dr nv y.str (r++[(Qf,v)]))) O1 (TagQ O i j (endS S y ne) (endE kd S E A y ne) (tokT kd nv A (clG (gapT y ne)))) :=
  fun r hr v O1 h1 hv x1=>(tag3 (d:=d+1) hr h1 ((x1.get rfl).trans ha) hv (Nat.lt_of_le_of_lt (Ukh y ne) (by decide)) hS hE).mono fun v s q=>q.tr (x1.sub rfl)
 have hr':=hr;rcases hr with rfl | ⟨k,rfl⟩ | ⟨k,u,rfl⟩
 ·refine RF.re (Ufq ..) ?_;delta J__law_tag_2_T0;exact core2 h (g [] hr')
 ·refine RF.re (Ufp ..) ?_;delta J__law_tag_2_T1;exact core2 h (g [(Qn,k)] hr')
 ·refine RF.re (Ue1 ..) ?_;delta J__law_tag_2_T2;exact core2 h (g [(Qn,k),(Qu,u)] hr')
end
noncomputable def num(ns:List Int)(i:Nat):Int:=(if h:i < ns.length then ns[i] else 37*(i:Int)).fmod 1000000007
noncomputable def numN(ns:List Int)(i:Nat):Nat:=(num ns i).toNat
structure W1 where
 S:List Nat
 E:List V
 A:At1
 y:Way
noncomputable def W1.att(w:W1)(n0 n1 n2 n3:Nat):W1:=⟨atS w.A (w.S++gpL n0 w.y.str) n1 n2 n3,atE w.A (w.S++gpL n0 w.y.str) (gpE w.S w.E n0 w.y.str) n1 n2 n3,atA w.A n1 n2 n3,wayN n2⟩
noncomputable def W1.step(f:Nat->Nat)(w:W1)(k:Nat):W1:=if (w.y.str==Qac)=true then w else w.att (f (2+4*k+0)) (f (2+4*k+1)) (f (2+4*k+2)) (f (2+4*k+3))
noncomputable def W1.run(f:Nat->Nat)(w:W1):Nat->W1
 | 0=>w
 | k+1=>(w.run f k).step f k
section
variable {p:Params}{O O' O₁ O0:Store}{d i j n m a n0 n1 n2 n3 ne:Nat}{E:List V}{S W K L L' odd G nm:List Nat}{Q:V->Store->Prop}{v u s hd tg en po dr nv gp:V}{l:List V}{why kd ah:Str}{A:At1}{y:Way}{cl:Bool}{r:Fr}{w:W1}{f:Nat->Nat}
theorem Uc8(ns:List Int)(i:Nat)(hi:i < 1000):callK (P p) (d+1) a__law_number [.lst (ns.map .int),.int i] O=some (.int (numN ns i),O):=by
 have hnn:((numN ns i:Nat):Int)=num ns i:=Int.toNat_of_nonneg (Int.fmod_nonneg_of_pos _ (by decide));rw [hnn,Ug3];delta F__law_number num;refine ba_of (a:=.int (ns.length:Int)) (O₁:=O) (by show some (V.int ((ns.map V.int).length:Int),O)=_;rw [List.length_map]) ?_;refine ba_of (a:=decide ((i:Int) < (ns.length:Int))) (O₁:=O) rfl ?_
 by_cases h:i < ns.length
 ·rw [decide_eq_true (Int.ofNat_lt.mpr h:(i:Int) < (ns.length:Int)),dif_pos h,if_pos rfl];refine ba_of (a:=.int ns[i]) (O₁:=O) (by delta look;rw [Uj1 (vs:=ns.map V.int) rfl (fun w0 e=>by cases e) (v:=.int ns[i]) (by rw [List.getElem?_map,List.getElem?_eq_getElem h];rfl)]) ?_;exact ba_of (a:=.int (ns[i].fmod 1000000007)) (O₁:=O) rfl rfl
 ·rw [decide_eq_false (fun q=>h (Int.ofNat_lt.mp q):¬ (i:Int) < (ns.length:Int)),dif_neg h,if_neg Bool.false_ne_true];refine ba_of (a:=.int (37*(i:Int))) (O₁:=O) (by
   delta look;rw [show binV .Mult (.int 37) (.int i) O=some (.int (37*(i:Int))) from if_pos ⟨by decide,Nat.lt_of_lt_of_le hi (by decide)⟩]) ?_
  exact ba_of (a:=.int ((37*(i:Int)).fmod 1000000007)) (O₁:=O) rfl rfl
theorem Ujn(n:Nat):(bareL n).length<=4:=by
 have:(bareD n).length=1+n % 3:=Uah _ _ _;delta bareL;split <;> (try rw [List.length_cons]) <;> omega
theorem Ugs(q n:Nat):(quoL q n).length<=3:=by
 delta quoL;rw [Uah];omega
theorem vS_len(y:Way)(n:Nat):(y.vS n).length<=5:=by
 have h1:=Ujn n;have h2:=Ugs 39 n;have h3:=Ugs 34 n;cases y with
 | bare=>exact Nat.le_succ_of_le h1
 | single=>show ([39]++quoL 39 n++[39]).length<=5;rw [List.length_append,List.length_append];simp only [List.length_cons,List.length_nil];omega
 | double=>show ([34]++quoL 34 n++[34]).length<=5;rw [List.length_append,List.length_append];simp only [List.length_cons,List.length_nil];omega
 | _=>exact Nat.zero_le _
theorem vE_len(y:Way)(k n:Nat):(y.vE k n).length<=4:=by
 cases y with
 | bare=>exact Nat.le_trans (tk_len vOdd vWhy (bareL n) k) (Ujn n)
 | single=>exact Nat.le_trans (tk_len [] "" (quoL 39 n) _) (Nat.le_succ_of_le (Ugs 39 n))
 | double=>exact Nat.le_trans (tk_len [] "" (quoL 34 n) _) (Nat.le_succ_of_le (Ugs 34 n))
 | _=>exact Nat.zero_le _
theorem Uqn(y:Way)(n:Nat):(y.mid n).length<=3:=by
 cases y with
 | none=>exact Nat.zero_le _
 | _=>exact Uk0 n
theorem Uok(n0:Nat)(ah:Str):(gpL n0 ah).length<=3:=by
 have:=Ul6 (n0 / 3) (n0 % 3) ah;delta gpL;split
 ·split
  ·exact Nat.zero_le _
  ·exact Nat.le_add_left 1 2
 ·omega
theorem att_S(hA:NmOk w.A):(w.att n0 n1 n2 n3).S.length<=w.S.length+20:=by
 have h1:=Uok n0 w.y.str;have h2:=Ujl hA n1;have h3:=Uqn (wayN n2) n2;have h4:=vS_len (wayN n2) n3;show (w.S++gpL n0 w.y.str++nmN w.A n1++(wayN n2).mid n2++(wayN n2).vS n3).length<=_;simp only [List.length_append]
 omega
theorem att_E(hA:NmOk w.A):(w.att n0 n1 n2 n3).E.length<=w.E.length+20:=by
 have h1:=Uok n0 w.y.str;have h2:=Ujl hA n1;have h3:=vE_len (wayN n2) ((w.S++gpL n0 w.y.str++nmN w.A n1++(wayN n2).mid n2).length) n3;have h4:=Uha w.S.length (gpL n0 w.y.str);have h5:(gpE w.S w.E n0 w.y.str).length<=w.E.length+4:=by
  delta gpE;rw [List.length_append];split
  ·rw [List.length_append];simp only [List.length_cons,List.length_nil];omega
  ·omega
 have h6:=tk_len nOdd nWhy (nmN w.A n1) ((w.S++gpL n0 w.y.str).length:Nat);have h7:(nmE w.A (w.S++gpL n0 w.y.str) (gpE w.S w.E n0 w.y.str) n1).length<=(gpE w.S w.E n0 w.y.str).length+3:=by
  delta nmE;split
  ·rw [List.length_append,List.length_append];simp only [List.length_cons,List.length_nil];omega
  ·rw [List.length_append];omega
 show (nmE _ _ _ _++_).length<=_;rw [List.length_append]
 omega
theorem low13(L:List Nat):∀ c ∈ lowN L,c≠13:=fun c hc=>by
 obtain ⟨b,hb,rfl⟩:=List.mem_map.mp hc;obtain ⟨x,hx,rfl⟩:=List.mem_map.mp hb;have h:vC x≠13:=by
  delta vC repC
  by_cases h1:x=13
  ·rw [if_pos h1];decide
  ·rw [if_neg h1]
   by_cases h2:x=0
   ·rw [if_pos h2];decide
   ·rw [if_neg h2];exact h1
 delta loC
 by_cases h3:65<=vC x/\vC x<=90
 ·rw [if_pos h3];omega
 ·rw [if_neg h3];exact h
theorem att_A(hA:NmOk w.A):NmOk (w.att n0 n1 n2 n3).A/\(w.att n0 n1 n2 n3).A.length<=w.A.length+1:=by
 show NmOk (attA _ _ _)/\(attA _ _ _).length<=_;delta attA;split
 ·exact ⟨hA,Nat.le_succ _⟩
 ·refine ⟨fun x hx=>?_,by rw [List.length_append];exact Nat.le_refl _⟩;rcases List.mem_append.mp hx with h | h
  ·exact hA x h
  ·rw [List.mem_singleton] at h;subst h;refine ⟨?_,low13 _⟩;show (((nmN w.A n1).map vC).map loC).length<=2;rw [List.length_map,List.length_map];exact Ujl hA n1
structure WB(w:W1)(k:Nat):Prop where
 nm:NmOk w.A
 al:w.A.length<=k
 sl:w.S.length<=20+20*k
 el:w.E.length<=20+20*k
theorem WB.step(h:WB w m)(k:Nat):WB (w.step f k) (m+1):=by
 delta W1.step;split
 ·exact ⟨h.nm,Nat.le_succ_of_le h.al,Nat.le_trans h.sl (by omega),Nat.le_trans h.el (by omega)⟩
 ·exact ⟨(att_A h.nm).1,Nat.le_trans (att_A h.nm).2 (Nat.succ_le_succ h.al),Nat.le_trans (att_S h.nm) (by have:=h.sl;omega),Nat.le_trans (att_E h.nm) (by have:=h.el;omega)⟩
theorem WB.run(h:WB w 0):∀ k,WB (w.run f k) k
 | 0=>h
 | k+1=>(WB.run h k).step k
noncomputable def WI(O0 s:Store)(i j a:Nat)(w:W1):Prop:=SE s i j w.S w.E/\s.get 13 a=some (.list (w.A.map aV))/\Un [11,12,13,14,15] O0 s
theorem Uod{ns:List Int}(k:Nat)(hk:k < 10) :
  compK (.rng 0 4 1) (fun x29=>bnd (bnd (look (binV .Mult (.int 4) (.int k))) fun x30=>bnd (look (binV .Add (.int 2) x30)) fun x31=>bnd (look (binV .Add x31 x29)) fun x32=>bnd (callK (P p) (d+1) a__law_number [.lst (ns.map .int),x32]) fun x33=>ret (.ret x33)) unFl) (fun x29=>ret true) 200 0 [] O =
   some (nums (numN ns (2+4*k+0)) (numN ns (2+4*k+1)) (numN ns (2+4*k+2)) (numN ns (2+4*k+3)),O):=by
 have hitem:∀ m:Nat,m < 4->(fun x29=>bnd (bnd (look (binV .Mult (.int 4) (.int k))) fun x30=>bnd (look (binV .Add (.int 2) x30)) fun x31=>bnd (look (binV .Add x31 x29)) fun x32=>bnd (callK (P p) (d+1) a__law_number [.lst (ns.map .int),x32]) fun x33=>ret (.ret x33)) unFl) (.int m) O=some (.int (numN ns (2+4*k+m)),O):=fun m hm=>by
  refine ba_of (a:=.int ((4*k:Nat):Int)) (O₁:=O) (by
   delta look;rw [show binV .Mult (.int 4) (.int k) O=some (.int (4*(k:Int))) from if_pos ⟨by decide,Nat.lt_trans hk (by decide)⟩];rw [Int.natCast_mul];rfl) ?_
  refine ba_of (a:=.int ((2+4*k:Nat):Int)) (O₁:=O) (by delta look;rw [Int.natCast_add 2 (4*k)];rfl) ?_;refine ba_of (a:=.int ((2+4*k+m:Nat):Int)) (O₁:=O) (by delta look;rw [Int.natCast_add (2+4*k) m];rfl) ?_;exact ba_of (Uc8 ns (2+4*k+m) (by omega)) rfl
 rw [Uoz (fun v=>match v with | .int z=>some (.int (numN ns (2+4*k+z.toNat))) | _=>none) [.int (0:Nat),.int (1:Nat),.int (2:Nat),.int (3:Nat)] (fun q hq=>?_) (fun v hv=>.inr ?_) (by decide)]
 ·rfl
 ·rw [Uhh]
  match q,hq with
  | 0,_=>rfl
  | 1,_=>rfl
  | 2,_=>rfl
  | 3,_=>rfl
  | 4,_=>rfl
 ·simp only [List.mem_cons,List.not_mem_nil,or_false] at hv;rcases hv with rfl | rfl | rfl | rfl
  ·exact ⟨_,rfl,rfl,hitem 0 (by decide)⟩
  ·exact ⟨_,rfl,rfl,hitem 1 (by decide)⟩
  ·exact ⟨_,rfl,rfl,hitem 2 (by decide)⟩
  ·exact ⟨_,rfl,rfl,hitem 3 (by decide)⟩
theorem coreT{F1:V->V->Fr}{F0:Fr}{ns:List Int}(h:WI O0 O i j a w)(hb:WB w m)(hm:m < 10)(k:Nat)(hk:k < 10) :
  Run (bnd (look (cmpV .NotEq (.str w.y.str) (.str Qac))) fun x27=>if x27 then bnd (builtinV .range [(.int 4)]) fun x28=>bnd (compK x28 (fun x29=>bnd (bnd (look (binV .Mult (.int 4) (.int k))) fun x30=>bnd (look (binV .Add (.int 2) x30)) fun x31=>bnd (look (binV .Add x31 x29)) fun x32=>bnd (callK (P p) (d+3) a__law_number [.lst (ns.map .int),x32]) fun x33=>ret (.ret x33)) unFl) (fun x29=>ret true) 200 0 []) fun x34 =>
   bnd (callK (P p) (d+3) a__law_attr [.ref 11 i,.ref 12 j,.ref 13 a,x34,.str w.y.str]) fun x35=>ret (Fl.next (F1 x35 x34)) else ret (Fl.next F0)) O fun fl O'=>∃ fr',fl=.next fr'/\WI O0 O' i j a (w.step (numN ns) k)/\(fr'=F0/\w.step (numN ns) k=w\/∃ u,fr'=F1 (.str (w.step (numN ns) k).y.str) u):=by
 refine Run.l (a:=!(w.y.str==Qac)) rfl ?_;cases hc:w.y.str==Qac with
 | true =>
  have e:w.step (numN ns) k=w:=if_pos hc;exact Run.neg (by decide) (Run.next ⟨_,rfl,by rw [e];exact h,.inl ⟨rfl,e⟩⟩)
 | false =>
  have e:w.step (numN ns) k=_:=if_neg (by rw [hc];exact Bool.false_ne_true);refine Run.pos (by decide) (Run.b (a:=.rng 0 4 1) (O₁:=O) (bi_of (by kernel_rfl)) (Run.b (Uod (d:=d+2) k hk) ?_));refine xAAA h fun h1 h2 h3=>?_;refine Run.c (Urc (d:=d) h1 h2 (by have:=hb.al;omega) hb.nm (by have:=hb.sl;omega) (by have:=hb.el;omega) _ _ _ _ w.y.str) fun v O2 qq=>?_;refine xAAAA qq fun ev q1 q2 q3=>?_;subst ev;rw [e];exact Run.next ⟨_,rfl,⟨q1,q2,h3.trans q3⟩,.inr ⟨_,rfl⟩⟩
end
noncomputable def tagP:List Nat:=[97,90,0,8490,65,61,122,34,91,64,49,60,201,123]
noncomputable def firP:List Nat:=[97,90,98,65,122,66]
noncomputable def tagD(tg:Nat):List Nat:=firP.getD (tg % 6) 0::drawnN tagP (tg / 18) (tg / 6 % 3)
noncomputable def kdN(hd:Nat):Str:=if hd % 2=1 then "end" else "start"
noncomputable def kdS(kd:Str):List Nat:=if (kd==Qh)=true then [47] else []
noncomputable def w0N(kd:Str)(tg:Nat):W1:=⟨kdS kd++tagD tg,tk [] "" (kdS kd).length (tagD tg),[],.name⟩
noncomputable def tagW(ns:List Int)(kd:Str):W1:=(w0N kd (numN ns 1)).run (numN ns) (4 - numN ns 0 / 2 % 5)
noncomputable def TagR(ns:List Int)(O:Store)(i j:Nat)(kd:Str):V->Store->Prop :=
 TagQ O i j (endS (tagW ns kd).S (tagW ns kd).y (numN ns 18)) (endE kd (tagW ns kd).S (tagW ns kd).E (tagW ns kd).A (tagW ns kd).y (numN ns 18)) (tokT kd (.str (ofC (lowN (tagD (numN ns 1))))) (tagW ns kd).A (clG (gapT (tagW ns kd).y (numN ns 18))))
section
variable {p:Params}{O O' O₁ O0:Store}{d i j n m a n0 n1 n2 n3 ne:Nat}{E:List V}{S W K L L' odd G nm:List Nat}{Q:V->Store->Prop}{v u s hd tg en po dr nv gp:V}{l:List V}{why kd ah:Str}{A:At1}{y:Way}{cl:Bool}{r:Fr}{w:W1}{f:Nat->Nat}{ns:List Int}
theorem Ume(tg:Nat):(tagD tg).length<=3:=by
 show (drawnN tagP (tg / 18) (tg / 6 % 3)).length+1<=3;rw [Uah];omega
theorem Upm(kd:Str):(kdS kd).length<=1:=by
 delta kdS;split
 ·exact Nat.le_refl _
 ·exact Nat.zero_le _
theorem w0_ok(kd:Str)(tg:Nat):WB (w0N kd tg) 0:=by
 have h1:=Ume tg;have h2:=Upm kd;have h3:=tk_len [] "" (tagD tg) (kdS kd).length;refine ⟨(fun x hx=>by cases hx),Nat.le_refl _,?_,?_⟩
 ·show (kdS kd++tagD tg).length<=_;rw [List.length_append];omega
 ·show (tk [] "" (kdS kd).length (tagD tg)).length<=_
  omega
theorem Uqg(h:WI O O i j a (w0N kd n))(hm:m<=4){tgv hdv:V} :
  RF (bnd (loopF (.rng 0 m 1) (setL (sc__law_tag p) Qn) (turnL (P p) (callK (P p) (d+3)) (sc__law_tag p) 51 (st__law_tag_l0 p)) 5000 0 (frT i j a (.lst (ns.map .int)) hdv tgv (.int ne) kd po dr nv Qg [])) (goOn (J__law_tag_2 p (callK (P p) (d+3))))) O
   (TagQ O i j (endS ((w0N kd n).run (numN ns) m).S ((w0N kd n).run (numN ns) m).y ne) (endE kd ((w0N kd n).run (numN ns) m).S ((w0N kd n).run (numN ns) m).E ((w0N kd n).run (numN ns) m).A ((w0N kd n).run (numN ns) m).y ne) (tokT kd nv ((w0N kd n).run (numN ns) m).A (clG (gapT ((w0N kd n).run (numN ns) m).y ne)))):=by
 refine forRun (fun k fr s=>WI O s i j a ((w0N kd n).run (numN ns) k)/\∃ r,fr=frT i j a (.lst (ns.map .int)) hdv tgv (.int ne) kd po dr nv ((w0N kd n).run (numN ns) k).y.str r/\Sh1 r) ((List.range m).map fun j:Nat=>.int j)
  ⟨h,[],rfl,.inl rfl⟩ (by rw [List.length_map,List.length_range];omega) (fun k v fr s hv hI=>?_) (fun fr s hI=>?_) fun fr s hI=>?_
 ·refine xAEAA hI fun h1 r h2 h3=>?_;clear hI;rw [List.getElem?_map] at hv;refine xEAA (Option.map_eq_some_iff.mp hv) fun j' hj qz1=>?_;subst qz1;have hk:k < m:=by rw [List.getElem?_eq_some_iff] at hj;simpa using hj.1
  have hjk:j'=k:=by rw [List.getElem?_range hk] at hj;cases hj;rfl
  subst hjk;have hb:=(w0_ok kd n).run (f:=numN ns) j';refine ⟨by rw [Uhh,if_pos (by omega),show (0:Int)+(j':Int)*1=j' by omega],?_⟩;have fin:∀ {s':Store} {fl:Fl} {F0:Fr} {F1:V->Fr},(∃ fr',fl=.next fr'/\WI O s' i j a (((w0N kd n).run (numN ns) j').step (numN ns) j')/\(fr'=F0/\((w0N kd n).run (numN ns) j').step (numN ns) j'=(w0N kd n).run (numN ns) j'\/∃ u,fr'=F1 u)) ->
    (((w0N kd n).run (numN ns) j').step (numN ns) j'=(w0N kd n).run (numN ns) j'->∃ r,F0=frT i j a (.lst (ns.map .int)) hdv tgv (.int ne) kd po dr nv (((w0N kd n).run (numN ns) j').step (numN ns) j').y.str r/\Sh1 r) ->
    (∀ u,∃ r,F1 u=frT i j a (.lst (ns.map .int)) hdv tgv (.int ne) kd po dr nv (((w0N kd n).run (numN ns) j').step (numN ns) j').y.str r/\Sh1 r) ->
    ∃ fr',fl=.next fr'/\WI O s' i j a ((w0N kd n).run (numN ns) (j'+1))/\∃ r,fr'=frT i j a (.lst (ns.map .int)) hdv tgv (.int ne) kd po dr nv ((w0N kd n).run (numN ns) (j'+1)).y.str r/\Sh1 r:=fun q g0 g1=>by
   obtain ⟨fr',e,hw,hf⟩:=q;refine ⟨fr',e,hw,?_⟩;rcases hf with ⟨rfl,e2⟩ | ⟨u,rfl⟩
   ·exact g0 e2
   ·exact g1 u
  rcases h3 with rfl | ⟨k',rfl⟩ | ⟨k',u',rfl⟩
  ·refine ⟨frT i j a (.lst (ns.map .int)) hdv tgv (.int ne) kd po dr nv ((w0N kd n).run (numN ns) j').y.str [(Qn,.int j')],by rw [h2];exact Ubg (by kernel_rfl),?_⟩;rw [Ubo];delta T__law_tag_l0_0;refine Run.mono (coreT (d:=d) h1 hb (by omega) j' (by omega)) fun fl s' q=>.inl (fin q (fun e=>?_) fun u=>?_)
   ·exact ⟨[(Qn,.int j')],by rw [e],.inr (.inl ⟨_,rfl⟩)⟩
   ·exact ⟨[(Qn,.int j'),(Qu,u)],rfl,.inr (.inr ⟨_,_,rfl⟩)⟩
  ·refine ⟨frT i j a (.lst (ns.map .int)) hdv tgv (.int ne) kd po dr nv ((w0N kd n).run (numN ns) j').y.str [(Qn,.int j')],by rw [h2];exact Ubg (by kernel_rfl),?_⟩;rw [Ubo];delta T__law_tag_l0_0;refine Run.mono (coreT (d:=d) h1 hb (by omega) j' (by omega)) fun fl s' q=>.inl (fin q (fun e=>?_) fun u=>?_)
   ·exact ⟨[(Qn,.int j')],by rw [e],.inr (.inl ⟨_,rfl⟩)⟩
   ·exact ⟨[(Qn,.int j'),(Qu,u)],rfl,.inr (.inr ⟨_,_,rfl⟩)⟩
  ·refine ⟨frT i j a (.lst (ns.map .int)) hdv tgv (.int ne) kd po dr nv ((w0N kd n).run (numN ns) j').y.str [(Qn,.int j'),(Qu,u')],by rw [h2];exact Ubg (by kernel_rfl),?_⟩;rw [Udt];delta T__law_tag_l0_1;refine Run.mono (coreT (d:=d) h1 hb (by omega) j' (by omega)) fun fl s' q=>.inl (fin q (fun e=>?_) fun u=>?_)
   ·exact ⟨[(Qn,.int j'),(Qu,u')],by rw [e],.inr (.inr ⟨_,_,rfl⟩)⟩
   ·exact ⟨[(Qn,.int j'),(Qu,u)],rfl,.inr (.inr ⟨_,_,rfl⟩)⟩
 ·rw [List.length_map,List.length_range,Uhh,if_neg (by omega)]
 ·rw [List.length_map,List.length_range] at hI;refine xAEAA hI fun h1 r h2 h3=>xAAA h1 fun q1 q2 q3=>?_;subst h2;have hb:=(w0_ok kd n).run (f:=numN ns) m;exact (tag2 (d:=d+1) h3 q1 q2 (by have:=hb.sl;omega) (by have:=hb.el;omega)).mono fun v s q=>q.tr q3
theorem tag1(h:SE O i j (kdS kd) []){hn tn:Nat}(hh:hn=numN ns 0)(ht:tn=numN ns 1)(he:ne=numN ns 18) :
  RF (J__law_tag_1 p (callK (P p) (d+3)) [(Qo,.lst (ns.map .int)),(Qa,.ref 11 i),(Qb,.ref 12 j),(Qp,.int hn),(Qq,.int tn),(Qh,.int ne),(Ql,.str kd)]) O (TagR ns O i j kd):=by
 rw [Ueo];delta J__law_tag_1_T0;have hlt:=Ume tn;have hlk:=Upm kd;refine RF.b1 (RF.b1 (RF.l (mod_of tn 6 (by decide)) (RF.l (Ujz firP tn (by decide)) (RF.b1 (RF.l (div_of tn 18 (by decide)) (RF.l (div_of tn 6 (by decide)) (RF.l (mod_of (tn / 6) 3 (by decide)) ?_)))))));refine RF.c (Uc5 (d:=d+2) tagP (by decide) (tn / 18) (tn / 6 % 3) (by omega) h.len) fun v1 O1 qq=>xEAAAA qq fun k ev h1 x1 hl1=>?_;subst ev;have hs1:=h.keep x1 rfl rfl hl1;refine RF.l (Lv.add (L:=drawnN tagP (tn / 18) (tn / 6 % 3)) (.inr ⟨k,rfl,h1⟩) [firP.getD (tn % 6) 0] (by rw [Uah];simp only [List.length_cons,List.length_nil];omega)) (RF.b1 ?_);refine RF.c (Ujg (d:=d+2) (why:="") hs1 (tagD tn) [] Dw.lst (by decide) (by omega) (by omega) (by decide)) fun v2 O2 qq=>xAA qq fun ev hp=>?_;subst ev;refine RF.c (Ug0 (d:=d+2) false ((tagD tn).map vC) (by rw [List.length_map];omega)) fun v3 O3 qq=>xAA qq fun ev e3=>?_;subst ev;have e4:=e3.symm;clear e3;subst e4;refine xEA (reg_of hp.1.len (by decide:13 < 24)) fun l13 hl13=>RF.b (Uf8 hl13) ?_;refine RF.l (div_of hn 2 (by decide)) (RF.l (mod_of (hn / 2) 5 (by decide)) (RF.l (a:=.int ((4 - hn / 2 % 5:Nat):Int)) (by rw [Int.ofNat_sub (by omega)];rfl) (RF.b (a:=.rng 0 ((4 - hn / 2 % 5:Nat):Int) 1) (O₁:=O2.add 13 (.list [])) ?_ ?_)))
 ·refine bi_of ?_;show (if ((4 - hn / 2 % 5:Nat):Int).natAbs<=lim then some (V.rng 0 ((4 - hn / 2 % 5:Nat):Int) 1) else none)=_;rw [if_pos (show ((4 - hn / 2 % 5:Nat):Int).natAbs<=lim from Nat.le_trans (Nat.sub_le 4 (hn / 2 % 5)) (by decide))]
 ·have hw:WI (O2.add 13 (.list [])) (O2.add 13 (.list [])) i j l13.length (w0N kd tn):=⟨hp.1.keep (K:=[13]) (Un.add rfl) rfl rfl (Uba.trans hp.1.len),Ua0 hl13,Un.rfl⟩
  subst hh ht he;exact (Uqg (d:=d) hw (Nat.sub_le _ _)).mono fun v s q=>q.tr ((x1.sub rfl).trans ((hp.2.sub rfl).trans (Un.add rfl)))
theorem Usy(h:SE O i j [] [])(ns:List Int):Run (callK (P p) (d+4) a__law_tag [.lst (ns.map .int),.ref 11 i,.ref 12 j]) O (TagR ns O i j (kdN (numN ns 0))):=by
 rw [Uk2];show RF _ O _;delta F__law_tag;refine RF.b (Uc8 (d:=d+2) ns 0 (by decide)) (RF.b (Uc8 (d:=d+2) ns 1 (by decide)) (RF.b (Uc8 (d:=d+2) ns 18 (by decide)) (RF.l (mod_of (numN ns 0) 2 (by decide)) (RF.l (eq_int (numN ns 0 % 2) 1) ?_))))
 by_cases h1:numN ns 0 % 2=1
 ·rw [decide_eq_true h1,show kdN (numN ns 0)="end" from if_pos h1];refine RF.pos rfl ?_;rw [Ub4];refine RF.l (a:=true) (by kernel_rfl) (RF.pos rfl (RF.sa h 47 (by decide) fun O1 h2 x2=>?_));exact (tag1 (d:=d) (kd:="end") h2 rfl rfl rfl).mono fun v s q=>q.tr (x2.sub rfl)
 ·rw [decide_eq_false h1,show kdN (numN ns 0)="start" from if_neg h1];refine RF.neg Bool.false_ne_true ?_;rw [Ub4];exact RF.l (a:=false) (by kernel_rfl) (RF.neg Bool.false_ne_true (tag1 (d:=d) (kd:="start") h rfl rfl rfl))
end
noncomputable def mv(c:Nat):Str:=ch (nrm c)
noncomputable def Fo(s:PS)(L:List Nat):PS:=(L.map mv).foldl (adv 4) s
noncomputable def Bf(st:Str):Prop:=st="before attribute name"\/st="after attribute name"
section
variable {B:PD}{la st why:Str}{n m c:Nat}{E:List V}{A:List PA}{x:PA}{s t:PS}{L G odd:List Nat}{q:St}
theorem Fo.app(s:PS)(a b:List Nat):Fo s (a++b)=Fo (Fo s a) b:=by delta Fo;rw [List.map_append,List.foldl_append]
theorem Fo.cons(s:PS)(c:Nat)(r:List Nat):Fo s (c::r)=Fo (adv 4 s (mv c)) r:=rfl
theorem Fo.one(s:PS)(c:Nat):Fo s [c]=adv 4 s (mv c):=rfl
theorem Fo.hd(h:adv 4 s (mv c)=adv 4 t (mv c))(r:List Nat):Fo s (c::r)=Fo t (c::r):=by rw [Fo.cons,Fo.cons,h]
theorem nrm_of(h:c≠13):nrm c=c:=if_neg h
theorem mv_of(h:c≠13):mv c=ch c:=by delta mv;rw [nrm_of h]
theorem mv_map(L:List Nat)(h:∀ c ∈ L,c≠13):L.map mv=L.map ch:=List.map_congr_left fun c hc=>mv_of (h c hc)
theorem t_Bf(hst:Bf st)(h:c ∈ bls):adv 4 (ms B la n st E A) (ch c)=ms B la ((n+1:Nat):Int) st E A:=by
 rcases hst with rfl | rfl
 ·exact t_bef h
 ·exact t_aft h
theorem sol_Bf(hst:Bf st):adv 4 (ms B la n st E A) (ch 47)=ms B la ((n+1:Nat):Int) "self-closing start tag" E A:=by
 rcases hst with rfl | rfl
 ·exact Ukx
 ·exact Uf4
theorem gt_Bf(hst:Bf st):adv 4 (ms B la n st E A) (ch 62)=outS B la n E A B.closing:=by
 rcases hst with rfl | rfl
 ·exact bef_gt
 ·exact aft_gt
noncomputable def GapOk(G:List Nat):Prop:=∀ c ∈ G,nrm c ∈ bls\/c=47
theorem Ulz:∀ (n:Nat) (G:List Nat),clG G=true->layE n G=(layE n G).dropLast++[errV "unexpected-solidus-in-tag" ((n+G.length:Nat):Int)]
 | n,[],h=>by cases h
 | n,[c],h=>by
  have e:c=47:=by
   have:=of_decide_eq_true h;cases this;rfl
  subst e;rfl
 | n,c::b::G,h=>by
  have ih:=Ulz (n+1) (b::G) h;have hne:layE (n+1) (b::G)≠[]:=lay_ne (n+1) (b::G) h;show (if c=47 then _ else _)++layE (n+1) (b::G)=((if c=47 then _ else _)++layE (n+1) (b::G)).dropLast++_;rw [List.dropLast_append_of_ne_nil hne,List.append_assoc,show n+(c::b::G).length=n+1+(b::G).length by simp only [List.length_cons];omega,<- ih]
theorem Ula(c b:Nat)(G:List Nat):clG (c::b::G)=clG (b::G):=rfl
theorem Ugo:∀ (G:List Nat) (n:Nat) (E:List V) (st:Str),Bf st->GapOk G->∃ st',Bf st'/\Fo (ms B la n st E A) G =
  if clG G=true then ms B la ((n+G.length:Nat):Int) "self-closing start tag" (E++layE n G).dropLast A else ms B la ((n+G.length:Nat):Int) st' (E++layE n G) A
 | [],n,E,st,hst,hG=>⟨st,hst,by rw [show layE n []=[] from rfl,List.append_nil,if_neg (by decide)];rfl⟩
 | c::G,n,E,st,hst,hG=>by
  have hG':GapOk G:=fun x hx=>hG x (List.mem_cons_of_mem _ hx);rw [Fo.cons]
  by_cases h47:c=47
  ·subst h47;rw [show mv 47=ch 47 from rfl,sol_Bf hst];cases G with
   | nil=>exact ⟨st,hst,by
     rw [if_pos (by decide),show layE n [47]=[errV "unexpected-solidus-in-tag" ((n+1:Nat):Int)] from rfl,List.dropLast_concat];rfl⟩
   | cons b G =>
    obtain ⟨st',h',e⟩:=Ugo (b::G) (n+1) (E++[errV "unexpected-solidus-in-tag" ((n+1:Nat):Int)]) "before attribute name" (.inl rfl) hG';refine ⟨st',h',?_⟩;have hb:nrm b ∈ okL/\nrm b≠62:=by
     rcases hG' b List.mem_cons_self with h | h
     ·exact ⟨bl_ok h,fun q=>by rw [q] at h;exact absurd h (by decide)⟩
     ·subst h;decide
    rw [Fo.hd (t:=ms B la ((n+1:Nat):Int) "before attribute name" (E++[errV "unexpected-solidus-in-tag" ((n+1:Nat):Int)]) A) (self_o hb.1 hb.2),e,Ula];rw [show layE n (47::b::G)=[errV "unexpected-solidus-in-tag" ((n+1:Nat):Int)]++layE (n+1) (b::G) from rfl,List.append_assoc,show n+(47::b::G).length=n+1+(b::G).length by simp only [List.length_cons];omega]
  ·have hb:=(hG c List.mem_cons_self).resolve_right h47;rw [show adv 4 (ms B la n st E A) (mv c)=_ from t_Bf hst hb];obtain ⟨st',h',e⟩:=Ugo G (n+1) E st hst hG';refine ⟨st',h',?_⟩;rw [e,show layE n (c::G)=[]++layE (n+1) G by rw [layE,if_neg h47],List.nil_append,show n+(c::G).length=n+1+G.length by simp only [List.length_cons];omega];cases G with
   | nil=>rw [show clG [c]=false from decide_eq_false (fun q=>h47 (by cases q;rfl))];rfl
   | cons b G=>rw [Ula]
theorem gap_gt(hst:Bf st)(hG:GapOk G)(hcl:B.closing=false):adv 4 (Fo (ms B la n st E A) G) (ch 62)=outS B la ((n+G.length:Nat):Int) (if clG G=true then (E++layE n G).dropLast else E++layE n G) A (clG G):=by
 obtain ⟨st',h',e⟩:=Ugo (B:=B) (la:=la) (A:=A) G n E st hst hG;rw [e];cases h:clG G with
 | true=>rw [if_pos rfl,Usf];rfl
 | false=>rw [if_neg Bool.false_ne_true,gt_Bf h',hcl];rfl
theorem Uoa(hst:Bf st):∀ (L:List Nat),L≠[]->(∀ c ∈ L,c ∈ okL/\c ∉ nStop/\c≠13)->(∀ c r,L=c::r->adv 4 s (ch c)=adv 4 (ms B la n st E A) (ch c)) ->
  Fo s L=ms B la ((n+L.length:Nat):Int) "attribute name" (E++tk nOdd nWhy n L) (A++[⟨ofC (lowN L),"",true⟩])
 | [],h,_,_=>absurd rfl h
 | c::r,_,h,hs=>by
  have hc:=h c List.mem_cons_self;rw [Fo.hd (t:=ms B la n "attribute name" E (A++[⟨"","",true⟩])) (by rw [mv_of hc.2.2,hs c r rfl,t_new hc.1 hc.2.1 hst]) r];delta Fo;rw [mv_map (c::r) fun x hx=>(h x hx).2.2,f_name (c::r) n E _ fun x hx=>(h x hx).2.1];have e:(c::r).map lowC=lowN (c::r):=by
   delta lowN;rw [List.map_map];refine List.map_congr_left fun x hx=>?_;show lowC x=loC (vC x);have h13:=(h x hx).2.2;delta lowC loC vC repC;rw [if_neg h13]
   by_cases h0:x=0
   ·subst h0;rfl
   ·rw [if_neg h0,if_neg h0]
  rw [e,show Qt++ofC (lowN (c::r))=ofC (lowN (c::r)) by
   delta ofC;show (⟨#[]++_⟩:Str)=_;rw [Array.empty_append]]
  rfl
end
section
variable {B:PD}{la st why:Str}{n m c k:Nat}{E:List V}{A:List PA}{x:PA}{s t:PS}{L G odd b nm vv:List Nat}{q:St}{y:Way}{w:W1}{D:At1}
theorem Ujm(k:Nat):∀ c ∈ blk k,c ∈ bls/\c≠13:=fun c h=>by
 have h2:=List.mem_of_mem_drop (List.mem_of_mem_take h);exact (show ∀ c ∈ [32,10,9,12],c ∈ bls/\c≠13 by decide) c h2
theorem st_bl:∀ c ∈ bls,c ∈ nStop:=by decide
theorem mv_bl(h:c ∈ bls/\c≠13):mv c=ch c:=mv_of h.2
theorem Usg(hb:∀ c ∈ b,c ∈ bls/\c≠13)(hl:b.length<=1):Fo (ms B la n "attribute name" E (A++[x])) (b++[61])=ms B la ((n+b.length+1:Nat):Int) "before attribute value" (ckE n E A x) (A++[ckA A x]):=by
 match b,hb,hl with
 | [],_,_ =>
  rw [List.nil_append,Fo.one,show mv 61=ch 61 from rfl,Ug1 (by decide),t_eq];rfl
 | [c],hb,_ =>
  have h:=hb c List.mem_cons_self;rw [Fo.app,Fo.one,Fo.one,show mv 61=ch 61 from rfl,mv_bl h,Ug1 (st_bl c h.1),t_aft h.1];exact t_eq
theorem Upi:∀ (b:List Nat) (n:Nat),(∀ c ∈ b,c ∈ bls/\c≠13)->Fo (ms B la n "before attribute value" E A) b=ms B la ((n+b.length:Nat):Int) "before attribute value" E A
 | [],n,_=>rfl
 | c::b,n,hb=>by
  rw [Fo.cons,mv_bl (hb c List.mem_cons_self),Uqs (hb c List.mem_cons_self).1];have ih:=Upi b (n+1) fun x hx=>hb x (List.mem_cons_of_mem _ hx);rw [show n+(c::b).length=n+1+b.length by rw [List.length_cons];omega];exact ih
theorem Ugn(k:Nat):Fo (ms B la n "attribute name" E (A++[x])) (midN k)=ms B la ((n+(midN k).length:Nat):Int) "before attribute value" (ckE n E A x) (A++[ckA A x]):=by
 delta midN;rw [Fo.app,Usg (Ujm _) (Uhx _),Upi _ _ (Ujm _),show n+(blk (k / 5 % 5)).length+1+(blk (k / 25 % 5)).length=n+(blk (k / 5 % 5)++[61]++blk (k / 25 % 5)).length by simp only [List.length_append,List.length_cons,List.length_nil];omega]
theorem Umb(l:List Nat):Qt++ofC l=ofC l:=by
 delta ofC;show (⟨#[]++_⟩:Str)=_;rw [Array.empty_append]
theorem rep_vC(L:List Nat):(L.map nrm).map repC=L.map vC:=by
 rw [List.map_map];refine List.map_congr_left fun x w0=>?_;show repC (nrm x)=vC x;delta vC nrm
 by_cases h:x=13
 ·rw [if_pos h,if_pos h];rfl
 ·rw [if_neg h,if_neg h]
theorem Unp(hx:x.v="")(hne:L≠[])(hL:∀ c ∈ L,c ∈ okL/\c ∉ bls/\c≠62/\c≠38/\c≠13)(hh:∀ c r,L=c::r->c≠34/\c≠39) :
  Fo (ms B la n "before attribute value" E (A++[x])) L=ms B la ((n+L.length:Nat):Int) "attribute value (unquoted)" (E++tk vOdd vWhy n L) (A++[{ x with v:=ofC (L.map vC) }]):=by
 match L,hne,hL,hh with
 | c::r,_,hL,hh =>
  have hc:=hL c List.mem_cons_self;have hq:=hh c r rfl;rw [Fo.hd (t:=ms B la n "attribute value (unquoted)" E (A++[x])) (by rw [mv_of hc.2.2.2.2,vbare hc.1 hc.2.1 hq.1 hq.2 hc.2.2.1]) r];delta Fo;rw [mv_map (c::r) fun z hz=>(hL z hz).2.2.2.2];have:=f_val (B:=B) (la:=la) (A:=A) (q:=.bare) (odd:=vOdd) (why:=vWhy) (by kernel_rfl) (by kernel_rfl) (c::r) n E x fun z hz=>Uq7 (hL z hz).2.1 (hL z hz).2.2.1 (hL z hz).2.2.2.1;rw [show St.bare.str="attribute value (unquoted)" from rfl] at this;rw [this,hx,Umb,<- rep_vC,show (c::r).map nrm=c::r from (List.map_congr_left fun z hz=>nrm_of (hL z hz).2.2.2.2).trans (List.map_id _)]
  rfl
theorem tk_nrm:∀ (L:List Nat) (n:Int),tk [] "" n (L.map nrm)=tk [] "" n L
 | [],n=>rfl
 | c::r,n=>by
  show tk1 [] "" n (nrm c)++tk [] "" (n+1) (r.map nrm)=tk1 [] "" n c++tk [] "" (n+1) r;rw [tk_nrm r (n+1)]
  congr 1
  delta tk1 nrm
  by_cases h:c=13
  ·subst h;rfl
  ·rw [if_neg h]
theorem Ukk{q:Nat}(hx:x.v="")(hq:q=34\/q=39)(hL:∀ c ∈ L,nrm c≠q/\nrm c≠38) :
  Fo (ms B la n "before attribute value" E (A++[x])) ([q]++L++[q])=ms B la ((n+([q]++L++[q]).length:Nat):Int) "after attribute value (quoted)" (E++tk [] "" ((n+1:Nat):Int) L) (A++[{ x with v:=ofC (L.map vC) }]):=by
 have hl:n+([q]++L++[q]).length=n+1+L.length+1:=by simp only [List.length_append,List.length_cons,List.length_nil];omega
 rw [Fo.app,Fo.app,hl];have e:∀ Z:St,(Z.str==Qai)=false->(Z.str==Qaj)=false->(∀ c ∈ L,act Z (ch (nrm c))=⟨vErr [] "" (nrm c),.put,none,false⟩) ->
   Fo (ms B la ((n+1:Nat):Int) Z.str E (A++[x])) L=ms B la ((n+1+L.length:Nat):Int) Z.str (E++tk [] "" ((n+1:Nat):Int) L) (A++[{ x with v:=ofC (L.map vC) }]):=fun Z h1 h2 h3=>by
  delta Fo;have:=f_val (B:=B) (la:=la) (A:=A) (q:=Z) (odd:=[]) (why:="") h1 h2 (L.map nrm) ((n+1:Nat):Int) E x fun z hz=>by
   obtain ⟨c,hc,rfl⟩:=List.mem_map.mp hz;exact h3 c hc
  rw [List.map_map] at this;rw [show L.map mv=L.map (ch ∘ nrm) from rfl,this,hx,Umb,rep_vC,tk_nrm,List.length_map]
  rfl
 rcases hq with rfl | rfl
 ·rw [show Fo (ms B la n "before attribute value" E (A++[x])) [34]=ms B la ((n+1:Nat):Int) St.dq.str E (A++[x]) from vdq,e .dq (by kernel_rfl) (by kernel_rfl) fun c hc=>Uhq (hL c hc).1 (hL c hc).2];exact c_dq
 ·rw [show Fo (ms B la n "before attribute value" E (A++[x])) [39]=ms B la ((n+1:Nat):Int) St.sq.str E (A++[x]) from vsq,e .sq (by kernel_rfl) (by kernel_rfl) fun c hc=>Uhq (hL c hc).1 (hL c hc).2];exact c_sq
noncomputable def KA(A:List PA)(D:At1):Prop:=(A.filter (·.k)).map (fun x=>(x.n,x.v))=D.map (fun y=>(ofC y.1,ofC y.2))/\(A=[] ↔ D=[])
theorem KA.kept(h:KA A D):kept A=D.map aV:=by
 have:=congrArg (List.map fun z:Str×Str=>V.tup [.str z.1,.str z.2]) h.1;rw [List.map_map,List.map_map] at this;exact this
theorem KA.told(h:KA A D)(hx:x.n=ofC nm):toldP A x=decide (nm ∈ kn D):=by
 have e:∀ A:List PA,A.any (fun b=>b.k&&b.n==x.n)=((A.filter (·.k)).map (fun x=>(x.n,x.v))).any fun z=>z.1==x.n:=fun A=>by
  rw [List.any_map,List.any_filter];rfl
 delta toldP;rw [e,h.1,List.any_map,hx,Bool.eq_iff_iff];simp only [List.any_eq_true,Function.comp,Uon,decide_eq_true_iff];constructor
 ·rintro ⟨z,hz,rfl⟩;exact List.mem_map.mpr ⟨z,hz,rfl⟩
 ·intro h;obtain ⟨z,hz,rfl⟩:=List.mem_map.mp h;exact ⟨z,hz,rfl⟩
theorem KA.snoc(h:KA A D)(hx:x=⟨ofC nm,"",true⟩):KA (A++[{ ckA A x with v:=ofC vv }]) (attA D nm vv):=by
 have ht:=h.told (x:=x) (nm:=nm) (by rw [hx]);delta attA
 by_cases hm:nm ∈ kn D
 ·rw [decide_eq_true hm] at ht;rw [if_pos hm,show ckA A x={ x with k:=false } from if_pos ht];refine ⟨?_,⟨fun q=>absurd q (by simp),fun q=>?_⟩⟩
  ·rw [List.filter_append,show ([{ ({ x with k:=false }:PA) with v:=ofC vv }]:List PA).filter (·.k)=[] from rfl,List.append_nil];exact h.1
  ·subst q;cases hm
 ·rw [decide_eq_false hm] at ht;rw [if_neg hm,show ckA A x=x from if_neg (by rw [ht];exact Bool.false_ne_true),hx];refine ⟨?_,⟨fun q=>absurd q (by simp),fun q=>absurd q (by simp)⟩⟩;rw [List.filter_append,List.map_append,List.map_append,h.1];rfl
end
structure Ent(B:PD)(la:Str)(s:PS)(n:Nat)(E:List V)(A:List PA)(y:Way):Prop where
 bl:∃ st,Bf st/\(∀ c,nrm c ∈ bls->adv 4 s (mv c)=adv 4 (ms B la n st E A) (mv c))/\(y≠.bare->adv 4 s (mv 47)=adv 4 (ms B la n st E A) (mv 47))/\adv 4 s (mv 62)=adv 4 (ms B la n st E A) (mv 62)
 qu:sng y.str=true->∀ c ∈ okL,c ∉ bls->c≠47->c≠62->adv 4 s (ch c)=adv 4 (ms B la n "before attribute name" (E++[errV "missing-whitespace-between-attributes" n]) A) (ch c)
noncomputable def Rl(B:PD)(la:Str)(w:W1)(s:PS):Prop:=∃ A,KA A w.A/\(w.y≠.missing->Ent B la s w.S.length w.E A w.y)/\(w.y=.missing->s=ms B la w.S.length "before attribute value" w.E A)
noncomputable def gdL:List Nat:=[97,66,65,0,122,8490,34,90,60,64,39,91,98,201,65533]
noncomputable def NmG(D:At1):Prop:=∀ x ∈ D,x.1≠[]/\∀ c ∈ x.1,c ∈ gdL
section
variable {B:PD}{la st why:Str}{n m c k n0 n1 n2 n3:Nat}{E:List V}{A:List PA}{x:PA}{s t:PS}{L G odd b nm vv:List Nat}{q:St}{y:Way}{w:W1}{D:At1}{ah:Str}
theorem gap_ok(a b:Nat)(ah:Str):GapOk (gapN a b ah):=by
 have h:∀ c ∈ gapP,nrm c ∈ bls\/c=47:=by decide
 have h2:GapOk (drawnN gapP a b):=fun c hc=>h c (Ual gapP (by decide) a b c hc);delta gapN;split
 ·intro c hc;rcases List.mem_cons.mp hc with rfl | hc
  ·exact .inl (by decide)
  ·exact h2 c hc
 ·exact h2
theorem Uks(a b:Nat)(hc:gapN a b "bare"=c::L):nrm c ∈ bls:=by
 have h:=gap_ok a b "bare" c (by rw [hc];exact List.mem_cons_self);refine h.resolve_right fun q=>?_;subst q;revert hc;delta gapN
 by_cases h:(drawnN gapP a b).take 1=[47]
 ·rw [if_pos ⟨by kernel_rfl,h⟩];intro q;cases q
 ·rw [if_neg (fun q=>h q.2)];intro q;exact h (by rw [q];rfl)
theorem Ent.ne(h:Ent B la s n E A y)(hG:GapOk G)(hne:G≠[])(hb:y=.bare->∀ c r,G=c::r->nrm c ∈ bls):∃ st,Bf st/\Fo s G=Fo (ms B la n st E A) G:=by
 obtain ⟨st,hst,h1,h2,h3⟩:=h.bl;refine ⟨st,hst,?_⟩;cases G with
 | nil=>exact absurd rfl hne
 | cons c r =>
  refine Fo.hd ?_ r;rcases hG c List.mem_cons_self with hc | rfl
  ·exact h1 c hc
  ·refine h2 fun q=>?_;have:=hb q 47 r rfl;exact absurd this (by decide)
theorem gpL_ok(n0:Nat)(ah:Str):GapOk (gpL n0 ah):=by
 delta gpL;split
 ·split
  ·intro c hc;cases hc
  ·intro c hc;rw [List.mem_singleton] at hc;subst hc;exact .inl (by decide)
 ·exact gap_ok _ _ _
theorem Usn(h:gpL n0 "bare"=c::L):nrm c ∈ bls:=by
 revert h;delta gpL;split
 ·rw [if_neg (by decide)];intro q;cases q;decide
 ·exact Uks _ _
theorem Uo2(h:c ∉ nStop):c ∉ bls/\c≠47/\c≠62:=⟨fun q=>h (st_bl c q),fun q=>h (by subst q;decide),fun q=>h (by subst q;decide)⟩
theorem Ent.gap(h:Ent B la s w.S.length w.E A w.y)(n0:Nat):∃ st,Bf st/\∀ c ∈ okL,c ∉ nStop->adv 4 (Fo s (gpL n0 w.y.str)) (ch c)=adv 4 (ms B la ((w.S++gpL n0 w.y.str).length:Nat) st (gpE w.S w.E n0 w.y.str) A) (ch c):=by
 by_cases hne:gpL n0 w.y.str=[]
 ·have hg:gapN (n0 / 3) (n0 % 3) w.y.str=[]/\sng w.y.str=true:=by
   revert hne;delta gpL
   by_cases hg:gapN (n0 / 3) (n0 % 3) w.y.str=[]
   ·rw [if_pos hg];cases hs:sng w.y.str with
    | true=>intro _;exact ⟨hg,rfl⟩
    | false=>intro q;cases q
   ·rw [if_neg hg];intro q;exact absurd q hg
  refine ⟨_,.inl rfl,fun c hc hs=>?_⟩;have hn:=Uo2 hs;rw [hne,List.append_nil,show gpE w.S w.E n0 w.y.str=w.E++[errV "missing-whitespace-between-attributes" (w.S.length:Nat)] by delta gpE;rw [if_pos hg,hne];exact List.append_nil _];exact h.qu hg.2 c hc hn.1 hn.2.1 hn.2.2
 ·have e:gpE w.S w.E n0 w.y.str=w.E++layE w.S.length (gpL n0 w.y.str):=by
   delta gpE;rw [if_neg fun q=>hne (by delta gpL;rw [if_pos q.1,if_pos q.2])]
  obtain ⟨st,hst,he⟩:=h.ne (gpL_ok n0 w.y.str) hne fun q c r hc=>by rw [q] at hc;exact Usn hc
  -- the state behind the gap does not hang on the sign
  obtain ⟨st',h',e2⟩:=Ugo (B:=B) (la:=la) (A:=A) (gpL n0 w.y.str) w.S.length w.E st hst (gpL_ok n0 w.y.str);rw [he,e2,e,List.length_append];cases hcl:clG (gpL n0 w.y.str) with
  | true =>
   refine ⟨_,.inl rfl,fun c hc hs=>?_⟩;rw [if_pos rfl,self_o hc (Uo2 hs).2.2,List.dropLast_append_of_ne_nil (lay_ne _ _ hcl),List.append_assoc,<- Ulz _ _ hcl]
  | false=>exact ⟨st',h',fun c w0 w0=>by rw [if_neg Bool.false_ne_true]⟩
theorem gd_ok:∀ c ∈ gdL,c ∈ okL/\c ∉ nStop/\c≠13:=by decide
theorem gd_up:∀ c ∈ gdL,upC c ∈ gdL:=by decide
theorem gd_low:∀ c ∈ gdL,loC (vC c) ∈ gdL:=by decide
theorem gd_nm:∀ c ∈ nameP,c ∈ gdL:=by decide
theorem nmN_ok(h:NmG D)(n1:Nat):nmN D n1≠[]/\∀ c ∈ nmN D n1,c ∈ gdL:=by
 delta nmN nameN
 by_cases q:n1 % 3=0/\kn D≠[]
 ·rw [if_pos q];have hl:0 < (kn D).length:=List.length_pos_iff.mpr q.2;have hlt:n1 / 6 % (kn D).length < (kn D).length:=Nat.mod_lt _ hl;have hg:(kn D)[n1 / 6 % (kn D).length]?=some ((kn D).getD (n1 / 6 % (kn D).length) []):=by rw [List.getD_eq_getElem?_getD,List.getElem?_eq_getElem hlt];rfl
  obtain ⟨z,hz,e⟩:=List.mem_map.mp (List.mem_of_getElem? hg);have hm:=h z hz;rw [e] at hm
  by_cases h2:n1 / 3 % 2=0
  ·rw [if_pos h2];refine ⟨fun q=>hm.1 (List.map_eq_nil_iff.mp q),fun c hc=>?_⟩;obtain ⟨b,hb,rfl⟩:=List.mem_map.mp hc;exact gd_up b (hm.2 b hb)
  ·rw [if_neg h2];exact hm
 ·rw [if_neg q];refine ⟨fun q=>?_,fun c hc=>gd_nm c (Ual nameP (by decide) _ _ c hc)⟩;have:=Uah nameP (n1 / 6) (1+n1 / 3 % 2);rw [q] at this;exact absurd this (by rw [List.length_nil];omega)
theorem low_ok(h:L≠[]/\∀ c ∈ L,c ∈ gdL):lowN L≠[]/\∀ c ∈ lowN L,c ∈ gdL:=by
 refine ⟨fun q=>h.1 (List.map_eq_nil_iff.mp (List.map_eq_nil_iff.mp q)),fun c hc=>?_⟩;obtain ⟨b,hb,rfl⟩:=List.mem_map.mp hc;obtain ⟨z,hz,rfl⟩:=List.mem_map.mp hb;exact gd_low z (h.2 z hz)
theorem Ulj(n:Nat):bareL n≠[]/\(∀ c ∈ bareL n,c ∈ okL/\c ∉ bls/\c≠62/\c≠38/\c≠13)/\∀ c r,bareL n=c::r->c≠34/\c≠39:=by
 have h1:∀ c ∈ 99::bareP,c ∈ okL/\c ∉ bls/\c≠62/\c≠38/\c≠13:=by decide
 have hl:(bareD n).length=1+n % 3:=Uah _ _ _;have h2:∀ c ∈ bareD n,c ∈ 99::bareP:=fun c hc=>List.mem_cons_of_mem _ (Ual bareP (by decide) _ _ c hc);delta bareL
 by_cases h:(bareD n).getD 0 0 ∈ [34,39]
 ·rw [if_pos h];refine ⟨List.cons_ne_nil _ _,fun c hc=>?_,fun c r q=>by cases q;decide⟩;rcases List.mem_cons.mp hc with rfl | hc
  ·exact h1 99 (by decide)
  ·exact h1 c (h2 c hc)
 ·rw [if_neg h];refine ⟨fun q=>by rw [q] at hl;exact absurd hl (by rw [List.length_nil];omega),fun c hc=>h1 c (h2 c hc),fun c r q=>?_⟩;rw [q] at h;exact ⟨fun e=>h (by subst e;exact (show (34:Nat) ∈ [34,39] by decide)),fun e=>h (by subst e;exact (show (39:Nat) ∈ [34,39] by decide))⟩
theorem Uo8(n:Nat){q:Nat}(hq:q=34\/q=39):∀ c ∈ quoL q n,nrm c≠q/\nrm c≠38:=fun c hc=>by
 rcases hq with rfl | rfl
 ·exact (show ∀ c ∈ quoP 34,nrm c≠34/\nrm c≠38 by decide) c (Ual (quoP 34) (by decide) _ _ c hc)
 ·exact (show ∀ c ∈ quoP 39,nrm c≠39/\nrm c≠38 by decide) c (Ual (quoP 39) (by decide) _ _ c hc)
theorem Ur1(hr:Rl B la w s)(hy:w.y≠.missing)(hg:NmG w.A)(n0 n1 n2 n3:Nat) :
  ∃ T,(w.att n0 n1 n2 n3).S=w.S++T/\Rl B la (w.att n0 n1 n2 n3) (Fo s T)/\NmG (w.att n0 n1 n2 n3).A:=by
 obtain ⟨A,hA,hE,_⟩:=hr;have hok:=nmN_ok hg n1;have hlo:=low_ok hok;obtain ⟨st,hst,hgap⟩:=(hE hy).gap n0;have hname:=Uoa (B:=B) (la:=la) (s:=Fo s (gpL n0 w.y.str)) (n:=(w.S++gpL n0 w.y.str).length) (E:=gpE w.S w.E n0 w.y.str) (A:=A) hst (nmN w.A n1) hok.1 (fun c hc=>gd_ok c (hok.2 c hc)) fun c r q=>by
  have hc:=gd_ok c (hok.2 c (by rw [q];exact List.mem_cons_self));exact hgap c hc.1 hc.2.1
 refine ⟨gpL n0 w.y.str++nmN w.A n1++(wayN n2).mid n2++(wayN n2).vS n3,?_,?_,?_⟩
 ·show w.S++gpL n0 w.y.str++nmN w.A n1++_++_=_;simp only [List.append_assoc]
 ·rw [Fo.app,Fo.app,Fo.app,hname];have hS:(w.S++gpL n0 w.y.str).length+(nmN w.A n1).length=(w.S++gpL n0 w.y.str++nmN w.A n1).length:=by rw [List.length_append (bs:=nmN w.A n1)]
  rw [hS]
  generalize hx:(⟨ofC (lowN (nmN w.A n1)),"",true⟩:PA)=x
  have hck:ckE ((w.S++gpL n0 w.y.str++nmN w.A n1).length:Nat) (gpE w.S w.E n0 w.y.str++tk nOdd nWhy ((w.S++gpL n0 w.y.str).length:Nat) (nmN w.A n1)) A x=nmE w.A (w.S++gpL n0 w.y.str) (gpE w.S w.E n0 w.y.str) n1:=by
   delta ckE nmE;rw [hA.told (nm:=lowN (nmN w.A n1)) (by rw [<- hx])]
   by_cases hm:lowN (nmN w.A n1) ∈ kn w.A
   ·rw [decide_eq_true hm,if_pos rfl,if_pos hm]
   ·rw [decide_eq_false hm,if_neg Bool.false_ne_true,if_neg hm]
  have hKA:∀ vv,KA (A++[{ ckA A x with v:=ofC vv }]) (attA w.A (lowN (nmN w.A n1)) vv):=fun vv=>hA.snoc hx.symm;have hck0:({ ckA A x with v:=ofC [] }:PA)=ckA A x:=by
   rw [<- hx];delta ckA;split <;> rfl
  have hv0:(ckA A x).v="":=by rw [<- hx];delta ckA;split <;> rfl
  have hsplit:∀ y:Way,(∀ T U,(w.att n0 n1 n2 n3)=⟨w.S++gpL n0 w.y.str++nmN w.A n1++y.mid n2++y.vS n3,nmE w.A (w.S++gpL n0 w.y.str) (gpE w.S w.E n0 w.y.str) n1++y.vE (w.S++gpL n0 w.y.str++nmN w.A n1++y.mid n2).length n3,attA w.A (lowN (nmN w.A n1)) (y.vV n3),y⟩->T=y.mid n2->U=y.vS n3->Rl B la (w.att n0 n1 n2 n3) (Fo (Fo (ms B la ((w.S++gpL n0 w.y.str++nmN w.A n1).length:Nat) "attribute name" (gpE w.S w.E n0 w.y.str++tk nOdd nWhy ((w.S++gpL n0 w.y.str).length:Nat) (nmN w.A n1)) (A++[x])) T) U))->wayN n2=y->Rl B la (w.att n0 n1 n2 n3) (Fo (Fo (ms B la ((w.S++gpL n0 w.y.str++nmN w.A n1).length:Nat) "attribute name" (gpE w.S w.E n0 w.y.str++tk nOdd nWhy ((w.S++gpL n0 w.y.str).length:Nat) (nmN w.A n1)) (A++[x])) ((wayN n2).mid n2)) ((wayN n2).vS n3)):=fun y g e=>by
   subst e;exact g _ _ rfl rfl rfl
  generalize hN:(w.S++gpL n0 w.y.str++nmN w.A n1).length=N at *
  generalize gpE w.S w.E n0 w.y.str++tk nOdd nWhy ((w.S++gpL n0 w.y.str).length:Nat) (nmN w.A n1)=E0 at *
  have hlen:∀ U:List Nat,(w.S++gpL n0 w.y.str++nmN w.A n1++U).length=N+U.length:=fun U=>by rw [List.length_append (bs:=U),hN]
  have hne:=way_ne n2
  generalize hw:wayN n2=y at hne
  cases y with
  | name=>exact absurd rfl hne
  | none =>
   rw [<- hw];refine hsplit .none (fun T U e eT eU=>?_) hw;subst eT eU;rw [e];have eS:w.S++gpL n0 w.y.str++nmN w.A n1++Way.none.mid n2++Way.none.vS n3=w.S++gpL n0 w.y.str++nmN w.A n1:=by
    show _++[]++[]=_;rw [List.append_nil,List.append_nil]
   refine ⟨A++[ckA A x],by have:=hKA [];rw [hck0] at this;exact this,fun w0=>?_,fun q=>Way.noConfusion q⟩;rw [eS,hN,show nmE w.A (w.S++gpL n0 w.y.str) (gpE w.S w.E n0 w.y.str) n1++Way.none.vE (w.S++gpL n0 w.y.str++nmN w.A n1++Way.none.mid n2).length n3=_ from List.append_nil _,<- hck];refine ⟨⟨"after attribute name",.inr rfl,fun c hc=>?_,fun w0=>?_,?_⟩,fun q=>absurd q (show ¬ sng Way.none.str=true by decide)⟩
   ·exact Ug1 (st_bl _ hc)
   ·exact Ug1 (by decide)
   ·exact Ug1 (by decide)
  | missing =>
   rw [<- hw];refine hsplit .missing (fun T U e eT eU=>?_) hw;subst eT eU;rw [e];refine ⟨A++[ckA A x],by have:=hKA [];rw [hck0] at this;exact this,fun q=>absurd rfl q,fun w0=>?_⟩;show Fo (Fo _ (midN n2)) []=_;rw [Ugn,hck];show _=ms B la ((w.S++gpL n0 w.y.str++nmN w.A n1++midN n2++[]).length:Nat) _ (_++[]) _;rw [List.append_nil,List.append_nil,hlen]
   rfl
  | bare =>
   rw [<- hw];refine hsplit .bare (fun T U e eT eU=>?_) hw;subst eT eU;rw [e];have hb:=Ulj n3;refine ⟨A++[{ ckA A x with v:=ofC ((bareL n3).map vC) }],hKA _,fun w0=>?_,fun q=>Way.noConfusion q⟩;show Ent B la (Fo (Fo _ (midN n2)) (bareL n3)) (w.S++gpL n0 w.y.str++nmN w.A n1++midN n2++bareL n3).length (_++tk vOdd vWhy ((w.S++gpL n0 w.y.str++nmN w.A n1++midN n2).length:Nat) (bareL n3)) _ _;rw [Ugn,hck,Unp hv0 hb.1 hb.2.1 hb.2.2,List.length_append (bs:=bareL n3),hlen];refine ⟨⟨"before attribute name",.inl rfl,fun c hc=>Uml (.inl hc),fun q=>absurd rfl q,Uml (.inr rfl)⟩,fun q=>absurd q (show ¬ sng Way.bare.str=true by decide)⟩
  | single =>
   rw [<- hw];refine hsplit .single (fun T U e eT eU=>?_) hw;subst eT eU;rw [e];refine ⟨A++[{ ckA A x with v:=ofC ((quoL 39 n3).map vC) }],hKA _,fun w0=>?_,fun q=>Way.noConfusion q⟩;show Ent B la (Fo (Fo _ (midN n2)) ([39]++quoL 39 n3++[39])) (w.S++gpL n0 w.y.str++nmN w.A n1++midN n2++([39]++quoL 39 n3++[39])).length (_++tk [] "" (((w.S++gpL n0 w.y.str++nmN w.A n1++midN n2).length+1:Nat):Int) (quoL 39 n3)) _ _;rw [Ugn,hck,Ukk hv0 (.inr rfl) (Uo8 n3 (.inr rfl)),List.length_append (bs:=[39]++quoL 39 n3++[39]),hlen];exact ⟨⟨"before attribute name",.inl rfl,fun c hc=>Ubm (.inl hc),fun w0=>Ubm (.inr (.inl rfl)),Ubm (.inr (.inr rfl))⟩,fun w0 c hc h1 h2 h3=>Ul0 hc h1 h2 h3⟩
  | double =>
   rw [<- hw];refine hsplit .double (fun T U e eT eU=>?_) hw;subst eT eU;rw [e];refine ⟨A++[{ ckA A x with v:=ofC ((quoL 34 n3).map vC) }],hKA _,fun w0=>?_,fun q=>Way.noConfusion q⟩;show Ent B la (Fo (Fo _ (midN n2)) ([34]++quoL 34 n3++[34])) (w.S++gpL n0 w.y.str++nmN w.A n1++midN n2++([34]++quoL 34 n3++[34])).length (_++tk [] "" (((w.S++gpL n0 w.y.str++nmN w.A n1++midN n2).length+1:Nat):Int) (quoL 34 n3)) _ _;rw [Ugn,hck,Ukk hv0 (.inl rfl) (Uo8 n3 (.inl rfl)),List.length_append (bs:=[34]++quoL 34 n3++[34]),hlen];exact ⟨⟨"before attribute name",.inl rfl,fun c hc=>Ubm (.inl hc),fun w0=>Ubm (.inr (.inl rfl)),Ubm (.inr (.inr rfl))⟩,fun w0 c hc h1 h2 h3=>Ul0 hc h1 h2 h3⟩
 ·show NmG (attA _ _ _);delta attA
  by_cases hm:lowN (nmN w.A n1) ∈ kn w.A
  ·rw [if_pos hm];exact hg
  ·rw [if_neg hm];intro z hz;rcases List.mem_append.mp hz with h | h
   ·exact hg z h
   ·rw [List.mem_singleton] at h;subst h;exact hlo
end
section
variable {B:PD}{la st why nmS kd:Str}{n m c k n0 n1 n2 n3 ne tg:Nat}{z:Int}{E:List V}{A:List PA}{x:PA}{s t:PS}{L G odd b nm vv:List Nat}{q:St}{y:Way}{w:W1}{D:At1}{ah:Str}{f:Nat->Nat}
noncomputable abbrev Bt(kd nm:Str):PD:=⟨kd,nm,false,[]⟩
theorem Upk(h:c ∉ bls)(h1:c≠47)(h2:c≠62):act .tagName (ch c)=⟨vErr [] "" c,.put,none,false⟩:=by
 show actTagName (ch c)=_;delta actTagName;rw [Ubt,if_neg (dn h),show Str.ofString "/"=ch 47 from rfl,eqc 47 h1,if_neg Bool.false_ne_true,show Str.ofString ">"=ch 62 from rfl,eqc 62 h2,if_neg Bool.false_ne_true,show Str.ofString "\x00"=ch 0 from rfl,Uau,ch_ne];delta vErr
 by_cases h0:c=0
 ·subst h0;rfl
 ·rw [if_neg (by simpa using h0),if_neg h0,if_neg Bool.false_ne_true,if_neg (by simp)]
theorem Us0{c:Str}:(ms (Bt kd nmS) la z "tag name" E []).deed .put c=ms (Bt kd (nmS++(if c==Qab then Qaz else lowerS c))) la z "tag name" E []:=by kernel_rfl
theorem s_tag(h:c ∉ bls)(h1:c≠47)(h2:c≠62):adv 4 (ms (Bt kd nmS) la z "tag name" E []) (ch c)=ms (Bt kd (nmS++ch (lowC c))) la (z+1) "tag name" (E++tk1 [] "" z c) []:=by
 rw [st_to (q:=.tagName) rfl (by rw [Upk h h1 h2]),Upk h h1 h2,g_put rfl,Us0,low_ch,Ulp]
theorem f_tag:∀ (l:List Nat) (z:Int) (E:List V) (nmS:Str),(∀ c ∈ l,c ∉ bls/\c≠47/\c≠62)->(l.map ch).foldl (adv 4) (ms (Bt kd nmS) la z "tag name" E [])=ms (Bt kd (nmS++ofC (l.map lowC))) la (z+l.length) "tag name" (E++tk [] "" z l) []
 | [],z,E,nmS,h=>by
  show ms (Bt kd nmS) la z _ E []=_;rw [List.map_nil,Um1];delta tk;rw [List.append_nil,List.length_nil,show z+((0:Nat):Int)=z by omega]
 | c::l,z,E,nmS,h=>by
  have hc:=h c List.mem_cons_self;rw [List.map_cons,List.foldl_cons,s_tag hc.1 hc.2.1 hc.2.2,f_tag l (z+1) _ _ fun c m=>h c (List.mem_cons_of_mem _ m)];rw [show tk [] "" z (c::l)=tk1 [] "" z c++tk [] "" (z+1) l from rfl,<- List.append_assoc,List.map_cons];rw [Ulu,List.length_cons,show z+1+(l.length:Int)=z+((l.length+1:Nat):Int) by omega]
theorem tag_bl(h:c ∈ bls\/c=47\/c=62):adv 4 (ms (Bt kd nmS) la z "tag name" E []) (ch c)=adv 4 (ms (Bt kd nmS) la z "before attribute name" E []) (ch c):=by
 rcases h with h | rfl | rfl
 ·have e:act .tagName (ch c)=⟨none,.none,some "before attribute name",false⟩:=if_pos (by rw [Ubt];exact dy h);rw [st_to (q:=.tagName) rfl (by rw [e]),e,t_bef h];rfl
 ·have e:act .tagName (ch 47)=⟨none,.none,some "self-closing start tag",false⟩:=by kernel_rfl
  rw [st_to (q:=.tagName) rfl (by rw [e]),e,Ukx];rfl
 ·have e:act .tagName (ch 62)=⟨none,.give,some "data",false⟩:=by kernel_rfl
  rw [st_to (q:=.tagName) rfl (by rw [e]),e,bef_gt];have e2:(ms (Bt kd nmS) la z "tag name" E []).goC ⟨none,.give,some "data",false⟩ (ch 62)={ outS (Bt kd nmS) la z E [] false with errs:=fE kd (z+1 - 1) E [] false }:=rfl;rw [e2,Int.add_sub_cancel];rfl
theorem Ui7:∀ c ∈ firP,act .tagOpen (ch c)=⟨none,.start,some "tag name",true⟩:=by
 intro c h;simp only [firP,List.mem_cons,List.not_mem_nil,or_false] at h;rcases h with rfl | rfl | rfl | rfl | rfl | rfl <;> kernel_rfl
theorem Uo7:∀ c ∈ firP,act .endOpen (ch c)=⟨none,.end_,some "tag name",true⟩:=by
 intro c h;simp only [firP,List.mem_cons,List.not_mem_nil,or_false] at h;rcases h with rfl | rfl | rfl | rfl | rfl | rfl <;> kernel_rfl
theorem fir_ok:∀ c ∈ firP,c ∈ okL:=by decide
theorem Umu(tg:Nat):firP.getD (tg % 6) 0 ∈ firP:=by
 have hlt:tg % 6 < firP.length:=Nat.mod_lt _ (by decide);rw [List.getD_eq_getElem?_getD,List.getElem?_eq_getElem hlt];exact List.getElem_mem _
theorem Ujd(tg:Nat):∀ c ∈ tagD tg,(c ∉ bls/\c≠47/\c≠62)/\c≠13:=fun c hc=>by
 have h:∀ c ∈ firP++tagP,(c ∉ bls/\c≠47/\c≠62)/\c≠13:=by decide
 refine h c ?_;rcases List.mem_cons.mp hc with rfl | hc
 ·exact List.mem_append_left _ (Umu tg)
 ·exact List.mem_append_right _ (Ual tagP (by decide) _ _ c hc)
theorem Usj(L:List Nat)(h:∀ c ∈ L,c≠13):L.map lowC=lowN L:=by
 delta lowN;rw [List.map_map];refine List.map_congr_left fun x hx=>?_;show lowC x=loC (vC x);have h13:=h x hx;delta lowC loC vC repC;rw [if_neg h13]
 by_cases h0:x=0
 ·subst h0;rfl
 ·rw [if_neg h0,if_neg h0]
theorem Unk(tg:Nat)(hk:kd="start"\/kd="end"):Fo (PS.new "tag open" la) (kdS kd++tagD tg)=ms (Bt kd (ofC (lowN (tagD tg)))) la ((w0N kd tg).S.length:Nat) "tag name" (w0N kd tg).E []:=by
 have hT:∀ z:Int,Fo (ms (Bt kd "") la z "tag name" [] []) (tagD tg)=ms (Bt kd (ofC (lowN (tagD tg)))) la (z+(tagD tg).length) "tag name" (tk [] "" z (tagD tg)) []:=fun z=>by
  delta Fo;rw [mv_map _ fun c hc=>(Ujd tg c hc).2,f_tag _ _ _ _ fun c hc=>(Ujd tg c hc).1,Umb,Usj _ fun c hc=>(Ujd tg c hc).2,List.nil_append]
 have hh:=Umu tg;have h13:firP.getD (tg % 6) 0≠13:=(Ujd tg _ List.mem_cons_self).2;rcases hk with rfl | rfl
 ·show Fo (PS.new "tag open" la) (tagD tg)=ms _ la ((tagD tg).length:Nat) "tag name" (tk [] "" (0:Nat) (tagD tg)) [];have:=hT 0;rw [Int.zero_add] at this;refine Eq.trans ?_ this;refine Fo.hd ?_ _;rw [mv_of h13,st_on (q:=.tagOpen) (okS (fir_ok _ hh)) rfl (by rw [Ui7 _ hh]),Ui7 _ hh]
  rfl
 ·show Fo (PS.new "tag open" la) ([47]++tagD tg)=ms _ la (([47]++tagD tg).length:Nat) "tag name" (tk [] "" (1:Nat) (tagD tg)) [];rw [Fo.app,Fo.one,show mv 47=ch 47 from rfl];have e:act .tagOpen (ch 47)=⟨none,.none,some "end tag open",false⟩:=by kernel_rfl
  rw [st_to (q:=.tagOpen) rfl (by rw [e]),e];have:=hT 1;rw [show (([47]:List Nat)++tagD tg).length=1+(tagD tg).length from List.length_append,Int.natCast_add];refine Eq.trans ?_ this;refine Fo.hd ?_ _;rw [mv_of h13,st_on (q:=.endOpen) (okS (fir_ok _ hh)) rfl (by rw [Uo7 _ hh]),Uo7 _ hh]
  rfl
theorem rl_0(tg:Nat)(hk:kd="start"\/kd="end"):Rl (Bt kd (ofC (lowN (tagD tg)))) la (w0N kd tg) (Fo (PS.new "tag open" la) (w0N kd tg).S):=by
 rw [show (w0N kd tg).S=kdS kd++tagD tg from rfl,Unk tg hk];refine ⟨[],⟨rfl,⟨fun w0=>rfl,fun w0=>rfl⟩⟩,fun w0=>⟨⟨"before attribute name",.inl rfl,fun c hc=>tag_bl (.inl hc),fun w0=>tag_bl (.inr (.inl rfl)),tag_bl (.inr (.inr rfl))⟩,fun q=>absurd q (show ¬ sng Way.name.str=true by decide)⟩,fun q=>Way.noConfusion q⟩
theorem rl_run(h:Rl B la w (Fo s w.S))(hg:NmG w.A):∀ k,Rl B la (w.run f k) (Fo s (w.run f k).S)/\NmG (w.run f k).A
 | 0=>⟨h,hg⟩
 | k+1=>by
  have ih:=rl_run h hg k;show Rl B la ((w.run f k).step f k) (Fo s ((w.run f k).step f k).S)/\NmG ((w.run f k).step f k).A;delta W1.step
  by_cases hm:((w.run f k).y.str==Qac)=true
  ·rw [if_pos hm];exact ih
  ·rw [if_neg hm];obtain ⟨T,h1,h2,h3⟩:=Ur1 ih.1 (fun q=>hm (by rw [q];kernel_rfl)) ih.2 (f (2+4*k+0)) (f (2+4*k+1)) (f (2+4*k+2)) (f (2+4*k+3));rw [h1,Fo.app];exact ⟨h2,h3⟩
theorem fE_eq(hA:A=[] ↔ D=[])(n:Nat)(cl:Bool):fE kd n E A cl=e6 kd cl n (e5 kd D n E):=by
 have h:(decide (0 < A.length)=true) ↔ D≠[]:=by rw [decide_eq_true_iff,List.length_pos_iff];exact not_congr hA
 have h5:(if (kd==Qh&&decide (0 < A.length))=true then E++[errV "end-tag-with-attributes" n] else E)=e5 kd D n E:=by
  delta e5
  by_cases q:(kd==Qh)=true/\D≠[]
  ·rw [if_pos q,if_pos (by rw [q.1,h.mpr q.2];rfl)]
  ·rw [if_neg q,if_neg fun z=>q ⟨(Bool.and_eq_true_iff.mp z).1,h.mp (Bool.and_eq_true_iff.mp z).2⟩]
 show (if (kd==Qh&&cl)=true then (if (kd==Qh&&decide (0 < A.length))=true then E++[errV "end-tag-with-attributes" n] else E)++[errV "end-tag-with-trailing-solidus" n] else _)=_;rw [h5]
 rfl
theorem Un1(h:Rl B la w s)(hc:B.closing=false)(ne:Nat):∃ (A:List PA) (E:List V),Fo s (gapT w.y ne++[62])=outS B la ((w.S++gapT w.y ne).length:Nat) E A (clG (gapT w.y ne))/\kept A=w.A.map aV/\fE B.kind ((w.S++gapT w.y ne).length:Nat) E A (clG (gapT w.y ne))=endE B.kind w.S w.E w.A w.y ne:=by
 obtain ⟨A,hA,hE,hM⟩:=h;rw [Fo.app,Fo.one,show mv 62=ch 62 from rfl]
 by_cases hy:w.y=.missing
 ·have hg:gapT w.y ne=[]:=by rw [hy];rfl
  refine ⟨A,w.E++[errV "missing-attribute-value" (w.S.length:Nat)],?_,hA.kept,?_⟩
  ·rw [hg,hM hy,List.append_nil];show adv 4 (ms B la (w.S.length:Nat) "before attribute value" w.E A) (ch 62)=_;rw [vgt,aft_gt,hc];rfl
  ·rw [fE_eq hA.2];delta endE eT;rw [hg,hy,List.append_nil,show e3 w.S w.E []=w.E from List.append_nil _,show miE Way.missing.str w.S.length w.E=_ from if_pos (by kernel_rfl)]
 ·have hent:=hE hy;have hmi:∀ n E,miE w.y.str n E=E:=fun n E=>by
   have:∀ y:Way,y≠.missing->(y.str==Qac)=false:=fun y=>by
    cases y with
    | missing=>exact fun q=>absurd rfl q
    | _=>intro _;kernel_rfl
   delta miE;rw [this w.y hy,if_neg Bool.false_ne_true]
  have hgo:GapOk (gapT w.y ne):=by
   delta gapT;split
   ·intro c hc;cases hc
   ·exact gap_ok _ _ _
  refine ⟨A,e3 w.S w.E (gapT w.y ne),?_,hA.kept,?_⟩
  ·by_cases hg:gapT w.y ne=[]
   ·obtain ⟨st,hst,h1,h2,h3⟩:=hent.bl;rw [hg];show adv 4 s (ch 62)=_;rw [show adv 4 s (ch 62)=_ from h3,show mv 62=ch 62 from rfl,gt_Bf hst,hc,List.append_nil];rw [show e3 w.S w.E []=w.E from List.append_nil _]
    rfl
   ·obtain ⟨st,hst,he⟩:=hent.ne hgo hg fun q c r hc=>by
     rw [q] at hc;delta gapT at hc;rw [if_neg (by decide)] at hc;exact Uks _ _ hc
    rw [he,gap_gt hst hgo hc,List.length_append]
    rfl
  ·rw [fE_eq hA.2];delta endE eT;rw [hmi]
end
noncomputable def F1(S:List Nat):List Nat:=(S.map fun c=>(sgn c).cps.toList).flatten
noncomputable def Fin1(S:List Nat):PS:=adv 4 (Fo (PS.new "tag open" "ta") S) (ch 122)
section
variable {p:Params}{O O' O₁ O0:Store}{d i j n m a K:Nat}{E:List V}{S L G:List Nat}{Q:V->Store->Prop}{v:V}{kd:Str}{w:W1}{f:Nat->Nat}{τ:Rf}{s:PS}{ns:List Int}
theorem Upt(a b:Nat)(ah:Str):∀ c ∈ gapN a b ah,c ∈ okL:=fun c hc=>by
 have h:∀ c ∈ gapP,c ∈ okL:=by decide
 revert hc;delta gapN;split
 ·intro hc;rcases List.mem_cons.mp hc with rfl | hc
  ·decide
  ·exact h c (Ual gapP (by decide) _ _ c hc)
 ·exact fun hc=>h c (Ual gapP (by decide) _ _ c hc)
theorem Utf(n0:Nat)(ah:Str):∀ c ∈ gpL n0 ah,c ∈ okL:=fun c hc=>by
 revert hc;delta gpL;split
 ·split
  ·intro hc;cases hc
  ·intro hc;rw [List.mem_singleton] at hc;subst hc;decide
 ·exact Upt _ _ _ c
theorem Usp(y:Way)(n:Nat):∀ c ∈ y.mid n,c ∈ okL:=fun c hc=>by
 have h:∀ c ∈ midN n,c ∈ okL:=fun c hc=>by
  rcases List.mem_append.mp hc with hc | hc
  ·rcases List.mem_append.mp hc with hc | hc
   ·exact bl_ok (Ujm _ c hc).1
   ·rw [List.mem_singleton] at hc;subst hc;decide
  ·exact bl_ok (Ujm _ c hc).1
 cases y with
 | none=>cases hc
 | _=>exact h c hc
theorem Uot(n:Nat){q:Nat}(hq:q=34\/q=39):∀ c ∈ [q]++quoL q n++[q],c ∈ okL:=fun c hc=>by
 have h1:q ∈ okL:=by rcases hq with rfl | rfl <;> decide
 rcases List.mem_append.mp hc with hc | hc
 ·rcases List.mem_append.mp hc with hc | hc
  ·rw [List.mem_singleton] at hc;subst hc;exact h1
  ·rcases hq with rfl | rfl
   ·exact (show ∀ c ∈ quoP 34,c ∈ okL by decide) c (Ual (quoP 34) (by decide) _ _ c hc)
   ·exact (show ∀ c ∈ quoP 39,c ∈ okL by decide) c (Ual (quoP 39) (by decide) _ _ c hc)
 ·rw [List.mem_singleton] at hc;subst hc;exact h1
theorem vS_okL(y:Way)(n:Nat):∀ c ∈ y.vS n,c ∈ okL:=fun c hc=>by
 cases y with
 | bare=>exact ((Ulj n).2.1 c hc).1
 | single=>exact Uot n (.inr rfl) c hc
 | double=>exact Uot n (.inl rfl) c hc
 | _=>cases hc
theorem Uop(h:∀ c ∈ w.S,c ∈ okL)(hg:NmG w.A):∀ k,(∀ c ∈ (w.run f k).S,c ∈ okL)/\NmG (w.run f k).A
 | 0=>⟨h,hg⟩
 | k+1=>by
  have ih:=Uop h hg k;show (∀ c ∈ ((w.run f k).step f k).S,c ∈ okL)/\NmG ((w.run f k).step f k).A;delta W1.step
  by_cases hm:((w.run f k).y.str==Qac)=true
  ·rw [if_pos hm];exact ih
  ·rw [if_neg hm];refine ⟨fun c hc=>?_,?_⟩
   ·rcases List.mem_append.mp hc with hc | hc
    ·rcases List.mem_append.mp hc with hc | hc
     ·rcases List.mem_append.mp hc with hc | hc
      ·rcases List.mem_append.mp hc with hc | hc
       ·exact ih.1 c hc
       ·exact Utf _ _ c hc
      ·exact (gd_ok c ((nmN_ok ih.2 _).2 c hc)).1
     ·exact Usp _ _ c hc
    ·exact vS_okL _ _ c hc
   ·show NmG (attA _ _ _);delta attA;split
    ·exact ih.2
    ·intro z hz;rcases List.mem_append.mp hz with h | h
     ·exact ih.2 z h
     ·rw [List.mem_singleton] at h;subst h;exact low_ok (nmN_ok ih.2 _)
theorem w0_okL(kd:Str)(tg:Nat):∀ c ∈ (w0N kd tg).S,c ∈ okL:=fun c hc=>by
 have h:∀ c ∈ firP++tagP,c ∈ okL:=by decide
 rcases List.mem_append.mp hc with hc | hc
 ·revert hc;delta kdS;split
  ·intro hc;rw [List.mem_singleton] at hc;subst hc;decide
  ·intro hc;cases hc
 ·refine h c ?_;rcases List.mem_cons.mp hc with rfl | hc
  ·exact List.mem_append_left _ (Umu tg)
  ·exact List.mem_append_right _ (Ual tagP (by decide) _ _ c hc)
theorem Upv:NmG []:=fun x hx=>by cases hx
theorem Urr(ns:List Int)(kd:Str)(ne:Nat):∀ c ∈ endS (tagW ns kd).S (tagW ns kd).y ne,c ∈ okL:=fun c hc=>by
 rcases List.mem_append.mp hc with hc | hc
 ·rcases List.mem_append.mp hc with hc | hc
  ·exact (Uop (w0_okL kd _) Upv _).1 c hc
  ·revert hc;delta gapT;split
   ·intro hc;cases hc
   ·exact Upt _ _ _ c
 ·rw [List.mem_singleton] at hc;subst hc;decide
theorem Ur9(ns:List Int)(kd:Str)(ne:Nat):(endS (tagW ns kd).S (tagW ns kd).y ne).length<=110:=by
 have h1:=((w0_ok kd (numN ns 1)).run (f:=numN ns) (4 - numN ns 0 / 2 % 5)).sl;have h2:=Ukh (tagW ns kd).y ne;have h3:(tagW ns kd).S.length<=20+20*(4 - numN ns 0 / 2 % 5):=h1;show ((tagW ns kd).S++gapT (tagW ns kd).y ne++[62]).length<=_;simp only [List.length_append,List.length_cons,List.length_nil]
 omega
theorem Uel(c:Nat):(sgn c).cps.toList=if c=13 then [13,10] else [c]:=by
 delta sgn;split <;> rfl
theorem Uij:∀ S:List Nat,feedL false (F1 S++[122])=S.map mv++[ch 122]
 | []=>rfl
 | c::S=>by
  have e:F1 (c::S)++[122]=(if c=13 then [13,10] else [c])++(F1 S++[122]):=by
   show ((sgn c).cps.toList++F1 S)++[122]=_;rw [Uel,List.append_assoc]
  rw [e,List.map_cons,List.cons_append,<- Uij S]
  by_cases h:c=13
  ·subst h;rfl
  ·rw [if_neg h,mv_of h];show (if (c==13)=true then [Qbt] else if (c != 10||!false)=true then [ch c] else [])++feedL (c==13) (F1 S++[122])=_;rw [show (c==13)=false by simpa using h,if_neg Bool.false_ne_true,if_pos (by simp)]
   rfl
theorem F1_okL(h:∀ c ∈ S,c ∈ okL):∀ c ∈ F1 S++[122],c ∈ okL:=fun c hc=>by
 rcases List.mem_append.mp hc with hc | hc
 ·obtain ⟨l,hl,hcl⟩:=List.mem_flatten.mp hc;obtain ⟨b,hb,rfl⟩:=List.mem_map.mp hl;rw [Uel] at hcl
  by_cases h13:b=13
  ·rw [if_pos h13] at hcl;rcases List.mem_cons.mp hcl with rfl | hcl
   ·decide
   ·rw [List.mem_singleton] at hcl;subst hcl;decide
  ·rw [if_neg h13,List.mem_singleton] at hcl;subst hcl;exact h _ hb
 ·rw [List.mem_singleton] at hc;subst hc;decide
theorem F1_len:∀ S:List Nat,(F1 S).length<=2*S.length
 | []=>Nat.le_refl _
 | c::S=>by
  have ih:=F1_len S;show ((sgn c).cps.toList++F1 S).length<=_;rw [Uel,List.length_append,List.length_cons];split <;> simp only [List.length_cons,List.length_nil] <;> omega
theorem Un2(l:List Nat):strsOf (l.map sv)=some (l.map sgn):=by
 induction l with
 | nil=>rfl
 | cons a r ih=>exact ob_of (f:=fun ds=>some (sgn a::ds)) (z:=Option.none) ih
noncomputable def jn(S:List Nat):Str:=joinS (S.map sgn)
theorem Umt(S:List Nat):(jn S).cps.toList=F1 S:=by
 show ((((S.map sgn).map (·.cps.toList)).flatten.toArray).toList)=_;rw [List.map_map]
 rfl
theorem Upl:∀ S:List Nat,((S.map sgn).map (·.length)).sum<=2*S.length
 | []=>Nat.le_refl _
 | c::S=>by
  have ih:=Upl S;have h:(sgn c).length<=2:=by
   have:(sgn c).length=(sgn c).cps.toList.length:=rfl;rw [this,Uel];split
   ·decide
   ·exact Nat.le_succ 1
  show (sgn c).length+((S.map sgn).map (·.length)).sum<=_;rw [List.length_cons];omega
theorem Urz{c:CC}(h:O.get 11 i=some (.list (S.map sv)))(hl:S.length<=1000):methodV c (.bi .join) (.str Qt) [.ref 11 i] O=some (.str (jn S),O):=by
 show ob (asList O (.ref 11 i)) _ _=_;rw [asl_of h];show ob (strsOf (S.map sv)) _ _=_;rw [Un2];exact if_pos ⟨Nat.le_trans (Upl S) (by delta lim;omega),by rw [List.length_map];exact hl,rfl⟩
theorem Ur6:Mid 0 (PS.new "tag open" "ta"):=by
 have hs:Sz 0 (PS.new "tag open" "ta"):=⟨Nat.le_refl _,Nat.le_refl _,fun D e=>by cases e⟩
 refine ⟨rfl,hs,.inr ⟨rfl,⟨Int.le_refl _,hs,fun q hq=>?_⟩⟩⟩;have:=St.inj (q:=.tagOpen) hq;subst this;rfl
theorem Uox:∀ (l:List Str) (s:PS),Ov s->Ov (l.foldl (adv 4) s)
 | [],s,h=>h
 | c::l,s,h=>Uox l _ (ov_adv (c:=c) 4 s h)
theorem Ujk:∀ (l:List Str) (s:PS),(l.foldl (adv 4) s).serr=s.serr
 | [],s=>rfl
 | c::l,s=>(Ujk l _).trans (Uej 4 s c).2.2.2
theorem ov_fin(S:List Nat):Ov (Fin1 S):=ov_adv (c:=ch 122) 4 _ (Uox _ _ ⟨(fun v m=>by cases m),(fun v m=>by cases m)⟩)
theorem Up5(S:List Nat):(Fin1 S).serr=[]:=(Uej 4 _ _).2.2.2.trans (Ujk _ _)
theorem Uqb(S:List Nat):(S.map mv++[ch 122]).foldl (adv 4) (PS.new "tag open" "ta")=Fin1 S:=by rw [List.foldl_append];rfl
theorem last_x(S:List Nat):lastR false (F1 S++[122])=false:=by
 delta lastR;rw [List.getLast?_concat]
 rfl
theorem Uom(S:List Nat):(jn S++Qbm).cps.toList=F1 S++[122]:=by rw [Uoc,Umt];rfl
theorem Umd(S:List Nat):(PS.new "tag open" "ta").feed (jn S++"z")=(PS.new "tag open" "ta").wi (S.map mv++[ch 122]) false false:=by
 delta PS.feed;rw [Uom];show { PS.new "tag open" "ta" with signs:=[]++feedL false (F1 S++[122]),isret:=lastR false (F1 S++[122]) }=_;rw [Uij,last_x,List.nil_append]
 rfl
theorem TP.len(h:TP O τ s):O.length=24:=by obtain ⟨t,h,_⟩:=h;exact h.len
theorem TP.outs(h:TP O τ s):O.get 9 τ.o=some (.list s.out)/\O.get 10 τ.e=some (.list s.errs)/\(s.serr=[]->O.get 8 τ.se=some (.list [])):=by
 obtain ⟨t,h,hw,rfl⟩:=h;exact ⟨h.out,h.err,fun q=>by have q:t.serr=[]:=q;rw [<- q];exact h.se⟩
theorem fin_eq(ns:List Int)(hk:kd="start"\/kd="end"):∃ A E,Fin1 (endS (tagW ns kd).S (tagW ns kd).y (numN ns 18))=outS (Bt kd (ofC (lowN (tagD (numN ns 1))))) "ta" (((tagW ns kd).S++gapT (tagW ns kd).y (numN ns 18)).length:Nat) E A (clG (gapT (tagW ns kd).y (numN ns 18)))/\kept A=(tagW ns kd).A.map aV /\
  fE kd (((tagW ns kd).S++gapT (tagW ns kd).y (numN ns 18)).length:Nat) E A (clG (gapT (tagW ns kd).y (numN ns 18)))=endE kd (tagW ns kd).S (tagW ns kd).E (tagW ns kd).A (tagW ns kd).y (numN ns 18):=by
 have h0:=rl_0 (la:="ta") (numN ns 1) hk;have h1:=(rl_run (f:=numN ns) h0 Upv (4 - numN ns 0 / 2 % 5)).1;obtain ⟨A,E,h2,h3,h4⟩:=Un1 h1 rfl (numN ns 18);refine ⟨A,E,?_,h3,h4⟩;delta Fin1;rw [show endS (tagW ns kd).S (tagW ns kd).y (numN ns 18)=(tagW ns kd).S++(gapT (tagW ns kd).y (numN ns 18)++[62]) from List.append_assoc _ _ _,Fo.app];rw [show Fo (Fo (PS.new "tag open" "ta") (tagW ns kd).S) (gapT (tagW ns kd).y (numN ns 18)++[62])=_ from h2];exact Ufk 4 (by kernel_rfl)
end
section
variable {p:Params}{O O' O₁ O0:Store}{d i j n m a K o e:Nat}{E:List V}{S L G:List Nat}{L':List Str}{Q:V->Store->Prop}{v tok:V}{kd la nmS:Str}{w:W1}{f:Nat->Nat}{τ:Rf}{s:PS}{ns:List Int}
theorem Uqh(h:Ov s)(ho:O.get 9 o=some (.list s.out))(he:O.get 10 e=some (.list s.errs))(hl:O.get 12 j=some (.list s.errs)) :
  cmpV .Eq (.tup [.ref 9 o,.ref 10 e,.str s.state,.int s.pos,.str s.last]) (.tup [.lst s.out,.ref 12 j,.str s.state,.int s.pos,.str s.last]) O=some true:=by
 refine xEA (Ukl h.1 O) fun d1 e1=>?_;refine xEA (Ukl h.2 O) fun d2 e2=>?_;have h1:toD O 8 (.tup [.ref 9 o,.ref 10 e,.str s.state,.int s.pos,.str s.last])=some (.tuple [.list d1,.list d2,.str s.state,.int s.pos,.str s.last]):=Ulg (Ubh (Ugc ho e1) (Ubh (Ugc he e2) rfl));have h2:toD O 8 (.tup [.lst s.out,.ref 12 j,.str s.state,.int s.pos,.str s.last])=some (.tuple [.list d1,.list d2,.str s.state,.int s.pos,.str s.last]):=Ulg (Ubh (Ui9 e1) (Ubh (Ugc hl e2) rfl));exact (show eqV O (.tup [.ref 9 o,.ref 10 e,.str s.state,.int s.pos,.str s.last]) (.tup [.lst s.out,.ref 12 j,.str s.state,.int s.pos,.str s.last])=some (PyData.eqv _ _) from eqG_of h1 h2).trans (congrArg some (Uh5 O 8 _ _ h1))
theorem Ur2{S':List Nat}(ns:List Int)(hk:kd="start"\/kd="end")(hS:S'=endS (tagW ns kd).S (tagW ns kd).y (numN ns 18))(h:TP O τ ((Fin1 S').wi L' false false))
  (hse:SE O i j S' (endE kd (tagW ns kd).S (tagW ns kd).E (tagW ns kd).A (tagW ns kd).y (numN ns 18))) {sc st:V} :
  RF (J_law_0 p (callK (P p) (d+7)) [(Qo,sc),(Qa,.ref 11 i),(Qb,.ref 12 j),(Qbc,tokT kd (.str (ofC (lowN (tagD (numN ns 1))))) (tagW ns kd).A (clG (gapT (tagW ns kd).y (numN ns 18)))),(Qax,st),(Qm,.ref 2 τ.i)]) O fun v O'=>v=.bool true:=by
 obtain ⟨A,E,hf,hA,hE⟩:=fin_eq ns hk;rw [<- hS] at hf;rw [Uj5];delta J_law_0_T0;have hov:=ov_fin S';refine xAAA h.outs fun o1 o2 o3=>?_;have o1:O.get 9 τ.o=some (.list (Fin1 S').out):=o1;have o2:O.get 10 τ.e=some (.list (Fin1 S').errs):=o2;have hpos:(Fin1 S').pos=(S'.length:Nat):=by
  rw [hf,hS];show ((((tagW ns kd).S++gapT (tagW ns kd).y (numN ns 18)).length:Nat):Int)+1=((((tagW ns kd).S++gapT (tagW ns kd).y (numN ns 18))++[62]).length:Nat);rw [List.length_append (bs:=[62])];rfl
 have herr:(Fin1 S').errs=endE kd (tagW ns kd).S (tagW ns kd).E (tagW ns kd).A (tagW ns kd).y (numN ns 18):=by rw [hf,<- hE];rfl
 have hst:(Fin1 S').state="data":=by rw [hf];rfl
 have hl:(Fin1 S').last=if (kd==Qbo)=true then ofC (lowN (tagD (numN ns 1))) else "ta":=by rw [hf];rfl
 have hout:(Fin1 S').out=[tokT kd (.str (ofC (lowN (tagD (numN ns 1))))) (tagW ns kd).A (clG (gapT (tagW ns kd).y (numN ns 18)))]:=by
  rw [hf];delta tokT;rw [<- hA];rcases hk with rfl | rfl
  ·exact congrArg (fun z=>[z]) (if_neg (show ¬ (Qbo==Qca)=true by decide))
  ·exact congrArg (fun z=>[z]) (if_neg (show ¬ (Qh==Qca)=true by decide))
 have he:=Uqh (s:=Fin1 S') hov o1 o2 (by rw [herr];exact hse.er);rw [hout,hst,hpos,hl] at he;refine xEAAA h fun t ht hw het=>?_;refine RF.b (ga_out ht) (RF.b (Ujr ht) (RF.b (Ue8 ht) (RF.b (ga_at ht) (RF.b (Utl ht) (RF.b1 (RF.b hse.slen ?_))))));have e1:t.state="data":=(congrArg PS.state het).trans hst;have e2:t.pos=(S'.length:Nat):=(congrArg PS.pos het).trans hpos;have e3:t.last=_:=(congrArg PS.last het).trans hl;rw [e1,e2];refine RF.l (a:=V.str kd) rfl (RF.l (a:=kd==Qbo) rfl ?_)
 by_cases hks:(kd==Qbo)=true
 ·rw [if_pos hks] at he;rw [e3.trans (if_pos hks)];refine RF.pos hks ?_;refine RF.l (a:=V.str (ofC (lowN (tagD (numN ns 1))))) rfl ?_;exact RF.l he (RF.r rfl)
 ·rw [if_neg hks] at he;rw [e3.trans (if_neg hks)];refine RF.neg hks ?_;exact RF.l he (RF.r rfl)
theorem kd_or(h:Nat):kdN h="start"\/kdN h="end":=by
 delta kdN;split
 ·exact .inr rfl
 ·exact .inl rfl
theorem Uqt(ns:List Int)(hlen:O.length=24):Run (callK (P p) (d+8) a_law [.lst (ns.map .int)]) O fun v O'=>v=.bool true:=by
 rw [B_law];show RF _ O _;delta F_law;refine xEA (reg_of hlen (by decide:11 < 24)) fun l11 hl11=>RF.b (Uf8 hl11) ?_;have hlen1:(O.add 11 (.list [])).length=24:=Uba.trans hlen;refine xEA (reg_of hlen1 (by decide:12 < 24)) fun l12 hl12=>RF.b (Uf8 hl12) ?_;have hs0:SE ((O.add 11 (.list [])).add 12 (.list [])) l11.length l12.length [] []:=⟨Uba.trans hlen1,Ub5 hl12 (Ua0 hl11),Ua0 hl12⟩
 have hk:=kd_or (numN ns 0);refine RF.c (Usy (d:=d+3) hs0 ns) fun v O1 qq=>?_
 generalize kdN (numN ns 0)=kd at hk qq
 refine xAAA qq fun ev hse w0=>?_;subst ev
 generalize hS:endS (tagW ns kd).S (tagW ns kd).y (numN ns 18)=S' at hse
 have hokS:∀ c ∈ S',c ∈ okL:=fun c hc=>Urr ns kd (numN ns 18) c (hS▸hc);have hlS:S'.length<=110:=hS▸Ur9 ns kd (numN ns 18);have hlen2:=hse.len;refine xEA (reg_of hlen2 (by decide:3 < 24)) fun l3 hl3=>?_;refine RF.b (Uhg hl3) ?_;have ht2:=Ua0 (o:=.dict tagEs) hl3;have hl4:(O1.add 3 (.dict tagEs))[3]?=some (l3++[.dict tagEs]):=by
  delta Store.add;rw [List.getElem?_modify,hl3];rfl
 refine RF.upd ht2 (RF.b (Ugi hl4) ?_);have ht3:=Ub5 (o:=.dict attrEs) hl4 ht2;have ha3:=Ua0 (o:=.dict attrEs) hl4;refine RF.b (upd_of (es':=stEs) ht3 ha3 (by decide) (.inr (by simp)) (by kernel_rfl)) ?_;have hst:(((O1.add 3 (.dict tagEs)).add 3 (.dict attrEs)).put 3 l3.length (.dict stEs)).get 3 l3.length=some (.dict stEs):=Uaj ht3;have keep:Un [3] O1 (((O1.add 3 (.dict tagEs)).add 3 (.dict attrEs)).put 3 l3.length (.dict stEs)):=((Un.add rfl).trans (Un.add rfl)).trans (Un.put rfl);have hlen4:(((O1.add 3 (.dict tagEs)).add 3 (.dict attrEs)).put 3 l3.length (.dict stEs)).length=24:=by rw [Uaq,Uba,Uba];exact hlen2
 revert hst keep hlen4
 generalize ((O1.add 3 (.dict tagEs)).add 3 (.dict attrEs)).put 3 l3.length (.dict stEs)=O4
 intro hst keep hlen4;have hs4:=hse.keep keep rfl rfl hlen4;refine RF.c (Us7 (d:=d+5) hlen4 hst "tag open" "ta") fun v O5 qq=>xEAAA qq fun τ ev hT5 f5=>?_;subst ev;have hxs:=Uom S';have hfeed:=Upz (p:=p) (d:=d+3) hT5 rfl (jn S'++"z") (fun c m=>by rw [hxs] at m;exact F1_okL hokS c m) (by
  have:=F1_len S';rw [hxs,List.length_append];show 0+_ < 5000;simp only [List.length_cons,List.length_nil];omega)
 rw [Umd S'] at hfeed;have hfl:feedL (PS.new "tag open" "ta").isret (F1 S'++[122])=S'.map mv++[ch 122]:=Uij S';obtain ⟨⟨m,hmm,hRun⟩,hMid⟩:=Un4 (s:=PS.new "tag open" "ta") Ur6 rfl (jn S'++"z") (fun c m=>by
  rw [hxs,hfl] at m;have hn:∃ n,n ∈ okL/\c=ch n:=by
   rcases List.mem_append.mp m with m | m
   ·obtain ⟨b,hb,rfl⟩:=List.mem_map.mp m;refine ⟨nrm b,?_,rfl⟩;delta nrm;split
    ·decide
    ·exact hokS b hb
   ·rw [List.mem_singleton] at m;exact ⟨122,by decide,m⟩
  obtain ⟨n,hn,rfl⟩:=hn;exact ⟨okS hn,by have:=ch_ne n;simpa using this⟩) (by rw [hxs,hfl,List.length_append,List.length_map];simp only [List.length_cons,List.length_nil];omega)
 rw [hxs,Umd S'] at hRun hMid;rw [hxs,hfl] at hmm;rw [hfl,Uo5,Uqb] at hRun hMid;rw [List.length_append,List.length_map] at hmm;refine xEAAA hT5 fun t5 ht5 hw5 het5=>?_;have hs5:SE O5 l11.length l12.length S' _:=⟨hT5.len,(f5.get (by decide)).trans hs4.sg,(f5.get (by decide)).trans hs4.er⟩
 refine RF.mk (Ur7 ht5) (RF.ms (id:=.join) (by kernel_rfl) (by decide) (RF.b (Urz hs5.sg (by omega)) ?_));have hjl:(jn S').length<=220:=by
  have h1:=F1_len S';rw [<- Unm,Umt];omega
 refine RF.l (add_str (y:="z") (Nat.le_trans (Nat.add_le_add_right hjl _) (by decide))) ?_;refine RF.c (Q1:=fun (v:V) O'=>v=V.none/\TP O' τ ((PS.new "tag open" "ta").wi (S'.map mv++[ch 122]) false false)/\Fx O5 O') hfeed fun v O6 qq=>xAAA qq fun w0 hT6 f6=>?_;have hrun:=Usc (p:=p) (d:=d) hT6 hRun (by simp only [List.length_cons,List.length_nil] at hmm;omega);refine xEAAA hT6 fun t6 ht6 hw6 het6=>?_;refine RF.mk (mt_run ht6) (RF.c hrun fun v O7 qq=>xAAA qq fun ev hT7 f7=>?_);subst ev;have hT7:TP O7 τ ((Fin1 S').wi (S'.map mv++[ch 122]) false false):=hT7;have hdn:(Fin1 S').done=false:=hMid.done;have hs7:SE O7 l11.length l12.length S' _:=⟨hT7.len,((f6.trans f7).get (by decide)).trans hs5.sg,((f6.trans f7).get (by decide)).trans hs5.er⟩
 show RF (cond (Fin1 S').done _ _) O7 _;rw [hdn];refine RF.cf ?_;refine xEAAA hT7 fun t7 ht7 hw7 het7=>?_;have hdf:t7.draft=none:=by
  obtain ⟨A,E,hf,_,_⟩:=fin_eq ns hk;rw [hS] at hf;have h1:t7.draft.map Dr.pl=(Fin1 S').draft:=congrArg PS.draft het7;rw [hf] at h1;cases h2:t7.draft with
  | none=>rfl
  | some q=>rw [h2] at h1;cases h1
 refine RF.b (Ubk ht7) (RF.l (a:=false) (by rw [hdf];kernel_rfl) (RF.cf (RF.b (Ucc ht7) (RF.b (Unh ht7) (RF.b1 (RF.l (a:=false) ?_ (RF.cf ?_)))))))
 ·have h8:=hT7.outs.2.2 (Up5 S');show (eqV O7 (.ref 8 τ.se) (.lst [])).map (!·)=_;rw [show eqV O7 (.ref 8 τ.se) (.lst [])=some (PyData.eqv (.list []) (.list [])) from eqG_of (Ugc h8 rfl) rfl]
  rfl
 ·exact Ur2 (d:=d) ns hk hS.symm hT7 hs7
end
theorem lawOk1:LawOk:=by
 intro p ns _;refine xEEAA (Uqt (p:=p) (d:=12) (O:=List.replicate 24 []) ns rfl) fun v O' e qz1=>?_;subst qz1;exact ⟨O',Uln 20 a_law [.lst (ns.map .int)] _ _ e⟩
end Mine
end
theorem PySem.Challenge.cw_nt0611_01_holds : PySem.Challenge.rw_nt0611_01.Holds :=
 Mine.fin Mine.lawOk1


