import PyProof.Rows.All
import Wide.All
import OpenK.AllK
import Wide.FinOn
import PySem.Challenge.RW_nt0611_02
set_option Elab.async false
set_option maxRecDepth 100000
set_option linter.unusedVariables false
set_option genInjectivity false
set_option genSizeOfSpec false
section
namespace Mine
theorem xAA {p0:Prop} {p1:Prop} {P:Prop} (h:p0 ∧ p1) (k:p0 -> p1 -> P):P:=k h.1 h.2
theorem xAAA {p0:Prop} {p1:Prop} {p2:Prop} {P:Prop} (h:p0 ∧ p1 ∧ p2) (k:p0 -> p1 -> p2 -> P):P:=k h.1 h.2.1 h.2.2
theorem xAAAA {p0:Prop} {p1:Prop} {p2:Prop} {p3:Prop} {P:Prop} (h:p0 ∧ p1 ∧ p2 ∧ p3) (k:p0 -> p1 -> p2 -> p3 -> P):P:=k h.1 h.2.1 h.2.2.1 h.2.2.2
theorem xAAAAA {p0:Prop} {p1:Prop} {p2:Prop} {p3:Prop} {p4:Prop} {P:Prop} (h:p0 ∧ p1 ∧ p2 ∧ p3 ∧ p4) (k:p0 -> p1 -> p2 -> p3 -> p4 -> P):P:=k h.1 h.2.1 h.2.2.1 h.2.2.2.1 h.2.2.2.2
theorem xAAAAAA {p0:Prop} {p1:Prop} {p2:Prop} {p3:Prop} {p4:Prop} {p5:Prop} {P:Prop} (h:p0 ∧ p1 ∧ p2 ∧ p3 ∧ p4 ∧ p5) (k:p0 -> p1 -> p2 -> p3 -> p4 -> p5 -> P):P:=k h.1 h.2.1 h.2.2.1 h.2.2.2.1 h.2.2.2.2.1 h.2.2.2.2.2
theorem xAAAAAAA {p0:Prop} {p1:Prop} {p2:Prop} {p3:Prop} {p4:Prop} {p5:Prop} {p6:Prop} {P:Prop} (h:p0 ∧ p1 ∧ p2 ∧ p3 ∧ p4 ∧ p5 ∧ p6) (k:p0 -> p1 -> p2 -> p3 -> p4 -> p5 -> p6 -> P):P:=k h.1 h.2.1 h.2.2.1 h.2.2.2.1 h.2.2.2.2.1 h.2.2.2.2.2.1 h.2.2.2.2.2.2
theorem xAAAEA {τ0:Sort _} {p0:Prop} {p1:Prop} {p2:Prop} {p4:τ0 -> Prop} {P:Prop} (h:p0 ∧ p1 ∧ p2 ∧ (∃ a0:τ0,p4 a0)) (k:p0 -> p1 -> p2 -> ∀ a0:τ0,p4 a0 -> P):P:=h.2.2.2.elim fun a0 g0 => k h.1 h.2.1 h.2.2.1 a0 g0
theorem xAAAEEAA {τ0 τ1:Sort _} {p0:Prop} {p1:Prop} {p2:Prop} {p5:τ0 -> τ1 -> Prop} {p6:τ0 -> τ1 -> Prop} {P:Prop} (h:p0 ∧ p1 ∧ p2 ∧ (∃ a0:τ0,∃ a1:τ1,p5 a0 a1 ∧ p6 a0 a1)) (k:p0 -> p1 -> p2 -> ∀ a0:τ0,∀ a1:τ1,p5 a0 a1 -> p6 a0 a1 -> P):P:=h.2.2.2.elim fun a0 g0 => g0.elim fun a1 g1 => k h.1 h.2.1 h.2.2.1 a0 a1 g1.1 g1.2
theorem xAAEEAAA {τ0 τ1:Sort _} {p0:Prop} {p1:Prop} {p4:τ0 -> τ1 -> Prop} {p5:τ0 -> τ1 -> Prop} {p6:τ0 -> τ1 -> Prop} {P:Prop} (h:p0 ∧ p1 ∧ (∃ a0:τ0,∃ a1:τ1,p4 a0 a1 ∧ p5 a0 a1 ∧ p6 a0 a1)) (k:p0 -> p1 -> ∀ a0:τ0,∀ a1:τ1,p4 a0 a1 -> p5 a0 a1 -> p6 a0 a1 -> P):P:=h.2.2.elim fun a0 g0 => g0.elim fun a1 g1 => k h.1 h.2.1 a0 a1 g1.1 g1.2.1 g1.2.2
theorem xAEAA {τ0:Sort _} {p0:Prop} {p2:τ0 -> Prop} {p3:τ0 -> Prop} {P:Prop} (h:p0 ∧ (∃ a0:τ0,p2 a0 ∧ p3 a0)) (k:p0 -> ∀ a0:τ0,p2 a0 -> p3 a0 -> P):P:=h.2.elim fun a0 g0 => k h.1 a0 g0.1 g0.2
theorem xAEAAA {τ0:Sort _} {p0:Prop} {p2:τ0 -> Prop} {p3:τ0 -> Prop} {p4:τ0 -> Prop} {P:Prop} (h:p0 ∧ (∃ a0:τ0,p2 a0 ∧ p3 a0 ∧ p4 a0)) (k:p0 -> ∀ a0:τ0,p2 a0 -> p3 a0 -> p4 a0 -> P):P:=h.2.elim fun a0 g0 => k h.1 a0 g0.1 g0.2.1 g0.2.2
theorem xAEAAAAA {τ0:Sort _} {p0:Prop} {p2:τ0 -> Prop} {p3:τ0 -> Prop} {p4:τ0 -> Prop} {p5:τ0 -> Prop} {p6:τ0 -> Prop} {P:Prop} (h:p0 ∧ (∃ a0:τ0,p2 a0 ∧ p3 a0 ∧ p4 a0 ∧ p5 a0 ∧ p6 a0)) (k:p0 -> ∀ a0:τ0,p2 a0 -> p3 a0 -> p4 a0 -> p5 a0 -> p6 a0 -> P):P:=h.2.elim fun a0 g0 => k h.1 a0 g0.1 g0.2.1 g0.2.2.1 g0.2.2.2.1 g0.2.2.2.2
theorem xAEAEEAA {τ0 τ1 τ2:Sort _} {p0:Prop} {p2:τ0 -> Prop} {p5:τ0 -> τ1 -> τ2 -> Prop} {p6:τ0 -> τ1 -> τ2 -> Prop} {P:Prop} (h:p0 ∧ (∃ a0:τ0,p2 a0 ∧ (∃ a1:τ1,∃ a2:τ2,p5 a0 a1 a2 ∧ p6 a0 a1 a2))) (k:p0 -> ∀ a0:τ0,p2 a0 -> ∀ a1:τ1,∀ a2:τ2,p5 a0 a1 a2 -> p6 a0 a1 a2 -> P):P:=h.2.elim fun a0 g0 => g0.2.elim fun a1 g1 => g1.elim fun a2 g2 => k h.1 a0 g0.1 a1 a2 g2.1 g2.2
theorem xAEEA {τ0 τ1:Sort _} {p0:Prop} {p3:τ0 -> τ1 -> Prop} {P:Prop} (h:p0 ∧ (∃ a0:τ0,∃ a1:τ1,p3 a0 a1)) (k:p0 -> ∀ a0:τ0,∀ a1:τ1,p3 a0 a1 -> P):P:=h.2.elim fun a0 g0 => g0.elim fun a1 g1 => k h.1 a0 a1 g1
theorem xAEEAAA {τ0 τ1:Sort _} {p0:Prop} {p3:τ0 -> τ1 -> Prop} {p4:τ0 -> τ1 -> Prop} {p5:τ0 -> τ1 -> Prop} {P:Prop} (h:p0 ∧ (∃ a0:τ0,∃ a1:τ1,p3 a0 a1 ∧ p4 a0 a1 ∧ p5 a0 a1)) (k:p0 -> ∀ a0:τ0,∀ a1:τ1,p3 a0 a1 -> p4 a0 a1 -> p5 a0 a1 -> P):P:=h.2.elim fun a0 g0 => g0.elim fun a1 g1 => k h.1 a0 a1 g1.1 g1.2.1 g1.2.2
theorem xAEEAAAAA {τ0 τ1:Sort _} {p0:Prop} {p3:τ0 -> τ1 -> Prop} {p4:τ0 -> τ1 -> Prop} {p5:τ0 -> τ1 -> Prop} {p6:τ0 -> τ1 -> Prop} {p7:τ0 -> τ1 -> Prop} {P:Prop} (h:p0 ∧ (∃ a0:τ0,∃ a1:τ1,p3 a0 a1 ∧ p4 a0 a1 ∧ p5 a0 a1 ∧ p6 a0 a1 ∧ p7 a0 a1)) (k:p0 -> ∀ a0:τ0,∀ a1:τ1,p3 a0 a1 -> p4 a0 a1 -> p5 a0 a1 -> p6 a0 a1 -> p7 a0 a1 -> P):P:=h.2.elim fun a0 g0 => g0.elim fun a1 g1 => k h.1 a0 a1 g1.1 g1.2.1 g1.2.2.1 g1.2.2.2.1 g1.2.2.2.2
theorem xEA {τ0:Sort _} {p1:τ0 -> Prop} {P:Prop} (h:∃ a0:τ0,p1 a0) (k:∀ a0:τ0,p1 a0 -> P):P:=h.elim fun a0 g0 => k a0 g0
theorem xEAA {τ0:Sort _} {p1:τ0 -> Prop} {p2:τ0 -> Prop} {P:Prop} (h:∃ a0:τ0,p1 a0 ∧ p2 a0) (k:∀ a0:τ0,p1 a0 -> p2 a0 -> P):P:=h.elim fun a0 g0 => k a0 g0.1 g0.2
theorem xEAAA {τ0:Sort _} {p1:τ0 -> Prop} {p2:τ0 -> Prop} {p3:τ0 -> Prop} {P:Prop} (h:∃ a0:τ0,p1 a0 ∧ p2 a0 ∧ p3 a0) (k:∀ a0:τ0,p1 a0 -> p2 a0 -> p3 a0 -> P):P:=h.elim fun a0 g0 => k a0 g0.1 g0.2.1 g0.2.2
theorem xEAAAAA {τ0:Sort _} {p1:τ0 -> Prop} {p2:τ0 -> Prop} {p3:τ0 -> Prop} {p4:τ0 -> Prop} {p5:τ0 -> Prop} {P:Prop} (h:∃ a0:τ0,p1 a0 ∧ p2 a0 ∧ p3 a0 ∧ p4 a0 ∧ p5 a0) (k:∀ a0:τ0,p1 a0 -> p2 a0 -> p3 a0 -> p4 a0 -> p5 a0 -> P):P:=h.elim fun a0 g0 => k a0 g0.1 g0.2.1 g0.2.2.1 g0.2.2.2.1 g0.2.2.2.2
theorem xEAAAAAA {τ0:Sort _} {p1:τ0 -> Prop} {p2:τ0 -> Prop} {p3:τ0 -> Prop} {p4:τ0 -> Prop} {p5:τ0 -> Prop} {p6:τ0 -> Prop} {P:Prop} (h:∃ a0:τ0,p1 a0 ∧ p2 a0 ∧ p3 a0 ∧ p4 a0 ∧ p5 a0 ∧ p6 a0) (k:∀ a0:τ0,p1 a0 -> p2 a0 -> p3 a0 -> p4 a0 -> p5 a0 -> p6 a0 -> P):P:=h.elim fun a0 g0 => k a0 g0.1 g0.2.1 g0.2.2.1 g0.2.2.2.1 g0.2.2.2.2.1 g0.2.2.2.2.2
theorem xEAAAAAEA {τ0 τ1:Sort _} {p1:τ0 -> Prop} {p2:τ0 -> Prop} {p3:τ0 -> Prop} {p4:τ0 -> Prop} {p5:τ0 -> Prop} {p7:τ0 -> τ1 -> Prop} {P:Prop} (h:∃ a0:τ0,p1 a0 ∧ p2 a0 ∧ p3 a0 ∧ p4 a0 ∧ p5 a0 ∧ (∃ a1:τ1,p7 a0 a1)) (k:∀ a0:τ0,p1 a0 -> p2 a0 -> p3 a0 -> p4 a0 -> p5 a0 -> ∀ a1:τ1,p7 a0 a1 -> P):P:=h.elim fun a0 g0 => g0.2.2.2.2.2.elim fun a1 g1 => k a0 g0.1 g0.2.1 g0.2.2.1 g0.2.2.2.1 g0.2.2.2.2.1 a1 g1
theorem xEAAEA {τ0 τ1:Sort _} {p1:τ0 -> Prop} {p2:τ0 -> Prop} {p4:τ0 -> τ1 -> Prop} {P:Prop} (h:∃ a0:τ0,p1 a0 ∧ p2 a0 ∧ (∃ a1:τ1,p4 a0 a1)) (k:∀ a0:τ0,p1 a0 -> p2 a0 -> ∀ a1:τ1,p4 a0 a1 -> P):P:=h.elim fun a0 g0 => g0.2.2.elim fun a1 g1 => k a0 g0.1 g0.2.1 a1 g1
theorem xEAEAAA {τ0 τ1:Sort _} {p1:τ0 -> Prop} {p3:τ0 -> τ1 -> Prop} {p4:τ0 -> τ1 -> Prop} {p5:τ0 -> τ1 -> Prop} {P:Prop} (h:∃ a0:τ0,p1 a0 ∧ (∃ a1:τ1,p3 a0 a1 ∧ p4 a0 a1 ∧ p5 a0 a1)) (k:∀ a0:τ0,p1 a0 -> ∀ a1:τ1,p3 a0 a1 -> p4 a0 a1 -> p5 a0 a1 -> P):P:=h.elim fun a0 g0 => g0.2.elim fun a1 g1 => k a0 g0.1 a1 g1.1 g1.2.1 g1.2.2
theorem xEEA {τ0 τ1:Sort _} {p2:τ0 -> τ1 -> Prop} {P:Prop} (h:∃ a0:τ0,∃ a1:τ1,p2 a0 a1) (k:∀ a0:τ0,∀ a1:τ1,p2 a0 a1 -> P):P:=h.elim fun a0 g0 => g0.elim fun a1 g1 => k a0 a1 g1
theorem xEEAA {τ0 τ1:Sort _} {p2:τ0 -> τ1 -> Prop} {p3:τ0 -> τ1 -> Prop} {P:Prop} (h:∃ a0:τ0,∃ a1:τ1,p2 a0 a1 ∧ p3 a0 a1) (k:∀ a0:τ0,∀ a1:τ1,p2 a0 a1 -> p3 a0 a1 -> P):P:=h.elim fun a0 g0 => g0.elim fun a1 g1 => k a0 a1 g1.1 g1.2
theorem xEEAAA {τ0 τ1:Sort _} {p2:τ0 -> τ1 -> Prop} {p3:τ0 -> τ1 -> Prop} {p4:τ0 -> τ1 -> Prop} {P:Prop} (h:∃ a0:τ0,∃ a1:τ1,p2 a0 a1 ∧ p3 a0 a1 ∧ p4 a0 a1) (k:∀ a0:τ0,∀ a1:τ1,p2 a0 a1 -> p3 a0 a1 -> p4 a0 a1 -> P):P:=h.elim fun a0 g0 => g0.elim fun a1 g1 => k a0 a1 g1.1 g1.2.1 g1.2.2
theorem xEEAAAA {τ0 τ1:Sort _} {p2:τ0 -> τ1 -> Prop} {p3:τ0 -> τ1 -> Prop} {p4:τ0 -> τ1 -> Prop} {p5:τ0 -> τ1 -> Prop} {P:Prop} (h:∃ a0:τ0,∃ a1:τ1,p2 a0 a1 ∧ p3 a0 a1 ∧ p4 a0 a1 ∧ p5 a0 a1) (k:∀ a0:τ0,∀ a1:τ1,p2 a0 a1 -> p3 a0 a1 -> p4 a0 a1 -> p5 a0 a1 -> P):P:=h.elim fun a0 g0 => g0.elim fun a1 g1 => k a0 a1 g1.1 g1.2.1 g1.2.2.1 g1.2.2.2
theorem xEEAAAAA {τ0 τ1:Sort _} {p2:τ0 -> τ1 -> Prop} {p3:τ0 -> τ1 -> Prop} {p4:τ0 -> τ1 -> Prop} {p5:τ0 -> τ1 -> Prop} {p6:τ0 -> τ1 -> Prop} {P:Prop} (h:∃ a0:τ0,∃ a1:τ1,p2 a0 a1 ∧ p3 a0 a1 ∧ p4 a0 a1 ∧ p5 a0 a1 ∧ p6 a0 a1) (k:∀ a0:τ0,∀ a1:τ1,p2 a0 a1 -> p3 a0 a1 -> p4 a0 a1 -> p5 a0 a1 -> p6 a0 a1 -> P):P:=h.elim fun a0 g0 => g0.elim fun a1 g1 => k a0 a1 g1.1 g1.2.1 g1.2.2.1 g1.2.2.2.1 g1.2.2.2.2
theorem xEEAAAAAA {τ0 τ1:Sort _} {p2:τ0 -> τ1 -> Prop} {p3:τ0 -> τ1 -> Prop} {p4:τ0 -> τ1 -> Prop} {p5:τ0 -> τ1 -> Prop} {p6:τ0 -> τ1 -> Prop} {p7:τ0 -> τ1 -> Prop} {P:Prop} (h:∃ a0:τ0,∃ a1:τ1,p2 a0 a1 ∧ p3 a0 a1 ∧ p4 a0 a1 ∧ p5 a0 a1 ∧ p6 a0 a1 ∧ p7 a0 a1) (k:∀ a0:τ0,∀ a1:τ1,p2 a0 a1 -> p3 a0 a1 -> p4 a0 a1 -> p5 a0 a1 -> p6 a0 a1 -> p7 a0 a1 -> P):P:=h.elim fun a0 g0 => g0.elim fun a1 g1 => k a0 a1 g1.1 g1.2.1 g1.2.2.1 g1.2.2.2.1 g1.2.2.2.2.1 g1.2.2.2.2.2
theorem xEEAAEAA {τ0 τ1 τ2:Sort _} {p2:τ0 -> τ1 -> Prop} {p3:τ0 -> τ1 -> Prop} {p5:τ0 -> τ1 -> τ2 -> Prop} {p6:τ0 -> τ1 -> τ2 -> Prop} {P:Prop} (h:∃ a0:τ0,∃ a1:τ1,p2 a0 a1 ∧ p3 a0 a1 ∧ (∃ a2:τ2,p5 a0 a1 a2 ∧ p6 a0 a1 a2)) (k:∀ a0:τ0,∀ a1:τ1,p2 a0 a1 -> p3 a0 a1 -> ∀ a2:τ2,p5 a0 a1 a2 -> p6 a0 a1 a2 -> P):P:=h.elim fun a0 g0 => g0.elim fun a1 g1 => g1.2.2.elim fun a2 g2 => k a0 a1 g1.1 g1.2.1 a2 g2.1 g2.2
theorem xEEEA {τ0 τ1 τ2:Sort _} {p3:τ0 -> τ1 -> τ2 -> Prop} {P:Prop} (h:∃ a0:τ0,∃ a1:τ1,∃ a2:τ2,p3 a0 a1 a2) (k:∀ a0:τ0,∀ a1:τ1,∀ a2:τ2,p3 a0 a1 a2 -> P):P:=h.elim fun a0 g0 => g0.elim fun a1 g1 => g1.elim fun a2 g2 => k a0 a1 a2 g2
theorem xEEEAA {τ0 τ1 τ2:Sort _} {p3:τ0 -> τ1 -> τ2 -> Prop} {p4:τ0 -> τ1 -> τ2 -> Prop} {P:Prop} (h:∃ a0:τ0,∃ a1:τ1,∃ a2:τ2,p3 a0 a1 a2 ∧ p4 a0 a1 a2) (k:∀ a0:τ0,∀ a1:τ1,∀ a2:τ2,p3 a0 a1 a2 -> p4 a0 a1 a2 -> P):P:=h.elim fun a0 g0 => g0.elim fun a1 g1 => g1.elim fun a2 g2 => k a0 a1 a2 g2.1 g2.2
theorem xEEEAAAA {τ0 τ1 τ2:Sort _} {p3:τ0 -> τ1 -> τ2 -> Prop} {p4:τ0 -> τ1 -> τ2 -> Prop} {p5:τ0 -> τ1 -> τ2 -> Prop} {p6:τ0 -> τ1 -> τ2 -> Prop} {P:Prop} (h:∃ a0:τ0,∃ a1:τ1,∃ a2:τ2,p3 a0 a1 a2 ∧ p4 a0 a1 a2 ∧ p5 a0 a1 a2 ∧ p6 a0 a1 a2) (k:∀ a0:τ0,∀ a1:τ1,∀ a2:τ2,p3 a0 a1 a2 -> p4 a0 a1 a2 -> p5 a0 a1 a2 -> p6 a0 a1 a2 -> P):P:=h.elim fun a0 g0 => g0.elim fun a1 g1 => g1.elim fun a2 g2 => k a0 a1 a2 g2.1 g2.2.1 g2.2.2.1 g2.2.2.2
theorem xEEEAAAAA {τ0 τ1 τ2:Sort _} {p3:τ0 -> τ1 -> τ2 -> Prop} {p4:τ0 -> τ1 -> τ2 -> Prop} {p5:τ0 -> τ1 -> τ2 -> Prop} {p6:τ0 -> τ1 -> τ2 -> Prop} {p7:τ0 -> τ1 -> τ2 -> Prop} {P:Prop} (h:∃ a0:τ0,∃ a1:τ1,∃ a2:τ2,p3 a0 a1 a2 ∧ p4 a0 a1 a2 ∧ p5 a0 a1 a2 ∧ p6 a0 a1 a2 ∧ p7 a0 a1 a2) (k:∀ a0:τ0,∀ a1:τ1,∀ a2:τ2,p3 a0 a1 a2 -> p4 a0 a1 a2 -> p5 a0 a1 a2 -> p6 a0 a1 a2 -> p7 a0 a1 a2 -> P):P:=h.elim fun a0 g0 => g0.elim fun a1 g1 => g1.elim fun a2 g2 => k a0 a1 a2 g2.1 g2.2.1 g2.2.2.1 g2.2.2.2.1 g2.2.2.2.2
theorem xEEEAAAAAA {τ0 τ1 τ2:Sort _} {p3:τ0 -> τ1 -> τ2 -> Prop} {p4:τ0 -> τ1 -> τ2 -> Prop} {p5:τ0 -> τ1 -> τ2 -> Prop} {p6:τ0 -> τ1 -> τ2 -> Prop} {p7:τ0 -> τ1 -> τ2 -> Prop} {p8:τ0 -> τ1 -> τ2 -> Prop} {P:Prop} (h:∃ a0:τ0,∃ a1:τ1,∃ a2:τ2,p3 a0 a1 a2 ∧ p4 a0 a1 a2 ∧ p5 a0 a1 a2 ∧ p6 a0 a1 a2 ∧ p7 a0 a1 a2 ∧ p8 a0 a1 a2) (k:∀ a0:τ0,∀ a1:τ1,∀ a2:τ2,p3 a0 a1 a2 -> p4 a0 a1 a2 -> p5 a0 a1 a2 -> p6 a0 a1 a2 -> p7 a0 a1 a2 -> p8 a0 a1 a2 -> P):P:=h.elim fun a0 g0 => g0.elim fun a1 g1 => g1.elim fun a2 g2 => k a0 a1 a2 g2.1 g2.2.1 g2.2.2.1 g2.2.2.2.1 g2.2.2.2.2.1 g2.2.2.2.2.2
theorem xEEEAAAAAAAAA {τ0 τ1 τ2:Sort _} {p3:τ0 -> τ1 -> τ2 -> Prop} {p4:τ0 -> τ1 -> τ2 -> Prop} {p5:τ0 -> τ1 -> τ2 -> Prop} {p6:τ0 -> τ1 -> τ2 -> Prop} {p7:τ0 -> τ1 -> τ2 -> Prop} {p8:τ0 -> τ1 -> τ2 -> Prop} {p9:τ0 -> τ1 -> τ2 -> Prop} {p10:τ0 -> τ1 -> τ2 -> Prop} {p11:τ0 -> τ1 -> τ2 -> Prop} {P:Prop} (h:∃ a0:τ0,∃ a1:τ1,∃ a2:τ2,p3 a0 a1 a2 ∧ p4 a0 a1 a2 ∧ p5 a0 a1 a2 ∧ p6 a0 a1 a2 ∧ p7 a0 a1 a2 ∧ p8 a0 a1 a2 ∧ p9 a0 a1 a2 ∧ p10 a0 a1 a2 ∧ p11 a0 a1 a2) (k:∀ a0:τ0,∀ a1:τ1,∀ a2:τ2,p3 a0 a1 a2 -> p4 a0 a1 a2 -> p5 a0 a1 a2 -> p6 a0 a1 a2 -> p7 a0 a1 a2 -> p8 a0 a1 a2 -> p9 a0 a1 a2 -> p10 a0 a1 a2 -> p11 a0 a1 a2 -> P):P:=h.elim fun a0 g0 => g0.elim fun a1 g1 => g1.elim fun a2 g2 => k a0 a1 a2 g2.1 g2.2.1 g2.2.2.1 g2.2.2.2.1 g2.2.2.2.2.1 g2.2.2.2.2.2.1 g2.2.2.2.2.2.2.1 g2.2.2.2.2.2.2.2.1 g2.2.2.2.2.2.2.2.2
theorem xEEEEAA {τ0 τ1 τ2 τ3:Sort _} {p4:τ0 -> τ1 -> τ2 -> τ3 -> Prop} {p5:τ0 -> τ1 -> τ2 -> τ3 -> Prop} {P:Prop} (h:∃ a0:τ0,∃ a1:τ1,∃ a2:τ2,∃ a3:τ3,p4 a0 a1 a2 a3 ∧ p5 a0 a1 a2 a3) (k:∀ a0:τ0,∀ a1:τ1,∀ a2:τ2,∀ a3:τ3,p4 a0 a1 a2 a3 -> p5 a0 a1 a2 a3 -> P):P:=h.elim fun a0 g0 => g0.elim fun a1 g1 => g1.elim fun a2 g2 => g2.elim fun a3 g3 => k a0 a1 a2 a3 g3.1 g3.2
theorem xEEEEAAAA {τ0 τ1 τ2 τ3:Sort _} {p4:τ0 -> τ1 -> τ2 -> τ3 -> Prop} {p5:τ0 -> τ1 -> τ2 -> τ3 -> Prop} {p6:τ0 -> τ1 -> τ2 -> τ3 -> Prop} {p7:τ0 -> τ1 -> τ2 -> τ3 -> Prop} {P:Prop} (h:∃ a0:τ0,∃ a1:τ1,∃ a2:τ2,∃ a3:τ3,p4 a0 a1 a2 a3 ∧ p5 a0 a1 a2 a3 ∧ p6 a0 a1 a2 a3 ∧ p7 a0 a1 a2 a3) (k:∀ a0:τ0,∀ a1:τ1,∀ a2:τ2,∀ a3:τ3,p4 a0 a1 a2 a3 -> p5 a0 a1 a2 a3 -> p6 a0 a1 a2 a3 -> p7 a0 a1 a2 a3 -> P):P:=h.elim fun a0 g0 => g0.elim fun a1 g1 => g1.elim fun a2 g2 => g2.elim fun a3 g3 => k a0 a1 a2 a3 g3.1 g3.2.1 g3.2.2.1 g3.2.2.2
theorem xEEEEAAAAA {τ0 τ1 τ2 τ3:Sort _} {p4:τ0 -> τ1 -> τ2 -> τ3 -> Prop} {p5:τ0 -> τ1 -> τ2 -> τ3 -> Prop} {p6:τ0 -> τ1 -> τ2 -> τ3 -> Prop} {p7:τ0 -> τ1 -> τ2 -> τ3 -> Prop} {p8:τ0 -> τ1 -> τ2 -> τ3 -> Prop} {P:Prop} (h:∃ a0:τ0,∃ a1:τ1,∃ a2:τ2,∃ a3:τ3,p4 a0 a1 a2 a3 ∧ p5 a0 a1 a2 a3 ∧ p6 a0 a1 a2 a3 ∧ p7 a0 a1 a2 a3 ∧ p8 a0 a1 a2 a3) (k:∀ a0:τ0,∀ a1:τ1,∀ a2:τ2,∀ a3:τ3,p4 a0 a1 a2 a3 -> p5 a0 a1 a2 a3 -> p6 a0 a1 a2 a3 -> p7 a0 a1 a2 a3 -> p8 a0 a1 a2 a3 -> P):P:=h.elim fun a0 g0 => g0.elim fun a1 g1 => g1.elim fun a2 g2 => g2.elim fun a3 g3 => k a0 a1 a2 a3 g3.1 g3.2.1 g3.2.2.1 g3.2.2.2.1 g3.2.2.2.2
theorem xEEEEAAAAAA {τ0 τ1 τ2 τ3:Sort _} {p4:τ0 -> τ1 -> τ2 -> τ3 -> Prop} {p5:τ0 -> τ1 -> τ2 -> τ3 -> Prop} {p6:τ0 -> τ1 -> τ2 -> τ3 -> Prop} {p7:τ0 -> τ1 -> τ2 -> τ3 -> Prop} {p8:τ0 -> τ1 -> τ2 -> τ3 -> Prop} {p9:τ0 -> τ1 -> τ2 -> τ3 -> Prop} {P:Prop} (h:∃ a0:τ0,∃ a1:τ1,∃ a2:τ2,∃ a3:τ3,p4 a0 a1 a2 a3 ∧ p5 a0 a1 a2 a3 ∧ p6 a0 a1 a2 a3 ∧ p7 a0 a1 a2 a3 ∧ p8 a0 a1 a2 a3 ∧ p9 a0 a1 a2 a3) (k:∀ a0:τ0,∀ a1:τ1,∀ a2:τ2,∀ a3:τ3,p4 a0 a1 a2 a3 -> p5 a0 a1 a2 a3 -> p6 a0 a1 a2 a3 -> p7 a0 a1 a2 a3 -> p8 a0 a1 a2 a3 -> p9 a0 a1 a2 a3 -> P):P:=h.elim fun a0 g0 => g0.elim fun a1 g1 => g1.elim fun a2 g2 => g2.elim fun a3 g3 => k a0 a1 a2 a3 g3.1 g3.2.1 g3.2.2.1 g3.2.2.2.1 g3.2.2.2.2.1 g3.2.2.2.2.2
theorem xEEEEAAAAAAA {τ0 τ1 τ2 τ3:Sort _} {p4:τ0 -> τ1 -> τ2 -> τ3 -> Prop} {p5:τ0 -> τ1 -> τ2 -> τ3 -> Prop} {p6:τ0 -> τ1 -> τ2 -> τ3 -> Prop} {p7:τ0 -> τ1 -> τ2 -> τ3 -> Prop} {p8:τ0 -> τ1 -> τ2 -> τ3 -> Prop} {p9:τ0 -> τ1 -> τ2 -> τ3 -> Prop} {p10:τ0 -> τ1 -> τ2 -> τ3 -> Prop} {P:Prop} (h:∃ a0:τ0,∃ a1:τ1,∃ a2:τ2,∃ a3:τ3,p4 a0 a1 a2 a3 ∧ p5 a0 a1 a2 a3 ∧ p6 a0 a1 a2 a3 ∧ p7 a0 a1 a2 a3 ∧ p8 a0 a1 a2 a3 ∧ p9 a0 a1 a2 a3 ∧ p10 a0 a1 a2 a3) (k:∀ a0:τ0,∀ a1:τ1,∀ a2:τ2,∀ a3:τ3,p4 a0 a1 a2 a3 -> p5 a0 a1 a2 a3 -> p6 a0 a1 a2 a3 -> p7 a0 a1 a2 a3 -> p8 a0 a1 a2 a3 -> p9 a0 a1 a2 a3 -> p10 a0 a1 a2 a3 -> P):P:=h.elim fun a0 g0 => g0.elim fun a1 g1 => g1.elim fun a2 g2 => g2.elim fun a3 g3 => k a0 a1 a2 a3 g3.1 g3.2.1 g3.2.2.1 g3.2.2.2.1 g3.2.2.2.2.1 g3.2.2.2.2.2.1 g3.2.2.2.2.2.2
theorem xEEEEAAAAAAAA {τ0 τ1 τ2 τ3:Sort _} {p4:τ0 -> τ1 -> τ2 -> τ3 -> Prop} {p5:τ0 -> τ1 -> τ2 -> τ3 -> Prop} {p6:τ0 -> τ1 -> τ2 -> τ3 -> Prop} {p7:τ0 -> τ1 -> τ2 -> τ3 -> Prop} {p8:τ0 -> τ1 -> τ2 -> τ3 -> Prop} {p9:τ0 -> τ1 -> τ2 -> τ3 -> Prop} {p10:τ0 -> τ1 -> τ2 -> τ3 -> Prop} {p11:τ0 -> τ1 -> τ2 -> τ3 -> Prop} {P:Prop} (h:∃ a0:τ0,∃ a1:τ1,∃ a2:τ2,∃ a3:τ3,p4 a0 a1 a2 a3 ∧ p5 a0 a1 a2 a3 ∧ p6 a0 a1 a2 a3 ∧ p7 a0 a1 a2 a3 ∧ p8 a0 a1 a2 a3 ∧ p9 a0 a1 a2 a3 ∧ p10 a0 a1 a2 a3 ∧ p11 a0 a1 a2 a3) (k:∀ a0:τ0,∀ a1:τ1,∀ a2:τ2,∀ a3:τ3,p4 a0 a1 a2 a3 -> p5 a0 a1 a2 a3 -> p6 a0 a1 a2 a3 -> p7 a0 a1 a2 a3 -> p8 a0 a1 a2 a3 -> p9 a0 a1 a2 a3 -> p10 a0 a1 a2 a3 -> p11 a0 a1 a2 a3 -> P):P:=h.elim fun a0 g0 => g0.elim fun a1 g1 => g1.elim fun a2 g2 => g2.elim fun a3 g3 => k a0 a1 a2 a3 g3.1 g3.2.1 g3.2.2.1 g3.2.2.2.1 g3.2.2.2.2.1 g3.2.2.2.2.2.1 g3.2.2.2.2.2.2.1 g3.2.2.2.2.2.2.2
theorem xEEEEAAAAAAAAA {τ0 τ1 τ2 τ3:Sort _} {p4:τ0 -> τ1 -> τ2 -> τ3 -> Prop} {p5:τ0 -> τ1 -> τ2 -> τ3 -> Prop} {p6:τ0 -> τ1 -> τ2 -> τ3 -> Prop} {p7:τ0 -> τ1 -> τ2 -> τ3 -> Prop} {p8:τ0 -> τ1 -> τ2 -> τ3 -> Prop} {p9:τ0 -> τ1 -> τ2 -> τ3 -> Prop} {p10:τ0 -> τ1 -> τ2 -> τ3 -> Prop} {p11:τ0 -> τ1 -> τ2 -> τ3 -> Prop} {p12:τ0 -> τ1 -> τ2 -> τ3 -> Prop} {P:Prop} (h:∃ a0:τ0,∃ a1:τ1,∃ a2:τ2,∃ a3:τ3,p4 a0 a1 a2 a3 ∧ p5 a0 a1 a2 a3 ∧ p6 a0 a1 a2 a3 ∧ p7 a0 a1 a2 a3 ∧ p8 a0 a1 a2 a3 ∧ p9 a0 a1 a2 a3 ∧ p10 a0 a1 a2 a3 ∧ p11 a0 a1 a2 a3 ∧ p12 a0 a1 a2 a3) (k:∀ a0:τ0,∀ a1:τ1,∀ a2:τ2,∀ a3:τ3,p4 a0 a1 a2 a3 -> p5 a0 a1 a2 a3 -> p6 a0 a1 a2 a3 -> p7 a0 a1 a2 a3 -> p8 a0 a1 a2 a3 -> p9 a0 a1 a2 a3 -> p10 a0 a1 a2 a3 -> p11 a0 a1 a2 a3 -> p12 a0 a1 a2 a3 -> P):P:=h.elim fun a0 g0 => g0.elim fun a1 g1 => g1.elim fun a2 g2 => g2.elim fun a3 g3 => k a0 a1 a2 a3 g3.1 g3.2.1 g3.2.2.1 g3.2.2.2.1 g3.2.2.2.2.1 g3.2.2.2.2.2.1 g3.2.2.2.2.2.2.1 g3.2.2.2.2.2.2.2.1 g3.2.2.2.2.2.2.2.2
theorem xEEEEEAAAAA {τ0 τ1 τ2 τ3 τ4:Sort _} {p5:τ0 -> τ1 -> τ2 -> τ3 -> τ4 -> Prop} {p6:τ0 -> τ1 -> τ2 -> τ3 -> τ4 -> Prop} {p7:τ0 -> τ1 -> τ2 -> τ3 -> τ4 -> Prop} {p8:τ0 -> τ1 -> τ2 -> τ3 -> τ4 -> Prop} {p9:τ0 -> τ1 -> τ2 -> τ3 -> τ4 -> Prop} {P:Prop} (h:∃ a0:τ0,∃ a1:τ1,∃ a2:τ2,∃ a3:τ3,∃ a4:τ4,p5 a0 a1 a2 a3 a4 ∧ p6 a0 a1 a2 a3 a4 ∧ p7 a0 a1 a2 a3 a4 ∧ p8 a0 a1 a2 a3 a4 ∧ p9 a0 a1 a2 a3 a4) (k:∀ a0:τ0,∀ a1:τ1,∀ a2:τ2,∀ a3:τ3,∀ a4:τ4,p5 a0 a1 a2 a3 a4 -> p6 a0 a1 a2 a3 a4 -> p7 a0 a1 a2 a3 a4 -> p8 a0 a1 a2 a3 a4 -> p9 a0 a1 a2 a3 a4 -> P):P:=h.elim fun a0 g0 => g0.elim fun a1 g1 => g1.elim fun a2 g2 => g2.elim fun a3 g3 => g3.elim fun a4 g4 => k a0 a1 a2 a3 a4 g4.1 g4.2.1 g4.2.2.1 g4.2.2.2.1 g4.2.2.2.2
end Mine
end
section
open PySem
namespace Mine
inductive Bi where
 | len | range | list | tuple | ord | chr
inductive Mi where
 | join | find | replace | append | extend | pop | get | update
noncomputable abbrev ob {α β:Type} (x:Option α) (f:α -> β) (z:β):β:=match x with
 | some a => f a
 | none => z
inductive V where
 | none | bool (b:Bool) | int (i:Int) | str (s:Str)
 | tup (vs:List V) | lst (vs:List V) | rng (a b c:Int) | ref (r i:Nat) | fn (a:Addr) | bi (n:Bi)
 deriving Inhabited
inductive Ob where
 | list (vs:List V) | dict (es:List (Str × V)) | inst (c:Addr) (es:List (Str × V))
 deriving Inhabited
noncomputable abbrev Store:=List (List Ob)
noncomputable abbrev Fr:=List (Str × V)
noncomputable abbrev Y:String -> Str:=Str.ofString
noncomputable abbrev M (α:Type):=Store -> Option (α × Store)
noncomputable abbrev CC:=Addr -> List V -> M V
noncomputable def Store.get (σ:Store) (r i:Nat):Option Ob:=match σ[r]? with
 | some l => l[i]?
 | none => none
noncomputable def Store.put (σ:Store) (r i:Nat) (o:Ob):Store:=σ.modify r fun l => l.set i o
noncomputable def Store.add (σ:Store) (r:Nat) (o:Ob):Store:=σ.modify r fun l => l ++ [o]
noncomputable def ret {α:Type} (a:α):M α:=fun σ => some (a,σ)
noncomputable def bnd {α β:Type} (m:M α) (k:α -> M β):M β:=fun σ => match m σ with
 | some (a,σ') => k a σ'
 | none => none
noncomputable def fail {α:Type}:M α:=fun w0 => none
noncomputable def lift {α:Type} (x:Option α):M α:=fun σ => match x with
 | some a => some (a,σ)
 | none => none
noncomputable def look {α:Type} (f:Store -> Option α):M α:=fun σ => match f σ with
 | some a => some (a,σ)
 | none => none
noncomputable def lim:Nat:=1000000
noncomputable def lk {α:Type} (x:Str):List (Str × α) -> Option α
 | [] => none
 | (y,v) :: r => if y == x then some v else lk x r
noncomputable def setK {α:Type} (x:Str) (v:α):List (Str × α) -> List (Str × α)
 | [] => [(x,v)]
 | (y,w) :: r => if y == x then (y,v) :: r else (y,w) :: setK x v r
noncomputable def lkN {α:Type} (x:Nat):List (Nat × α) -> Option α
 | [] => none
 | (y,v) :: r => if Nat.beq y x then some v else lkN x r
structure Fn where
 params:List Str
 dflts:List V
 body:List Stmt
 scope:Scope
structure Cls where
 region:Nat
 meths:List (Str × Addr)
 attrs:List Str
 init:Addr
structure Prog where
 fns:List (Addr × Fn)
 clss:List (Addr × Cls)
 globs:List (Str × Addr)
 site:Nat -> Nat -> Option Nat
noncomputable def lstO:V -> Option (List V)
 | .lst us => some us
 | _ => none
noncomputable def objO (σ:Store):V -> Option (Nat × Nat × Ob)
 | .ref r i => ob (σ.get r i) (fun o => some (r,i,o)) none
 | _ => none
noncomputable def listB:Ob -> Option (List V)
 | .list vs => some vs
 | _ => none
noncomputable def dictB:Ob -> Option (List (Str × V))
 | .dict es => some es
 | _ => none
noncomputable def instB:Ob -> Option (Addr × List (Str × V))
 | .inst c es => some (c,es)
 | _ => none
noncomputable def lref (σ:Store) (v:V):Option (Nat × Nat × List V):=ob (objO σ v) (fun z => ob (listB z.2.2) (fun vs => some (z.1,z.2.1,vs)) none) none
noncomputable def dref (σ:Store) (v:V):Option (Nat × Nat × List (Str × V)):=ob (objO σ v) (fun z => ob (dictB z.2.2) (fun vs => some (z.1,z.2.1,vs)) none) none
noncomputable def asList (σ:Store) (v:V):Option (List V):=ob (lstO v) some (ob (lref σ v) (fun z => some z.2.2) none)
noncomputable def tupO:V -> Option (List V)
 | .tup vs => some vs
 | _ => none
noncomputable def asSeq (σ:Store) (v:V):Option (List V):=ob (tupO v) some (asList σ v)
noncomputable def strO:V -> Option Str
 | .str s => some s
 | _ => none
noncomputable def intO:V -> Option Int
 | .int s => some s
 | _ => none
noncomputable def allO {α β:Type} (f:α -> Option β):List α -> Option (List β)
 | [] => some []
 | v :: vs => ob (f v) (fun d => ob (allO f vs) (fun ds => some (d :: ds)) none) none
noncomputable def scal:V -> Option PyData
 | .none => some .none
 | .bool b => some (.bool b)
 | .int i => some (.int i)
 | .str s => some (.str s)
 | _ => none
noncomputable def toD (σ:Store):Nat -> V -> Option PyData
 | 0 => scal
 | n + 1 => fun v => ob (tupO v) (fun vs => ob (allO (toD σ n) vs) (fun ds => some (.tuple ds)) none)
     (ob (asList σ v) (fun vs => ob (allO (toD σ n) vs) (fun ds => some (.list ds)) none) (scal v))
noncomputable abbrev toDs (σ:Store) (n:Nat):List V -> Option (List PyData):=allO (toD σ n)
noncomputable abbrev strsOf:List V -> Option (List Str):=allO strO
noncomputable abbrev intsOf:List V -> Option (List Int):=allO intO
noncomputable def eqG (σ:Store) (a b:V):Option Bool:=ob (toD σ 8 a) (fun da => ob (toD σ 8 b) (fun db => some (PyData.eqv da db)) none) none
noncomputable def eqV (σ:Store) (a b:V):Option Bool:=ob (strO a) (fun x => ob (strO b) (fun y => some (x == y)) (eqG σ a b)) (ob (intO a) (fun x => ob (intO b) (fun y => some (x == y)) (eqG σ a b)) (eqG σ a b))
noncomputable abbrev strss:List V -> Option (List (List Str)):=allO fun v => ob (lstO v) strsOf none
noncomputable def hasSub (x y:Str):Bool:=!(Builtin.Str.occurrences x y 0 x.length 1).isEmpty
noncomputable def dictO (σ:Store) (v:V):Option (List (Str × V)):=ob (dref σ v) (fun z => some z.2.2) none
noncomputable def memV (a:V) (vs:List V):Option Bool :=
 ob (strO a) (fun x => ob (strsOf vs) (fun l => some (l.any (· == x))) none)
   (ob (intO a) (fun x => ob (intsOf vs) (fun l => some (l.any (· == x))) none)
     (ob (lstO a) (fun us => ob (strsOf us) (fun x => ob (strss vs) (fun l => some (l.any (· == x))) none) none) none))
noncomputable def inV (σ:Store) (a c:V):Option Bool :=
 ob (strO a) (fun x => ob (strO c) (fun y => some (hasSub y x)) (ob (dictO σ c) (fun es => some (lk x es).isSome) (ob (asSeq σ c) (memV a) none)))
   (ob (asSeq σ c) (memV a) none)
noncomputable abbrev ob2 {α β γ:Type} (f:α -> Option β) (a b:α) (k:β -> β -> Option γ) (z:Option γ):Option γ:=ob (f a) (fun x => ob (f b) (fun y => k x y) z) z
noncomputable def noneO:V -> Option Unit
 | .none => some ()
 | _ => none
noncomputable def isNone:V -> Option Bool
 | .none => some true
 | .ref _ _ => some false
 | _ => none
noncomputable def isV (a b:V):Option Bool:=ob (noneO b) (fun w0 => isNone a) none
noncomputable def strLt (x y:Str):Bool:=decide (x.cps.toList < y.cps.toList)
noncomputable def cmpV (op:CmpOp) (a b:V) (σ:Store):Option Bool:=match op with
 | .Eq => eqV σ a b
 | .NotEq => (eqV σ a b).map (!·)
 | .Lt => ob2 intO a b (fun x y => some (decide (x < y))) none
 | .LtE => ob2 intO a b (fun x y => some (decide (x <= y))) (ob2 strO a b (fun x y => some (!strLt y x)) none)
 | .Gt => ob2 intO a b (fun x y => some (decide (y < x))) none
 | .GtE => ob2 intO a b (fun x y => some (decide (y <= x))) none
 | .Is => isV a b
 | .IsNot => (isV a b).map (!·)
 | .In => inV σ a b
 | .NotIn => (inV σ a b).map (!·)
noncomputable def binV (op:Operator) (a b:V) (σ:Store):Option V:=match op with
 | .Add => ob2 intO a b (fun x y => some (.int (x + y)))
     (ob2 strO a b (fun x y => if x.length + y.length <= lim then some (.str (x ++ y)) else none)
       (ob2 (asList σ) a b (fun x y => if x.length + y.length <= lim then some (.lst (x ++ y)) else none) none))
 | .Sub => ob2 intO a b (fun x y => some (.int (x - y))) none
 | .Mult => ob2 intO a b (fun x y => if x.natAbs < 1000000 ∧ y.natAbs < 1000000 then some (.int (x * y)) else none) none
 | .Mod => ob2 intO a b (fun x y => if 0 < y then some (.int (x.fmod y)) else none) none
 | .FloorDiv => ob2 intO a b (fun x y => if 0 < y ∧ y.natAbs < 1000000000 then some (.int (x.fdiv y)) else none) none
 | _ => none
noncomputable def augV (op:Operator) (a b:V) (_:Store):Option V:=match op with
 | .Sub => ob2 intO a b (fun x y => some (.int (x - y))) none
 | _ => none
noncomputable def idx (i:Int) (n:Nat):Option Nat :=
 if 0 <= i then (if i.toNat < n then some i.toNat else none)
 else if 0 <= i + n then some (i + n).toNat else none
noncomputable def itemV (o i:V) (σ:Store):Option V :=
 ob (strO o) (fun s => ob (intO i) (fun k => ob (idx k s.length) (fun j => some (.str ⟨#[s.cps.getD j 0]⟩)) none) none)
   (ob (dictO σ o) (fun es => ob (strO i) (fun x => lk x es) none)
     (ob (intO i) (fun k => ob (asSeq σ o) (fun vs => ob (idx k vs.length) (fun j => vs[j]?) none) none) none))
noncomputable def sliceL {α:Type} (lo hi:Option Int) (l:List α):List α :=
 (l.drop (lo.elim 0 (clipAt l.length))).take (hi.elim l.length (clipAt l.length) - lo.elim 0 (clipAt l.length))
noncomputable def stepL {α:Type} (lo hi:Option Int) (k:Int) (l:List α):List α :=
 (sliceRange (sliceBounds lo hi (some k) l.length).1 (sliceBounds lo hi (some k) l.length).2.1 (sliceBounds lo hi (some k) l.length).2.2).filterMap (l[·]?)
noncomputable def optInt (o:Option V):Option (Option Int):=ob o (fun v => ob (intO v) (fun i => some (some i)) none) (some none)
noncomputable def sOk (s:Str):Bool:=s.cps.all (· < 0x110000)
noncomputable def sliceS (s:Str) (a b:Option Int):Option V :=
 if ((Builtin.Str.strSliceIndices a b 1 s.length).filterMap (s.cps[·]?)).length <= lim ∧ sOk ⟨((Builtin.Str.strSliceIndices a b 1 s.length).filterMap (s.cps[·]?)).toArray⟩ = true ∧
   ((Builtin.Str.strSliceIndices a b 1 s.length).length = s.length -> (Builtin.Str.strSliceIndices a b 1 s.length).filterMap (s.cps[·]?) = s.cps.toList) then
   some (.str ⟨((Builtin.Str.strSliceIndices a b 1 s.length).filterMap (s.cps[·]?)).toArray⟩) else none
noncomputable def sliceV (o:V) (lo hi:Option V) (σ:Store):Option V:=ob (optInt lo) (fun a => ob (optInt hi) (fun b =>
 ob (strO o) (fun s => sliceS s a b) (ob (asList σ o) (fun vs => some (.lst (sliceL a b vs))) none)) none) none
noncomputable def stepV (o:V) (lo hi:Option V) (st:V) (σ:Store):Option V:=ob (optInt lo) (fun a => ob (optInt hi) (fun b =>
 ob (intO st) (fun k => ob (asList σ o) (fun vs => if k ≠ 0 then some (.lst (stepL a b k vs)) else none) none) none) none) none
noncomputable def isT:V -> Option Bool
 | .bool b => some b
 | .none => some false
 | _ => none
noncomputable def rngO:V -> Option (Int × Int × Int)
 | .rng a b c => some (a,b,c)
 | _ => none
noncomputable def drawV (o:V) (k:Nat) (σ:Store):Option (Option V) :=
 ob (strO o) (fun s => some (if k < s.cps.size then some (.str ⟨#[s.cps.getD k 0]⟩) else none))
   (ob (rngO o) (fun r => if 0 < r.2.2 then some (if r.1 + (k:Int) * r.2.2 < r.2.1 then some (.int (r.1 + (k:Int) * r.2.2)) else none) else none)
     (ob (asList σ o) (fun vs => some vs[k]?) none))
inductive Fl where
 | next (fr:Fr) | ret (v:V)
noncomputable def mkList (P:Prog) (pos:Pos) (vs:List V):M V:=fun σ => if vs.length <= lim then (match P.site pos.line pos.col with
 | some r => match σ[r]? with
   | some l => some (.ref r l.length,σ.add r (.list vs))
   | none => none
 | none => some (.lst vs,σ)) else none
noncomputable def one:List V -> Option V
 | [a] => some a
 | _ => none
noncomputable def two {α:Type}:List α -> Option (α × α)
 | [a,b] => some (a,b)
 | _ => none
noncomputable def rangeV:List Int -> Option V
 | [b] => if b.natAbs <= lim then some (.rng 0 b 1) else none
 | [a,b] => if a.natAbs <= lim ∧ b.natAbs <= lim then some (.rng a b 1) else none
 | [a,b,c] => if a.natAbs <= lim ∧ b.natAbs <= lim ∧ 0 < c ∧ c <= lim then some (.rng a b c) else none
 | _ => none
noncomputable def bV (n:Bi) (σ:Store) (args:List V):Option V:=match n with
 | .len => ob (one args) (fun a => ob (strO a) (fun s => some (.int s.length)) (ob (asSeq σ a) (fun vs => some (.int vs.length)) none)) none
 | .range => ob (intsOf args) rangeV none
 | .ord => ob (one args) (fun a => ob (strO a) (fun s => if s.length = 1 then some (.int (s.cps.getD 0 0:Nat)) else none) none) none
 | .chr => ob (one args) (fun a => ob (intO a) (fun i => if 0 <= i ∧ i < 0x110000 then some (.str ⟨#[i.toNat]⟩) else none) none) none
 | .list => ob (one args) (fun a => ob (strO a) (fun s => some (.lst (s.cps.toList.map fun c => .str ⟨#[c]⟩))) (ob (asList σ a) (fun vs => some (.lst vs)) none)) none
 | .tuple => ob (one args) (fun a => ob (asList σ a) (fun vs => some (.tup vs)) none) none
noncomputable def builtinV (n:Bi) (args:List V):M V:=look fun σ => bV n σ args
noncomputable def joinS (ss:List Str):Str:=⟨(ss.map (·.cps.toList)).flatten.toArray⟩
inductive MK where
 | bi (id:Mi) | fn (f:Addr)
noncomputable def strM (x:Str):Option Mi:=if x == "join" then some .join else if x == "find" then some .find else if x == "replace" then some .replace else none
noncomputable def listM (x:Str):Option Mi:=if x == "append" then some .append else if x == "extend" then some .extend else if x == "pop" then some .pop else none
noncomputable def dictM (x:Str):Option Mi:=if x == "get" then some .get else if x == "update" then some .update else none
noncomputable def updD (es fs:List (Str × V)):List (Str × V):=fs.foldl (fun es p => setK p.1 p.2 es) es
noncomputable def mV (id:Mi) (o:V) (args:List V) (σ:Store):Option (V × Store):=match id with
 | .join => ob (strO o) (fun s => ob (one args) (fun v => ob (asList σ v) (fun vs => ob (strsOf vs) (fun l => if (l.map (·.length)).sum <= lim ∧ l.length <= 1000 ∧ s.length = 0 then some (.str (joinS l),σ) else none) none) none) none) none
 | .find => ob (strO o) (fun s => ob (one args) (fun v => ob (strO v) (fun x => some (.int (Txt.find s x),σ)) none) none) none
 | .replace => none
 | .append => ob (lref σ o) (fun z => ob (one args) (fun v => if z.2.2.length < lim then some (.none,σ.put z.1 z.2.1 (.list (z.2.2 ++ [v]))) else none) none) none
 | .extend => ob (lref σ o) (fun z => ob (one args) (fun v => ob (asList σ v) (fun ws => if z.2.2.length + ws.length < lim then some (.none,σ.put z.1 z.2.1 (.list (z.2.2 ++ ws))) else none) none) none) none
 | .pop => ob (lref σ o) (fun z => if args.isEmpty then ob z.2.2.getLast? (fun x => some (x,σ.put z.1 z.2.1 (.list z.2.2.dropLast))) none else none) none
 | .get => ob (dref σ o) (fun z => ob (two args) (fun a => ob (strO a.1) (fun x => some ((lk x z.2.2).getD a.2,σ)) none) none) none
 | .update => ob (dref σ o) (fun z => ob (one args) (fun v => ob (dref σ v) (fun y => if z.2.2.length + y.2.2.length < lim ∧ (z.1 ≠ y.1 ∨ z.2.1 ≠ y.2.1) then some (.none,σ.put z.1 z.2.1 (.dict (updD z.2.2 y.2.2))) else none) none) none) none
noncomputable def methV (id:Mi) (o:V) (args:List V):M V:=fun σ => mV id o args σ
noncomputable def biName (x:Str):Option Bi:=if x == "len" then some .len else if x == "range" then some .range else if x == "list" then some .list
 else if x == "tuple" then some .tuple else if x == "ord" then some .ord else if x == "chr" then some .chr else none
section
variable (P:Prog) (call:CC) (sc:Scope)
noncomputable def nameO (fr:Fr) (x:Str):Option V:=match lk x fr with
 | some v => some v
 | none => match sc.names.lookup x with
   | some .globalImplicit => match lk x P.globs with
     | some a => some (.fn a)
     | none => (biName x).map .bi
   | _ => none
noncomputable def nameV (fr:Fr) (x:Str):M V:=lift (nameO P sc fr x)
noncomputable def applyV (f:V) (args:List V):M V:=match f with
 | .bi n => builtinV n args
 | .fn a => match lkN a P.clss with
   | some c => fun σ => match σ[c.region]? with
     | some l => bnd (call c.init (.ref c.region l.length :: args)) (fun | .none => ret (.ref c.region l.length) | _ => fail) (σ.add c.region (.inst a []))
     | none => none
   | none => call a args
 | _ => fail
noncomputable def instO (σ:Store) (o:V):Option (Nat × Nat × Addr × List (Str × V) × Cls):=ob (objO σ o) (fun z => ob (instB z.2.2) (fun c => ob (lkN c.1 P.clss) (fun k => some (z.1,z.2.1,c.1,c.2,k)) none) none) none
noncomputable def attrO (o:V) (x:Str) (σ:Store):Option V:=ob (instO P σ o) (fun z => if z.2.2.2.2.attrs.contains x then lk x z.2.2.2.1 else none) none
noncomputable def attrV (o:V) (x:Str):M V:=look (attrO P o x)
noncomputable def setAttrV (o:V) (x:Str) (v:V):M Unit:=fun σ => ob (instO P σ o) (fun z => if z.2.2.2.2.attrs.contains x && decide (z.2.2.2.1.length < 100) then some ((),σ.put z.1 z.2.1 (.inst z.2.2.1 (setK x v z.2.2.2.1))) else none) none
noncomputable def setItemV (o k v:V):M Unit:=fun σ => ob (strO k)
 (fun x => ob (dref σ o) (fun z => if z.2.2.length < lim then some ((),σ.put z.1 z.2.1 (.dict (setK x v z.2.2))) else none) none)
 (ob (intO k) (fun j => ob (lref σ o) (fun z => ob (idx j z.2.2.length) (fun m => some ((),σ.put z.1 z.2.1 (.list (z.2.2.set m v)))) none) none) none)
noncomputable def methK (o:V) (x:Str) (σ:Store):Option MK:=ob (strO o) (fun w0 => (strM x).map .bi) (ob (lref σ o) (fun w0 => (listM x).map .bi) (ob (dref σ o) (fun w0 => (dictM x).map .bi)
 (ob (instO P σ o) (fun z => ob (lk x z.2.2.2.2.meths) (fun f => ob (lk x z.2.2.2.1) (fun w0 => none) (some (.fn f))) none) none)))
noncomputable def methodV (k:MK) (o:V) (args:List V):M V:=match k with
 | .fn f => call f (o :: args)
 | .bi id => methV id o args
noncomputable def isRepl:MK -> Bool
 | .bi id => match id with
   | .replace => true
   | _ => false
 | _ => false
noncomputable def constV:Const -> M V
 | .none => ret .none
 | .bool b => ret (.bool b)
 | .int i => ret (.int i)
 | .str s => if s.cps.all (· < 0x110000) ∧ s.length <= lim then ret (.str s) else fail
 | _ => fail
noncomputable def mkDict (P:Prog) (pos:Pos) (es:List (Str × V)):M V:=fun σ => match P.site pos.line pos.col with
 | some r => match σ[r]? with
   | some l => some (.ref r l.length,σ.add r (.dict (updD [] es)))
   | none => none
 | none => none
noncomputable def compK (o:V) (elt:V -> M V) (test:V -> M Bool):Nat -> Nat -> List V -> M V
 | 0,_,_ => fail
 | n + 1,k,acc => bnd (look (drawV o k)) fun r => ob r (fun v => bnd (test v) fun b =>
     if b then bnd (elt v) fun w => if acc.length < lim then compK o elt test n (k + 1) (acc ++ [w]) else fail
     else compK o elt test n (k + 1) acc) (ret (.lst acc))
noncomputable def plainBase:Expr -> Bool
 | .Call (.Name ..) .. => false
 | _ => true
noncomputable def cstS:Expr -> Option Str
 | .Constant c _ _ => match c with
   | .str a => some a
   | _ => none
 | _ => none
noncomputable def replV (o:V) (args:List Expr):M V:=ob (strO o) (fun s => ob (two args) (fun p => ob (cstS p.1) (fun a => ob (cstS p.2) (fun b =>
   if b.length <= 14 ∧ (a == b) = false ∧ (Txt.replace s a b).cps.all (· < 0x110000) = true ∧ (Txt.replace s a b).length <= lim then ret (.str (Txt.replace s a b)) else fail) fail) fail) fail) fail
noncomputable def callOk (o:Expr) (args:List Expr) (ap p:Pos):Bool:=plainBase o && decide (args.length < 20) && (ap.endLine == p.line)
noncomputable def compFr (scope:Scope) (fr:Fr):Fr:=fr.filter fun p => scope.names.lookup p.1 == some NameKind.free
noncomputable def notSet:Expr -> Bool
 | .Set .. => false
 | _ => true
noncomputable def negV:V -> Option V
 | .int i => some (.int (-i))
 | _ => none
noncomputable def compOk (sc scope:Scope) (x:Str):Bool:=scope.kind == .function && (x != (Y ".0")) && scope.names.lookup x == some .local && scope.names.all fun p => (p.1 != (Y "__debug__")) && (p.1 != (Y "__classdict__")) &&
 (match p.2 with
   | .local => p.1 == x || (p.1 == (Y ".0") && scope.names.lookup (Y ".0") == some .local)
   | .free => sc.names.lookup p.1 == some .cell && p.1 != x
   | .globalImplicit => p.1 != x
   | _ => false)
noncomputable def genV:List Comprehension -> Option (Str × Expr × List Expr)
 | [⟨.Name x _,iter,ifs,0⟩] => some (x,iter,ifs)
 | _ => none
noncomputable abbrev Shp:=CmpOp × Expr × Option (CmpOp × Expr)
noncomputable def shpV:List CmpOp -> List Expr -> Option Shp
 | [op],[r] => some (op,r,none)
 | [op₁,op₂],[r₁,r₂] => some (op₁,r₁,some (op₂,r₂))
 | _,_ => none
inductive Cal where
 | m (o:Expr) (x:Str) (ap:Pos) | n (f:Str) (q:Pos) | bad
noncomputable abbrev calB {β:Type} (c:Cal) (f:Expr -> Str -> Pos -> β) (g:Str -> Pos -> β) (z:β):β:=match c with
 | .m o x ap => f o x ap
 | .n h q => g h q
 | .bad => z
noncomputable def calV:Expr -> List Keyword -> Cal
 | .Attribute o x ap,[] => .m o x ap
 | .Name f q,[] => .n f q
 | _,_ => .bad
noncomputable def slcV:Expr -> Option (Option Expr × Option Expr × Option Expr)
 | .Slice lo hi st _ => some (lo,hi,st)
 | _ => none
inductive Tst where
 | no (e:Expr) | bool (op:BoolOp) (es:List Expr) | cmp (l:Expr) (d:Shp) | plain | bad
noncomputable abbrev tstB {β:Type} (t:Tst) (f:Expr -> β) (g:BoolOp -> List Expr -> β) (h:Expr -> Shp -> β) (p z:β):β:=match t with
 | .no e => f e
 | .bool op es => g op es
 | .cmp l d => h l d
 | .plain => p
 | .bad => z
noncomputable def tstV:Expr -> Tst
 | .UnaryOp op e _ => match op with
   | .Not => .no e
   | _ => .bad
 | .BoolOp op es _ => .bool op es
 | .IfExp .. => .bad
 | .Compare l ops rs _ => match shpV ops rs with
   | some d => .cmp l d
   | none => .bad
 | _ => .plain
inductive Tgt where
 | tup (ts:List Expr) | one (t:Expr) | bad
noncomputable abbrev tgtB {β:Type} (t:Tgt) (f:List Expr -> β) (g:Expr -> β) (z:β):β:=match t with
 | .tup ts => f ts
 | .one t => g t
 | .bad => z
noncomputable def tgtV:List Expr -> Tgt
 | [t] => match t with
   | .Tuple ts _ _ => .tup ts
   | .List .. => .bad
   | .Starred .. => .bad
   | t => .one t
 | _ => .bad
noncomputable def augT:Expr -> Option (Expr × Str)
 | .Attribute o x _ => some (o,x)
 | _ => none
noncomputable def goOn (k:Fr -> M Fl):Fl -> M Fl
 | .next fr => k fr
 | .ret v => ret (.ret v)
noncomputable def setOk (sc:Scope) (x:Str):Bool:=match sc.names.lookup x with
 | some .local => true
 | some .cell => true
 | _ => false
noncomputable def forV:Expr -> List Stmt -> Option Str
 | .Name x _,[] => some x
 | _,_ => none
noncomputable abbrev ifsE (t:Fr -> Expr -> M Bool) (ifs:List Expr) (fr:Fr):M Bool:=match ifs with
 | [] => ret true
 | [c] => t fr c
 | _ => fail
mutual
noncomputable def evalE:Nat -> Scope -> Fr -> Expr -> M V
 | 0,_,_,_ => fail
 | n + 1,sc,fr,e => match e with
   | .Constant c _ _ => constV c
   | .Name x _ => nameV P sc fr x
   | .BoolOp op es _ => boolE n sc fr op es
   | .BinOp l op r _ => bnd (evalE n sc fr l) fun a => bnd (evalE n sc fr r) fun b => look (binV op a b)
   | .UnaryOp op e _ => match op with
     | .Not => bnd (evalE n sc fr e) fun a => bnd (lift (isT a)) fun b => ret (.bool (!b))
     | .USub => bnd (evalE n sc fr e) fun a => lift (negV a)
     | _ => fail
   | .IfExp t a b _ => bnd (testE n sc fr t) fun c => if c then evalE n sc fr a else evalE n sc fr b
   | .Dict ks vs pos => if ks.length <= 15 ∧ 0 < ks.length then bnd (pairsE n sc fr ks vs) fun es => mkDict P pos es else fail
   | .List es pos => bnd (evalEs n sc fr es) fun vs => mkList P pos vs
   | .Tuple es _ _ => bnd (evalEs n sc fr es) fun vs => if vs.length <= lim then ret (.tup vs) else fail
   | .ListComp elt gens scope _ => bnd (lift (genV gens)) fun d => if notSet d.2.1 && compOk sc scope d.1 then bnd (evalE n sc fr d.2.1) fun o =>
       compK o (fun v => evalE n scope (setK d.1 v (compFr scope fr)) elt) (fun v => ifsE (fun fr' c => testE n scope fr' c) d.2.2 (setK d.1 v (compFr scope fr))) 200 0 [] else fail
   | .Compare l ops rs _ => bnd (lift (shpV ops rs)) fun s => bnd (evalE n sc fr l) fun a => bnd (evalE n sc fr s.2.1) fun b => bnd (look (cmpV s.1 a b)) fun c => ob s.2.2
     (fun t => if c then (if notSet t.2 then bnd (evalE n sc fr t.2) fun d => bnd (look (cmpV t.1 b d)) fun e => ret (.bool e) else fail) else (if notSet t.2 then ret (.bool false) else fail)) (ret (.bool c))
   | .Call f args kws p => calB (calV f kws)
     (fun o x ap => if callOk o args ap p then bnd (evalE n sc fr o) fun ov =>
       bnd (look (methK P ov x)) fun k => if isRepl k then replV ov args else bnd (evalEs n sc fr args) fun as => methodV call k ov as else fail)
     (fun f q => if decide (args.length < 20) then bnd (evalE n sc fr (.Name f q)) fun fv => bnd (evalEs n sc fr args) fun as => applyV P call fv as else fail) fail
   | .Attribute o x _ => if plainBase o then bnd (evalE n sc fr o) fun ov => attrV P ov x else fail
   | .Subscript o i _ => ob (slcV i) (fun s => bnd (evalE n sc fr o) fun ov => bnd (optE n sc fr s.1) fun a => bnd (optE n sc fr s.2.1) fun b => ob s.2.2
       (fun st => bnd (evalE n sc fr st) fun c => look (stepV ov a b c)) (look (sliceV ov a b)))
     (bnd (evalE n sc fr o) fun ov => bnd (evalE n sc fr i) fun iv => look (itemV ov iv))
   | _ => fail

noncomputable def optE:Nat -> Scope -> Fr -> Option Expr -> M (Option V)
 | 0,_,_,_ => fail
 | _ + 1,_,_,none => ret none
 | n + 1,sc,fr,some e => bnd (evalE n sc fr e) fun v => ret (some v)

noncomputable def evalEs:Nat -> Scope -> Fr -> List Expr -> M (List V)
 | 0,_,_,_ => fail
 | _ + 1,_,_,[] => ret []
 | n + 1,sc,fr,e :: r => bnd (evalE n sc fr e) fun v => bnd (evalEs n sc fr r) fun vs => ret (v :: vs)

noncomputable def pairsE:Nat -> Scope -> Fr -> List (Option Expr) -> List Expr -> M (List (Str × V))
 | 0,_,_,_,_ => fail
 | _ + 1,_,_,[],[] => ret []
 | n + 1,sc,fr,some k :: ks,e :: r => bnd (evalE n sc fr k) fun
   | .str x => bnd (evalE n sc fr e) fun v => bnd (pairsE n sc fr ks r) fun vs => ret ((x,v) :: vs)
   | _ => fail
 | _ + 1,_,_,_,_ => fail

noncomputable def boolE:Nat -> Scope -> Fr -> BoolOp -> List Expr -> M V
 | 0,_,_,_,_ => fail
 | n + 1,sc,fr,_,[e] => evalE n sc fr e
 | n + 1,sc,fr,op,e :: r => bnd (evalE n sc fr e) fun v => bnd (lift (isT v)) fun b => match op,b with
   | .And,false => ret v
   | .Or,true => ret v
   | _,_ => boolE n sc fr op r
 | _ + 1,_,_,_,_ => fail

noncomputable def testE:Nat -> Scope -> Fr -> Expr -> M Bool
 | 0,_,_,_ => fail
 | n + 1,sc,fr,e => tstB (tstV e) (fun e => bnd (testE n sc fr e) fun b => ret (!b)) (fun op es => testsE n sc fr op es)
   (fun l s => bnd (evalE n sc fr l) fun a => bnd (evalE n sc fr s.2.1) fun b => bnd (look (cmpV s.1 a b)) fun c => ob s.2.2
     (fun t => if c then (if notSet t.2 then bnd (evalE n sc fr t.2) fun d => look (cmpV t.1 b d) else fail) else (if notSet t.2 then ret false else fail)) (ret c))
   (bnd (evalE n sc fr e) fun v => lift (isT v)) fail

noncomputable def testsE:Nat -> Scope -> Fr -> BoolOp -> List Expr -> M Bool
 | 0,_,_,_,_ => fail
 | _ + 1,_,_,op,[] => ret (op == .And)
 | n + 1,sc,fr,op,e :: r => bnd (testE n sc fr e) fun b => match op,b with
   | .And,false => ret false
   | .Or,true => ret true
   | _,_ => testsE n sc fr op r
end
noncomputable def setVar (x:Str) (v:V) (fr:Fr):M Fr:=if setOk sc x then ret (setK x v fr) else fail
noncomputable def assignE (n:Nat) (fr:Fr) (v:V) (t:Expr):M Fr:=match t with
 | .Name x _ => setVar sc x v fr
 | .Attribute o x _ => bnd (evalE P call n sc fr o) fun ov => bnd (setAttrV P ov x v) fun w0 => ret fr
 | .Subscript o i _ => bnd (evalE P call n sc fr o) fun ov => bnd (evalE P call n sc fr i) fun iv => bnd (setItemV ov iv v) fun w0 => ret fr
 | _ => fail
noncomputable def assignEs (n:Nat):Fr -> List V -> List Expr -> M Fr
 | fr,[],[] => ret fr
 | fr,v :: vs,t :: ts => bnd (assignE P call sc n fr v t) fun fr' => assignEs n fr' vs ts
 | _,_,_ => fail
noncomputable def loopW (test:Fr -> M Bool) (body:Fr -> M Fl):Nat -> Fr -> M Fl
 | 0,_ => fail
 | n + 1,fr => bnd (test fr) fun b => if b then bnd (body fr) (goOn fun fr' => loopW test body n fr') else ret (.next fr)
noncomputable def loopF (o:V) (set:V -> Fr -> M Fr) (body:Fr -> M Fl):Nat -> Nat -> Fr -> M Fl
 | 0,_,_ => fail
 | n + 1,k,fr => bnd (look (drawV o k)) fun r => ob r (fun v => bnd (set v fr) fun fr₁ => bnd (body fr₁) (goOn fun fr' => loopF o set body n (k + 1) fr')) (ret (.next fr))
noncomputable def tupOk (e:Expr):Bool:=match e with
 | .Tuple vs _ _ => !(vs.all (constantsAlone 8)) || vs.all (foldedForSure 8)
 | _ => true
noncomputable def notComp:Expr -> Bool
 | .ListComp .. => false
 | .SetComp .. => false
 | .DictComp .. => false
 | _ => true
noncomputable def tupV:V -> Option (List V)
 | .tup vs => some vs
 | _ => none
noncomputable def nameT:Expr -> Bool
 | .Name .. => true
 | _ => false
noncomputable def names:List Expr -> List Str
 | .Name x _ :: r => x :: names r
 | _ :: r => names r
 | [] => []
noncomputable def nodupB:List Str -> Bool
 | [] => true
 | x :: r => !(r.any (· == x)) && nodupB r
mutual
noncomputable def execS:Nat -> Fr -> Stmt -> M Fl
 | 0,_,_ => fail
 | n + 1,fr,s => match s with
   | .Expr e _ => if notComp e then bnd (evalE P call n sc fr e) fun w0 => ret (.next fr) else fail
   | .Pass _ => ret (.next fr)
   | .Return e _ => match e with
     | some e => bnd (evalE P call n sc fr e) fun v => ret (.ret v)
     | none => ret (.ret .none)
   | .Assign ts e _ => tgtB (tgtV ts)
     (fun ts => if tupOk e && nodupB (names ts) && decide (ts.length < 20) then bnd (evalE P call n sc fr e) fun v => bnd (lift (tupV v)) fun vs => bnd (assignEs P call sc n fr vs ts) fun fr' => ret (.next fr') else fail)
     (fun t => bnd (evalE P call n sc fr e) fun v => bnd (assignE P call sc n fr v t) fun fr' => ret (.next fr')) fail
   | .AugAssign t op e _ => ob (augT t) (fun z => bnd (evalE P call n sc fr z.1) fun ov => bnd (attrV P ov z.2) fun a => bnd (evalE P call n sc fr e) fun b =>
       bnd (look (augV op a b)) fun v => bnd (setAttrV P ov z.2 v) fun w0 => ret (.next fr)) fail
   | .If t a b _ => bnd (testE P call n sc fr t) fun c => if c then execSs n fr a else execSs n fr b
   | .While t a b _ => match b with
     | [] => loopW (fun fr => testE P call n sc fr t) (fun fr => execSs n fr a) 5000 fr
     | _ => fail
   | .For t it a b _ => ob (forV t b) (fun x => if notSet it then bnd (evalE P call n sc fr it) fun o => loopF o (fun v fr => setVar sc x v fr) (fun fr => execSs n fr a) 5000 0 fr else fail) fail
   | _ => fail
noncomputable def execSs:Nat -> Fr -> List Stmt -> M Fl
 | 0,_,_ => fail
 | n + 1,fr,ss => match ss with
   | [] => ret (.next fr)
   | s :: r => bnd (execS n fr s) (goOn fun fr' => execSs n fr' r)
end
end
noncomputable def bindP:List Str -> List V -> List V -> Option Fr
 | [],[],_ => some []
 | p :: ps,v :: vs,ds => match bindP ps vs ds with
   | some fr => some ((p,v) :: fr)
   | none => none
 | p :: ps,[],ds => match ds.drop (ds.length - (ps.length + 1)) with
   | d :: _ => if ps.length < ds.length then (match bindP ps [] ds with
     | some fr => some ((p,d) :: fr)
     | none => none) else none
   | [] => none
 | [],_ :: _,_ => none
noncomputable def callD (P:Prog):Nat -> CC
 | 0,_,_ => fail
 | d + 1,a,args => match lkN a P.fns with
   | some f => match bindP f.params args f.dflts with
     | some fr => bnd (execSs P (callD P d) f.scope 60 fr f.body) fun
       | .ret v => ret v
       | .next _ => ret .none
     | none => fail
   | none => fail
end Mine
end
section
open PySem PySem.Calls PyProof.Rows PySem.W
namespace Mine
structure Gh where
 ρ:Nat -> Nat -> Option (Addr × Addr)
 Z:Addr -> Prop
noncomputable def Gh.St (g:Gh) (b:Addr):Prop:=∃ r i a,g.ρ r i = some (a,b)
noncomputable def biVal:Bi -> Value
 | .len => .builtin "len" | .ord => .builtin "ord" | .chr => .builtin "chr"
 | .range => .type "range" | .list => .type "list" | .tuple => .type "tuple"
noncomputable abbrev lo (its:Array Value) (n:Nat):Obj:={ cls:=.type "list",data:=.seq its n }
noncomputable abbrev tpo (its:Array Value) (n:Nat):Obj:={ cls:=.type "tuple",data:=.seq its n }
mutual
noncomputable def VR (g:Gh) (h:Heap):V -> Value -> Prop
 | .none,u => u = .none
 | .bool b,u => u = .bool b
 | .int i,u => ∃ t,u = .int i t
 | .str s,u => ∃ t,u = .str s t ∧ sOk s = true ∧ s.length <= lim
 | .tup vs,u => ∃ a its n,u = .ref a ∧ h.get? a = some (tpo its n) ∧ ¬ g.Z a ∧ VRs g h vs its.toList ∧ vs.length <= lim
 | .lst vs,u => ∃ a its n,u = .ref a ∧ h.get? a = some (lo its n) ∧ ¬ g.Z a ∧ VRs g h vs its.toList ∧ vs.length <= lim
 | .rng a b c,u => ∃ r t1 t2 t3,u = .ref r ∧ IsRange h r a b c t1 t2 t3 ∧ ¬ g.Z r ∧ a.natAbs <= lim ∧ b.natAbs <= lim ∧ 0 < c ∧ c <= lim
 | .ref r i,u => ∃ a d,u = .ref a ∧ g.ρ r i = some (a,d)
 | .fn a,u => u = .ref a
 | .bi n,u => u = biVal n
noncomputable def VRs (g:Gh) (h:Heap):List V -> List Value -> Prop
 | [],us => us = []
 | v :: vs,us => ∃ u r,us = u :: r ∧ VR g h v u ∧ VRs g h vs r
end
noncomputable def ER (g:Gh) (h:Heap):List (Str × V) -> List DictEntry -> Prop
 | [],l => l = []
 | (x,v) :: es,l => ∃ e r,l = e :: r ∧ (∃ t,e.key = .str x t) ∧ VR g h v e.val ∧ ER g h es r
noncomputable def PR (g:Gh) (h:Heap):List (Str × V) -> List (Str × Value) -> Prop
 | [],l => l = []
 | (x,v) :: es,l => ∃ u r,l = (x,u) :: r ∧ VR g h v u ∧ PR g h es r
structure Cx where
 prog:Program
 w:World
 B:Heap
 K:Frag
 P:Prog
 big:∃ b,sysModules < b ∧ B.get? b ≠ none
noncomputable def OR (C:Cx) (g:Gh) (h:Heap) (o:Ob) (a d:Addr):Prop:=match o with
 | .list vs => a = d ∧ ∃ its n,h.get? d = some (lo its n) ∧ VRs g h vs its.toList ∧ vs.length <= lim
 | .dict es => a = d ∧ ∃ l,h.DictOf (strKind C.prog C.w) d l ∧ PR g h es l ∧ es.length <= lim
 | .inst c es => h.get? a = some (instObj c d) ∧ ¬ g.Z a ∧ ∃ l n,h.get? d = some (dictOf l n) ∧ ER g h es l ∧ es.length <= 100
structure Rel (C:Cx) (g:Gh) (σ:Store) (h:Heap):Prop where
 base:∀ b o,C.B.get? b = some o -> h.get? b = some o
 zb:∀ a,g.Z a -> C.B.get? a = none ∧ sysModules < a
 zh:∀ a,g.Z a -> h.get? a ≠ none
 st:∀ b,g.St b -> g.Z b
 dom:∀ r i,σ.get r i = none -> g.ρ r i = none
 obj:∀ r i o,σ.get r i = some o -> ∃ a d,g.ρ r i = some (a,d) ∧ OR C g h o a d
 inj:∀ r i r' i' a a' d,g.ρ r i = some (a,d) -> g.ρ r' i' = some (a',d) -> r = r' ∧ i = i'
structure Tr (W:Addr -> Prop) (g:Gh) (s:Shared) (g':Gh) (s':Shared):Prop where
 grow:∀ r i x,g.ρ r i = some x -> g'.ρ r i = some x
 keep:∀ b o,s.heap.get? b = some o -> ¬ g.St b -> ¬ W b -> s'.heap.get? b = some o
 zz:∀ a,s.heap.get? a ≠ none -> ¬ W a -> g'.Z a -> g.Z a
 zk:∀ a,g.Z a -> g'.Z a
 live:∀ a,s.heap.get? a ≠ none -> ¬ W a -> s'.heap.get? a ≠ none
 fresh:∀ b,g'.St b -> ¬ g.St b -> s.heap.get? b = none ∨ W b
 gens:s'.gens = s.gens
 os:s'.os = s.os
theorem Tr.refl (W:Addr -> Prop) (g:Gh) (s:Shared):Tr W g s g s :=
 ⟨fun w0 w0 w0 e => e,fun w0 w0 e w0 w0 => e,fun w0 w0 w0 z => z,fun w0 z => z,fun w0 e w0 => e,fun w0 a b => absurd a b,rfl,rfl⟩
theorem Uaf {h:Heap} {b:Addr} {o:Obj} (e:h.get? b = some o):h.get? b ≠ none:=by rw [e]; exact Option.some_ne_none _
theorem Tr.trans {W:Addr -> Prop} {g₁ g₂ g₃:Gh} {s₁ s₂ s₃:Shared} (x:Tr W g₁ s₁ g₂ s₂) (y:Tr W g₂ s₂ g₃ s₃):Tr W g₁ s₁ g₃ s₃ where
 grow:=fun r i p e => y.grow _ _ _ (x.grow _ _ _ e)
 keep:=fun b o e h w => by
   refine y.keep b o (x.keep b o e h w) (fun q => ?_) w
   rcases x.fresh b q h with z | z
   · rw [e] at z; cases z
   · exact w z
 zz:=fun a l w z => x.zz a l w (y.zz a (x.live a l w) w z)
 zk:=fun a z => y.zk a (x.zk a z)
 live:=fun a l w => y.live a (x.live a l w) w
 fresh:=fun b p q => by
   by_cases m:g₂.St b
   · exact x.fresh b m q
   · rcases y.fresh b p m with z | z
     · by_cases w:W b
       · exact .inr w
       · refine .inl ?_
         by_cases l:s₁.heap.get? b = none
         · exact l
         · exact absurd z (x.live b l w)
     · exact .inr z
 gens:=y.gens.trans x.gens
 os:=y.os.trans x.os
theorem Tr.weak {W W':Addr -> Prop} {g g':Gh} {s s':Shared} (x:Tr W g s g' s') (h:∀ b,s.heap.get? b ≠ none -> W b -> W' b):Tr W' g s g' s' :=
 { x with
   keep:=fun b o e p w => x.keep b o e p fun q => w (h b (Uaf e) q)
   zz:=fun a l w z => x.zz a l (fun q => w (h a l q)) z
   live:=fun a l w => x.live a l fun q => w (h a l q)
   fresh:=fun b p q => by
     rcases x.fresh b p q with z | z
     · exact .inl z
     · by_cases l:s.heap.get? b = none
       · exact .inl l
       · exact .inr (h b l z) }
theorem Tr.none {W:Addr -> Prop} {g g':Gh} {s s':Shared} (x:Tr (fun w0 => False) g s g' s'):Tr W g s g' s':=x.weak fun w0 w0 q => q.elim
section
variable {W:Addr -> Prop} {g g':Gh} {s s':Shared}
theorem Tr.at_ (x:Tr W g s g' s') (hs:∀ b,g.St b -> g.Z b) (hw:∀ b,W b -> g.Z b) {a:Addr} {o:Obj} (e:s.heap.get? a = some o) (z:¬ g.Z a):s'.heap.get? a = some o :=
 x.keep a o e (fun q => z (hs a q)) fun q => z (hw a q)
theorem Tr.notZ (x:Tr W g s g' s') (hw:∀ b,W b -> g.Z b) {a:Addr} {o:Obj} (e:s.heap.get? a = some o) (z:¬ g.Z a):¬ g'.Z a :=
 fun q => z (x.zz a (Uaf e) (fun w => z (hw a w)) q)
structure Kp (g:Gh) (h:Heap) (g':Gh) (h':Heap):Prop where
 grow:∀ r i x,g.ρ r i = some x -> g'.ρ r i = some x
 at_:∀ a o,h.get? a = some o -> ¬ g.Z a -> h'.get? a = some o
 nz:∀ a o,h.get? a = some o -> ¬ g.Z a -> ¬ g'.Z a
theorem Tr.kp (x:Tr W g s g' s') (hs:∀ b,g.St b -> g.Z b) (hw:∀ b,W b -> g.Z b):Kp g s.heap g' s'.heap :=
 ⟨x.grow,fun w0 w0 e z => x.at_ hs hw e z,fun w0 w0 e z => x.notZ hw e z⟩
variable {h₀ h₁:Heap}
mutual
theorem VR.kp (x:Kp g h₀ g' h₁):∀ (v:V) {u:Value},VR g h₀ v u -> VR g' h₁ v u
 | .none,_,h => by simpa [VR] using h
 | .bool _,_,h => by simpa [VR] using h
 | .int _,_,h => by simpa [VR] using h
 | .str _,_,h => by simpa [VR] using h
 | .tup vs,_,h => by
   simp only [VR] at h ⊢
   refine xEEEAAAAA h fun a its n e ho z hv hl => ?_
   exact ⟨a,its,n,e,x.at_ _ _ ho z,x.nz _ _ ho z,VRs.kp x vs hv,hl⟩
 | .lst vs,_,h => by
   simp only [VR] at h ⊢
   refine xEEEAAAAA h fun a its n e ho z hv hl => ?_
   exact ⟨a,its,n,e,x.at_ _ _ ho z,x.nz _ _ ho z,VRs.kp x vs hv,hl⟩
 | .rng _ _ _,_,h => by
   simp only [VR] at h ⊢
   refine xEEEEAAAA h fun r t1 t2 t3 e ho z bd => ?_
   exact ⟨r,t1,t2,t3,e,x.at_ _ _ ho z,x.nz _ _ ho z,bd⟩
 | .ref _ _,_,h => by
   simp only [VR] at h ⊢
   refine xEEAA h fun a d e p => ?_
   exact ⟨a,d,e,x.grow _ _ _ p⟩
 | .fn _,_,h => by simpa [VR] using h
 | .bi _,_,h => by simpa [VR] using h
theorem VRs.kp (x:Kp g h₀ g' h₁):∀ (vs:List V) {us:List Value},VRs g h₀ vs us -> VRs g' h₁ vs us
 | [],_,h => by simpa [VRs] using h
 | v :: vs,_,h => by
   simp only [VRs] at h ⊢
   refine xEEAAA h fun u r e a b => ?_
   exact ⟨u,r,e,VR.kp x v a,VRs.kp x vs b⟩
end
theorem ER.kp (x:Kp g h₀ g' h₁):∀ (es:List (Str × V)) {l:List DictEntry},ER g h₀ es l -> ER g' h₁ es l
 | [],_,h => by simpa [ER] using h
 | (k,v) :: es,_,h => by
   simp only [ER] at h ⊢
   refine xEEAAAA h fun e r q a b c => ?_
   exact ⟨e,r,q,a,VR.kp x v b,ER.kp x es c⟩
theorem PR.kp (x:Kp g h₀ g' h₁):∀ (es:List (Str × V)) {l:List (Str × Value)},PR g h₀ es l -> PR g' h₁ es l
 | [],_,h => by simpa [PR] using h
 | (k,v) :: es,_,h => by
   simp only [PR] at h ⊢
   refine xEEAAA h fun e r q b c => ?_
   exact ⟨e,r,q,VR.kp x v b,PR.kp x es c⟩
end
section
variable {W:Addr -> Prop} {g g':Gh} {s s':Shared}
theorem VR.tr (x:Tr W g s g' s') (hs:∀ b,g.St b -> g.Z b) (hw:∀ b,W b -> g.Z b) (v:V) {u:Value} (h:VR g s.heap v u):VR g' s'.heap v u:=VR.kp (x.kp hs hw) v h
theorem VRs.tr (x:Tr W g s g' s') (hs:∀ b,g.St b -> g.Z b) (hw:∀ b,W b -> g.Z b) (v:List V) {u:List Value} (h:VRs g s.heap v u):VRs g' s'.heap v u:=VRs.kp (x.kp hs hw) v h
theorem ER.tr (x:Tr W g s g' s') (hs:∀ b,g.St b -> g.Z b) (hw:∀ b,W b -> g.Z b) (es:List (Str × V)) {l:List DictEntry} (h:ER g s.heap es l):ER g' s'.heap es l:=ER.kp (x.kp hs hw) es h
theorem PR.tr (x:Tr W g s g' s') (hs:∀ b,g.St b -> g.Z b) (hw:∀ b,W b -> g.Z b) (es:List (Str × V)) {l:List (Str × Value)} (h:PR g s.heap es l):PR g' s'.heap es l:=PR.kp (x.kp hs hw) es h
end
theorem VRs.len {g:Gh} {h:Heap}:∀ {vs:List V} {us:List Value},VRs g h vs us -> us.length = vs.length
 | [],_,e => by simp only [VRs] at e; rw [e]; rfl
 | v :: vs,_,e => by
   simp only [VRs] at e
   refine xEEAAA e fun u r qz1 w0 h => ?_; subst qz1
   simp [VRs.len h]
theorem VRs.get {g:Gh} {h:Heap}:∀ {vs:List V} {us:List Value},VRs g h vs us -> ∀ {i:Nat} {v:V},vs[i]? = some v -> ∃ u,us[i]? = some u ∧ VR g h v u
 | [],_,_,i,v,q => by simp at q
 | v :: vs,_,e,i,w,q => by
   simp only [VRs] at e
   refine xEEAAA e fun u r qz1 a h => ?_; subst qz1
   cases i with
   | zero => simp at q; subst q; exact ⟨u,rfl,a⟩
   | succ i => exact VRs.get h (by simpa using q)
theorem VRs.app {g:Gh} {h:Heap}:∀ {vs ws:List V} {us xs:List Value},VRs g h vs us -> VRs g h ws xs -> VRs g h (vs ++ ws) (us ++ xs)
 | [],_,_,_,e,f => by simp only [VRs] at e; subst e; exact f
 | v :: vs,_,_,_,e,f => by
   simp only [VRs] at e
   refine xEEAAA e fun u r qz1 a h => ?_; subst qz1
   simp only [List.cons_append,VRs]
   exact ⟨u,r ++ _,rfl,a,VRs.app h f⟩
theorem VRs.one {g:Gh} {h:Heap} {v:V} {u:Value} (e:VR g h v u):VRs g h [v] [u]:=by simp only [VRs]; exact ⟨u,[],rfl,e,rfl⟩
theorem VRs.take {g:Gh} {h:Heap}:∀ (n:Nat) {vs:List V} {us:List Value},VRs g h vs us -> VRs g h (vs.take n) (us.take n)
 | 0,_,_,_ => by simp [VRs]
 | n + 1,[],_,e => by simp only [VRs] at e; subst e; simp [VRs]
 | n + 1,v :: vs,_,e => by
   simp only [VRs] at e
   refine xEEAAA e fun u r qz1 a h => ?_; subst qz1
   simp only [List.take_succ_cons,VRs]
   exact ⟨u,_,rfl,a,VRs.take n h⟩
theorem VRs.drop {g:Gh} {h:Heap}:∀ (n:Nat) {vs:List V} {us:List Value},VRs g h vs us -> VRs g h (vs.drop n) (us.drop n)
 | 0,_,_,e => by simpa using e
 | n + 1,[],_,e => by simp only [VRs] at e; subst e; simp [VRs]
 | n + 1,v :: vs,_,e => by
   simp only [VRs] at e
   refine xEEAAA e fun u r qz1 a h => ?_; subst qz1
   simp only [List.drop_succ_cons]
   exact VRs.drop n h
theorem VRs.set {g:Gh} {h:Heap} {w:V} {x:Value} (q:VR g h w x):∀ (n:Nat) {vs:List V} {us:List Value},VRs g h vs us -> VRs g h (vs.set n w) (us.set n x)
 | _,[],_,e => by simp only [VRs] at e; subst e; simp [VRs]
 | 0,v :: vs,_,e => by
   simp only [VRs] at e
   refine xEEAAA e fun u r qz1 a h => ?_; subst qz1
   simp only [List.set_cons_zero,VRs]
   exact ⟨x,r,rfl,q,h⟩
 | n + 1,v :: vs,_,e => by
   simp only [VRs] at e
   refine xEEAAA e fun u r qz1 a h => ?_; subst qz1
   simp only [List.set_cons_succ,VRs]
   exact ⟨u,_,rfl,a,VRs.set q n h⟩
theorem Store.get_put {σ:Store} {r i:Nat} {o o':Ob} (h:σ.get r i = some o') (r' i':Nat):(σ.put r i o).get r' i' = if r' = r ∧ i' = i then some o else σ.get r' i':=by
 delta Store.get at h ⊢
 delta Store.put
 rw [List.getElem?_modify]
 split at h
 · rename_i l hl
   by_cases e:r = r'
   · subst e
     simp only [if_true,hl,Option.map_eq_map,Option.map_some,List.getElem?_set]
     have hi:i < l.length:=by
       rw [List.getElem?_eq_some_iff] at h
       exact h.1
     by_cases e':i = i'
     · subst e'; simp [hi]
     · have:¬ i' = i:=fun q => e' q.symm
       simp [e',this]
   · have:¬ r' = r:=fun q => e q.symm
     simp only [e,if_false,this,false_and]
     cases σ[r']? <;> rfl
 · cases h
theorem Store.get_add {σ:Store} {r:Nat} {l:List Ob} {o:Ob} (h:σ[r]? = some l) (r' i':Nat):(σ.add r o).get r' i' = if r' = r ∧ i' = l.length then some o else σ.get r' i':=by
 delta Store.get Store.add
 rw [List.getElem?_modify]
 by_cases e:r = r'
 · subst e
   simp only [if_true,h,Option.map_eq_map,Option.map_some,true_and]
   rw [List.getElem?_append]
   by_cases q:i' < l.length
   · have:¬ i' = l.length:=Nat.ne_of_lt q
     simp [q,this]
   · by_cases z:i' = l.length
     · subst z; simp
     · have h1:l.length < i':=by omega
       have h2:l[i']? = none:=List.getElem?_eq_none (by omega)
       simp only [q,if_false,z,h2]
       obtain ⟨k,hk⟩:∃ k,i' - l.length = k + 1:=⟨i' - l.length - 1,by omega⟩
       rw [hk]; simp
 · have:¬ r' = r:=fun q => e q.symm
   simp only [e,if_false,this,false_and]
   cases σ[r']? <;> rfl
theorem Store.get_end {σ:Store} {r:Nat} {l:List Ob} (h:σ[r]? = some l):σ.get r l.length = none:=by
 delta Store.get; rw [h]; simp
end Mine
end
section
open PySem PySem.Calls PyProof.Rows PySem.W
namespace Mine
theorem OR.tr {C:Cx} {W:Addr -> Prop} {g g':Gh} {s s':Shared} (x:Tr W g s g' s') (hs:∀ b,g.St b -> g.Z b) (hw:∀ b,W b -> g.Z b) {o:Ob} {a d:Addr}
   (hd:∀ ob,s.heap.get? d = some ob -> s'.heap.get? d = some ob) (h:OR C g s.heap o a d):OR C g' s'.heap o a d:=by
 cases o with
 | list vs => refine xAEEAAA h fun e its n q v l => ?_; exact ⟨e,its,n,hd _ q,VRs.tr x hs hw vs v,l⟩
 | dict es => refine xAEAAA h fun e its qz1 v l => ?_; obtain ⟨o,k1,k2,q,k3⟩:=qz1; exact ⟨e,its,⟨o,k1,k2,hd _ q,k3⟩,PR.tr x hs hw es v,l⟩
 | inst c es => refine xAAEEAAA h fun e z its n q v l => ?_; exact ⟨x.at_ hs hw e z,x.notZ hw e z,its,n,hd _ q,ER.tr x hs hw es v,l⟩
theorem Tr.grown {g:Gh} {s s':Shared} (k:∀ b o,s.heap.get? b = some o -> s'.heap.get? b = some o) (hg:s'.gens = s.gens) (ho:s'.os = s.os) :
   Tr (fun w0 => False) g s g s' :=
 ⟨fun w0 w0 w0 e => e,fun b o e w0 w0 => k b o e,fun w0 w0 w0 z => z,fun w0 z => z,fun a l w0 => by
   cases e:s.heap.get? a with
   | none => exact absurd e l
   | some o => rw [k a o e]; exact Option.some_ne_none _,fun w0 a b => absurd a b,hg,ho⟩
theorem Rel.grown {C:Cx} {g:Gh} {σ:Store} {s s':Shared} (R:Rel C g σ s.heap) (k:∀ b o,s.heap.get? b = some o -> s'.heap.get? b = some o)
   (hg:s'.gens = s.gens) (ho:s'.os = s.os):Rel C g σ s'.heap where
 base:=fun b o e => k b o (R.base b o e)
 zb:=R.zb
 zh:=fun a z => (Tr.grown (g:=g) k hg ho).live a (R.zh a z) (fun f => f)
 st:=R.st
 dom:=R.dom
 obj:=fun r i o e => by
   refine xEEAA (R.obj r i o e) fun a d p q => ?_
   exact ⟨a,d,p,OR.tr (W:=fun w0 => False) (Tr.grown k hg ho) R.st (fun w0 f => f.elim) (k d) q⟩
 inj:=R.inj
theorem Rel.low {C:Cx} {g:Gh} {σ:Store} {h:Heap} (R:Rel C g σ h):sysModules < h.objs.size:=by
 refine xEAA C.big fun b hb hl => ?_
 cases e:C.B.get? b with
 | none => exact absurd e hl
 | some o => exact Nat.lt_trans hb (Heap.lt_size (R.base b o e))
section
variable {C:Cx} {g:Gh} {σ:Store} {s s':Shared}
theorem Rel.put (R:Rel C g σ s.heap) {r i:Nat} {o o':Ob} {a d:Addr} (e:σ.get r i = some o) (hp:g.ρ r i = some (a,d)) (hs:Heap.SameBut d s.heap s'.heap) (hl:s'.heap.get? d ≠ none)
   (hg:s'.gens = s.gens) (ho:s'.os = s.os) (hn:(x:Tr (fun w0 => False) g s g s') -> OR C g s'.heap o' a d) :
   Tr (fun w0 => False) g s g s' ∧ Rel C g (σ.put r i o') s'.heap:=by
 have hd:g.St d:=⟨r,i,a,hp⟩
 have live:∀ b,s.heap.get? b ≠ none -> s'.heap.get? b ≠ none:=fun b l => by
   by_cases q:b = d
   · subst q; exact hl
   · rw [hs.2 b q]; exact l
 have x:Tr (fun w0 => False) g s g s':=by
   refine ⟨fun w0 w0 w0 e => e,fun b ob e n w0 => ?_,fun w0 w0 w0 z => z,fun w0 z => z,fun b l w0 => live b l,fun w0 a b => absurd a b,hg,ho⟩
   exact (hs.2 b fun q => n (q ▸ hd)).trans e
 refine ⟨x,⟨fun b ob q => ?_,R.zb,fun b z => live b (R.zh b z),R.st,fun r' i' q => ?_,fun r' i' ob q => ?_,R.inj⟩⟩
 · have:b ≠ d:=fun z => by
     subst z
     have:=(R.zb _ (R.st _ hd)).1
     rw [q] at this; cases this
   exact (hs.2 b this).trans (R.base b ob q)
 · rw [Store.get_put e] at q
   split at q
   · cases q
   · exact R.dom _ _ q
 · rw [Store.get_put e] at q
   split at q
   · rename_i z
     refine xAA z fun qz1 qz2 => ?_; subst qz1; subst qz2
     cases q
     exact ⟨a,d,hp,hn x⟩
   · rename_i z
     refine xEEAA (R.obj _ _ _ q) fun a' d' p' q' => ?_
     refine ⟨a',d',p',OR.tr x R.st (fun w0 f => f.elim) (fun ob z' => ?_) q'⟩
     have:d' ≠ d:=fun y => by
       subst y
       exact z (R.inj _ _ _ _ _ _ _ p' hp)
     exact (hs.2 d' this).trans z'
noncomputable def Gh.ext (g:Gh) (r i:Nat) (a d:Addr):Gh:=⟨fun r' i' => if r' = r ∧ i' = i then some (a,d) else g.ρ r' i',fun b => g.Z b ∨ b = d⟩
theorem Rel.add (R:Rel C g σ s.heap) {r:Nat} {l:List Ob} {o:Ob} {a d:Addr} (e:σ[r]? = some l) (k:∀ b ob,s.heap.get? b = some ob -> s'.heap.get? b = some ob)
   (hd:s.heap.get? d = none) (hd':s'.heap.get? d ≠ none) (hy:sysModules < d)
   (hg:s'.gens = s.gens) (ho:s'.os = s.os) (hn:Tr (fun w0 => False) g s (g.ext r l.length a d) s' -> OR C (g.ext r l.length a d) s'.heap o a d) :
   Tr (fun w0 => False) g s (g.ext r l.length a d) s' ∧ Rel C (g.ext r l.length a d) (σ.add r o) s'.heap:=by
 have hnone:g.ρ r l.length = none:=R.dom _ _ (Store.get_end e)
 have hnz:¬ g.St d:=fun q => R.zh d (R.st d q) hd
 have live:=(Tr.grown (g:=g) k hg ho).live
 have x:Tr (fun w0 => False) g s (g.ext r l.length a d) s':=by
   refine ⟨fun r' i' p q => ?_,fun b ob q w0 w0 => k b ob q,fun b q w0 z => ?_,fun b z => .inl z,live,fun b p q => ?_,hg,ho⟩
   · show (if _ then _ else _) = _
     split
     · rename_i z; refine xAA z fun qz1 qz2 => ?_; subst qz1; subst qz2; rw [hnone] at q; cases q
     · exact q
   · rcases z with z | z
     · exact z
     · subst z; exact absurd hd q
   · refine xEEEA p fun r' i' a' p => ?_
     have p:(if r' = r ∧ i' = l.length then some (a,d) else g.ρ r' i') = some (a',b):=p
     split at p
     · cases p; exact .inl hd
     · exact absurd ⟨r',i',a',p⟩ q
 have st:∀ b,(g.ext r l.length a d).St b -> (g.ext r l.length a d).Z b:=fun b p => by
   refine xEEEA p fun r' i' a' p => ?_
   have p:(if r' = r ∧ i' = l.length then some (a,d) else g.ρ r' i') = some (a',b):=p
   split at p
   · cases p; exact .inr rfl
   · exact .inl (R.st b ⟨r',i',a',p⟩)
 refine ⟨x,⟨fun b ob q => k b ob (R.base b ob q),fun b z => ?_,fun b z => ?_,st,fun r' i' q => ?_,fun r' i' ob q => ?_,fun r' i' r'' i'' a' a'' d' p q => ?_⟩⟩
 · rcases z with z | z
   · exact R.zb b z
   · subst z
     refine ⟨?_,hy⟩
     cases q:C.B.get? b with
     | none => rfl
     | some ob => have:=R.base b ob q; rw [hd] at this; cases this
 · rcases z with z | z
   · exact live b (R.zh b z) (fun f => f)
   · subst z; exact hd'
 · rw [Store.get_add e] at q
   split at q
   · cases q
   · rename_i z
     show (if _ then _ else _) = _
     rw [if_neg z]
     exact R.dom _ _ q
 · rw [Store.get_add e] at q
   split at q
   · rename_i z
     refine xAA z fun qz1 qz2 => ?_; subst qz1; subst qz2
     cases q
     refine ⟨a,d,by show (if _ then _ else _) = _; rw [if_pos ⟨rfl,rfl⟩],hn x⟩
   · rename_i z
     refine xEEAA (R.obj _ _ _ q) fun a' d' p' q' => ?_
     exact ⟨a',d',x.grow _ _ _ p',OR.tr x R.st (fun w0 f => f.elim) (k d') q'⟩
 · have p:(if r' = r ∧ i' = l.length then some (a,d) else g.ρ r' i') = some (a',d'):=p
   have q:(if r'' = r ∧ i'' = l.length then some (a,d) else g.ρ r'' i'') = some (a'',d'):=q
   split at p <;> split at q
   · rename_i z z'; exact ⟨z.1.trans z'.1.symm,z.2.trans z'.2.symm⟩
   · cases p; exact absurd ⟨r'',i'',a'',q⟩ hnz
   · cases q; exact absurd ⟨r',i',a',p⟩ hnz
   · exact R.inj _ _ _ _ _ _ _ p q
end
end Mine
end
section
open PySem PySem.Calls PyProof.Rows PySem.W
namespace Mine
theorem Uah {n:Nat} (h:n <= lim):n <= sizeLine:=Nat.le_trans h (by delta lim sizeLine; decide)
structure Facts (C:Cx):Prop where
 X:C.K.In C.B
 lim:C.B.NoLimit
 ns:∃ mg mb,C.B.Ns mainGlobals mg ∧ C.B.Ns builtinsNs mb ∧ (∀ x a,lk x C.P.globs = some a -> mg x = some (.ref a)) ∧
   (∀ x:Str,x = "len" ∨ x = "ord" ∨ x = "chr" -> lk x C.P.globs = none -> mg x = none ∧ mb x = some (.builtin x.toString)) ∧
   (∀ x:Str,x = "range" ∨ x = "list" ∨ x = "tuple" -> lk x C.P.globs = none -> mg x = none ∧ mb x = some (.type x.toString))
structure Room (A:Around) (d:Nat):Prop where
 handled:A.handled = none
 depth:A.depth + 2 * d + 2 < 1000
 units:A.units + 8 * d + 200 < 9900
structure FR (g:Gh) (h:Heap) (env:Env) (fr:Fr):Prop where
 kind:env.scope.kind = .function
 glob:env.globals = mainGlobals
 blt:env.builtins = builtinsNs
 dbg:∀ p ∈ env.scope.names,(p.1 == (Y "__debug__")) = false ∧ (p.1 == (Y "__classdict__")) = false
 zl:g.Z env.locals
 sl:¬ g.St env.locals
 ns:∃ m,h.Ns env.locals m ∧ ∀ x v,lk x fr = some v -> env.kindOf x = some .local -> ∃ u,m x = some u ∧ VR g h v u
 var:∀ x v,lk x fr = some v -> env.kindOf x = some .local ∨ (env.kindOf x = some .cell ∨ env.kindOf x = some .free) ∧ ∃ c u,env.cells.lookup x = some c ∧ h.IsCell c (some u) ∧ VR g h v u
 cell:∀ x c,env.cells.lookup x = some c -> g.Z c ∧ ¬ g.St c ∧ c ≠ env.locals ∧ ∃ u,h.IsCell c u
 has:∀ x,env.kindOf x = some .cell -> ∃ c,env.cells.lookup x = some c
 apart:∀ x y c,env.cells.lookup x = some c -> env.cells.lookup y = some c -> x = y
section
variable {C:Cx}
noncomputable def Ev (C:Cx) (A:Around) {α:Type} (t:Sem α) (g:Gh) (σ:Store) (s:Shared) (T:Gh -> Heap -> α -> Prop):Prop :=
 0 < s.toks -> ∀ (Q:α -> Shared -> Prop) (E:Value -> Shared -> Prop),(∀ a s' g',Tr (fun w0 => False) g s g' s' -> Rel C g' σ s'.heap -> T g' s'.heap a -> Q a s') -> wpAny (model C.prog C.w) A t Q E s
variable {A:Around} {g:Gh} {σ σ₁ σ':Store} {s:Shared}
theorem Ev.bind {α β:Type} {t:Sem α} {k:α -> Sem β} {T:Gh -> Heap -> α -> Prop} {T':Gh -> Heap -> β -> Prop} (h:Ev C A t g σ₁ s T)
   (hk:∀ a s₁ g₁,Tr (fun w0 => False) g s g₁ s₁ -> Rel C g₁ σ₁ s₁.heap -> T g₁ s₁.heap a -> Ev C A (k a) g₁ σ' s₁ T'):Ev C A (t >>= k) g σ' s T' :=
 fun p Q E q => wpAny_bind (wpAny_mono (wpAny_toks_of p (h p (fun a s₁ => 0 < s₁.toks -> wpAny (model C.prog C.w) A (k a) Q E s₁) E fun a s₁ g₁ x R t' p' => hk a s₁ g₁ x R t' p' Q E fun b s₂ g₂ x₂ R₂ t₂ => q b s₂ g₂ (x.trans x₂) R₂ t₂))
   (fun w0 w0 x => x.2 x.1) fun w0 w0 x => x.2)
theorem Ev.mono {α:Type} {t:Sem α} {T T':Gh -> Heap -> α -> Prop} (h:Ev C A t g σ s T) (k:∀ g' h' a,T g' h' a -> T' g' h' a):Ev C A t g σ s T' :=
 fun p Q E q => h p Q E fun a s' g' x R t' => q a s' g' x R (k _ _ _ t')
theorem Ev.same {α:Type} {t:Sem α} {T:Gh -> Heap -> α -> Prop} (R:Rel C g σ s.heap)
   (h:∀ (Q:α -> Shared -> Prop) (E:Value -> Shared -> Prop),(∀ a k,T g s.heap a -> Q a { s with toks:=k }) -> wpAny (model C.prog C.w) A t Q E s):Ev C A t g σ s T :=
 fun w0 Q E q => h Q E fun a k t' => q a _ g (Tr.grown (fun w0 w0 e => e) rfl rfl) (R.grown (s':={ s with toks:=k }) (fun w0 w0 e => e) rfl rfl) t'
theorem Tr.tok {W:Addr -> Prop} (k:Nat):Tr W g s g { s with toks:=k }:=(Tr.grown (s:=s) (s':={ s with toks:=k }) (fun w0 w0 e => e) rfl rfl).none
theorem Rel.tok (R:Rel C g σ s.heap) (k:Nat):Rel C g σ ({ s with toks:=k }:Shared).heap:=R
theorem FR.tr {s':Shared} {g':Gh} {env:Env} {fr:Fr} (F:FR g s.heap env fr) (R:Rel C g σ s.heap) (x:Tr (fun w0 => False) g s g' s'):FR g' s'.heap env fr:=by
 have nf:∀ b,False -> g.Z b:=fun w0 f => f.elim
 have nst:∀ {c:Addr} {o:Obj},s.heap.get? c = some o -> ¬ g.St c -> ¬ g'.St c:=fun e n q => by
   rcases x.fresh _ q n with z | z
   · rw [e] at z; cases z
   · exact z
 have kp:∀ {c:Addr} {o:Obj},s.heap.get? c = some o -> ¬ g.St c -> s'.heap.get? c = some o:=fun e n => x.keep _ _ e n fun f => f
 refine xEAA F.ns fun m qz1 hv => ?_; obtain ⟨o,es,ep,ho,hd,hk,hm⟩:=qz1
 refine ⟨F.kind,F.glob,F.blt,F.dbg,x.zk _ F.zl,nst ho F.sl,⟨m,⟨o,es,ep,kp ho F.sl,hd,hk,hm⟩,fun y v e k => ?_⟩,fun y v e => ?_,fun y c e => ?_,F.has,F.apart⟩
 · refine xEAA (hv y v e k) fun u a b => ?_
   exact ⟨u,a,VR.tr x R.st nf v b⟩
 · rcases F.var y v e with k | ⟨k,c,u,a,⟨oc,hc,hcd⟩,b⟩
   · exact .inl k
   · exact .inr ⟨k,c,u,a,⟨oc,kp hc (F.cell y c a).2.1,hcd⟩,VR.tr x R.st nf v b⟩
 · refine xAAAEEAA (F.cell y c e) fun z n l u oc hc hcd => ?_
   exact ⟨x.zk _ z,nst hc n,l,u,oc,kp hc n,hcd⟩
theorem VR.tr' {s':Shared} {g':Gh} {v:V} {u:Value} (h:VR g s.heap v u) (R:Rel C g σ s.heap) (x:Tr (fun w0 => False) g s g' s'):VR g' s'.heap v u:=VR.tr x R.st (fun w0 f => f.elim) v h
theorem VRs.tr' {s':Shared} {g':Gh} {v:List V} {u:List Value} (h:VRs g s.heap v u) (R:Rel C g σ s.heap) (x:Tr (fun w0 => False) g s g' s'):VRs g' s'.heap v u:=VRs.tr x R.st (fun w0 f => f.elim) v h
theorem Und {c:Const} {env:Env} {k:Nat} {pos:Pos} {v:V} (h:constV c σ = some (v,σ')) (R:Rel C g σ s.heap) :
   Ev C A (eval (.Constant c k pos) env) g σ' s fun g' h' u => VR g' h' v u:=by
 cases c with
 | none => cases h; exact Ev.same R fun Q E q => wpAny_Constant_none (q _ s.toks (by simp [VR]))
 | bool b => cases h; exact Ev.same R fun Q E q => wpAny_Constant_bool (q _ s.toks (by simp [VR]))
 | int i => cases h; exact Ev.same R fun Q E q => wpAny_Constant_int (q _ _ (by simp [VR]))
 | str x =>
   simp only [constV] at h
   split at h
   · rename_i hx
     cases h
     exact Ev.same R fun Q E q => Constant_str (q _ _ (by simp only [VR]; exact ⟨_,rfl,hx.1,hx.2⟩))
   · cases h
 | _ => cases h
theorem Ua4 {α:Type}:∀ {l:List (Str × α)} {x:Str} {v:α},l.lookup x = some v -> (x,v) ∈ l
 | (k,v) :: r,n,c,h => by
   rw [List.lookup_cons] at h
   cases hb:n == k with
   | true => rw [hb] at h; cases h; rw [beq_iff_eq.mp hb]; exact List.mem_cons_self
   | false => rw [hb] at h; exact List.mem_cons_of_mem _ (Ua4 h)
theorem Ujz {x:Str} {b:Bi} (h:biName x = some b):((x = "len" ∨ x = "ord" ∨ x = "chr") ∧ biVal b = .builtin x.toString) ∨ ((x = "range" ∨ x = "list" ∨ x = "tuple") ∧ biVal b = .type x.toString):=by
 delta biName at h
 split at h
 · rename_i e; obtain rfl:=beq_iff_eq.mp e; cases h; exact .inl ⟨.inl rfl,by decide +kernel⟩
 split at h
 · rename_i e; obtain rfl:=beq_iff_eq.mp e; cases h; exact .inr ⟨.inl rfl,by decide +kernel⟩
 split at h
 · rename_i e; obtain rfl:=beq_iff_eq.mp e; cases h; exact .inr ⟨.inr (.inl rfl),by decide +kernel⟩
 split at h
 · rename_i e; obtain rfl:=beq_iff_eq.mp e; cases h; exact .inr ⟨.inr (.inr rfl),by decide +kernel⟩
 split at h
 · rename_i e; obtain rfl:=beq_iff_eq.mp e; cases h; exact .inl ⟨.inr (.inl rfl),by decide +kernel⟩
 split at h
 · rename_i e; obtain rfl:=beq_iff_eq.mp e; cases h; exact .inl ⟨.inr (.inr rfl),by decide +kernel⟩
 · cases h
theorem Upc {sc:Scope} {env:Env} {fr:Fr} {x:Str} {pos:Pos} {v:V} (Fa:Facts C) (F:FR g s.heap env fr) (R:Rel C g σ s.heap)
   (hsc:∀ y,sc.names.lookup y = some .globalImplicit -> env.kindOf y = some .globalImplicit) (h:nameV C.P sc fr x σ = some (v,σ')) :
   Ev C A (eval (.Name x pos) env) g σ' s fun g' h' u => VR g' h' v u:=by
 delta nameV lift at h
 split at h
 case h_2 => cases h
 rename_i v' hv'
 cases h
 delta nameO at hv'
 split at hv'
 · rename_i v' hv
   cases hv'
   refine Ev.same R fun Q E q => ?_
   rcases F.var x v hv with k | ⟨k,c,u,hc,hu,hr⟩
   · refine xEAA F.ns fun m hm hmv => ?_
     refine xEAA (hmv x v hv k) fun u hu hr => ?_
     exact wpAny_Name (wpAny_loadName_local F.kind k hm hu (q u s.toks hr)) (F.dbg (x,.local) (Ua4 k)).1
   · rcases k with k | k
     · exact wpAny_Name (wpAny_loadName_cell F.kind k hc hu (q u s.toks hr)) (F.dbg (x,_) (Ua4 k)).1
     · exact wpAny_Name (wpAny_loadName_free F.kind k hc hu (q u s.toks hr) (F.dbg (x,_) (Ua4 k)).2) (F.dbg (x,_) (Ua4 k)).1
 · split at hv'
   · rename_i hk
     have k:=hsc x hk
     have hd:=(F.dbg (x,_) (Ua4 k)).1
     refine xEEAAAAA Fa.ns fun mg mb ng nb hg hb ht => ?_
     have ng':s.heap.Ns env.globals mg:=F.glob ▸ ng.keeps R.base
     have nb':s.heap.Ns env.builtins mb:=F.blt ▸ nb.keeps R.base
     split at hv'
     · rename_i a ha
       cases hv'
       exact Ev.same R fun Q E q => Name_function_global F.kind k (loadGlobal_global ng' (hg x a ha) (q _ s.toks (by simp [VR]))) hd
     · rename_i hn
       refine xEAA (Option.map_eq_some_iff.mp hv') fun b hb' qz1 => ?_; subst qz1
       rcases Ujz hb' with ⟨hy,e⟩ | ⟨hy,e⟩
       · refine xAA (hb x hy hn) fun h1 h2 => ?_
         exact Ev.same R fun Q E q => Name_function_global F.kind k (loadGlobal_builtin ng' h1 nb' h2 (q _ s.toks (by simp only [VR]; exact e.symm))) hd
       · refine xAA (ht x hy hn) fun h1 h2 => ?_
         exact Ev.same R fun Q E q => Name_function_global F.kind k (loadGlobal_builtin ng' h1 nb' h2 (q _ s.toks (by simp only [VR]; exact e.symm))) hd
   · cases hv'
end
end Mine
end
section
open PySem PySem.Calls PyProof.Rows PySem.W
namespace Mine
theorem Uaa {α:Type} {r:α} (e:(Option.none:Option α) = some r):False:=by cases e
theorem Uab {α:Type} {a b:α} (e:some a = some b):a = b:=Option.some.inj e
theorem obE {α β:Type} {x:Option α} {f:α -> Option β} {z:Option β} {r:β} {P:Prop} (e:ob x f z = some r) (h:∀ a,x = some a -> f a = some r -> P) (h2:x = none -> z = some r -> P):P:=by
 cases x with
 | none => exact h2 rfl e
 | some a => exact h a rfl e
theorem obS {α β:Type} {x:Option α} {f:α -> Option β} {r:β} {P:Prop} (e:ob x f none = some r) (h:∀ a,x = some a -> f a = some r -> P):P:=obE e h fun w0 e => (Uaa e).elim
theorem Ubf {v:V} {x:Str} (e:strO v = some x):v = .str x:=by cases v <;> first | exact (Uaa e).elim | exact congrArg V.str (Uab e)
theorem Uby {v:V} {x:Int} (e:intO v = some x):v = .int x:=by cases v <;> first | exact (Uaa e).elim | exact congrArg V.int (Uab e)
theorem Uf6 {v:V} {x:List V} (e:tupO v = some x):v = .tup x:=by cases v <;> first | exact (Uaa e).elim | exact congrArg V.tup (Uab e)
theorem Ueo {v:V} {x:List V} (e:lstO v = some x):v = .lst x:=by cases v <;> first | exact (Uaa e).elim | exact congrArg V.lst (Uab e)
theorem Ugf {α β:Type} {f:α -> Option β} {g:β -> α} (H:∀ a b,f a = some b -> a = g b):∀ (l:List α) {r:List β},allO f l = some r -> l = r.map g
 | [],r,e => by cases e; rfl
 | a :: l,r,e => obS e fun b q e => obS e fun r' q' e => by
   cases e
   rw [H a b q,Ugf H l q',List.map_cons]
theorem Ulk {α β γ:Type} {f:α -> Option β} {g:γ -> α} {k:γ -> β} (H:∀ b,f (g b) = some (k b)):∀ l:List γ,allO f (l.map g) = some (l.map k)
 | [] => rfl
 | b :: l => by
   show ob (f (g b)) (fun d => ob (allO f (l.map g)) (fun ds => some (d :: ds)) none) none = _
   rw [H b,Ulk H l]; rfl
section
variable {C:Cx} {A:Around} {g:Gh} {σ σ':Store} {s:Shared} {h:Heap}
noncomputable abbrev LV (g:Gh) (h:Heap) (u:Value) (vs:List V):Prop:=∃ x its n,u = .ref x ∧ h.get? x = some (lo its n) ∧ VRs g h vs its.toList ∧ vs.length <= lim
theorem Usa {r i:Nat} {u:Value} {vs:List V} (R:Rel C g σ h) (q:σ.get r i = some (.list vs)) (v:VR g h (.ref r i) u):LV g h u vs:=by
 refine xEEAA v fun a d q1 p => ?_
 refine xEEAA (R.obj r i _ q) fun a' d' p' o => ?_
 have pd:(a,d) = (a',d'):=Uab (p.symm.trans p')
 refine xAEEAAA o fun q2 its n w1 w2 w3 => ?_
 cases pd; cases q2
 exact ⟨_,its,n,q1,w1,w2,w3⟩
theorem Ucg {v:V} {z:Nat × Nat × Ob} (e:objO σ v = some z):v = .ref z.1 z.2.1 ∧ σ.get z.1 z.2.1 = some z.2.2:=by
 cases v with
 | ref r i => exact obS e fun o q e => by cases e; exact ⟨rfl,q⟩
 | _ => exact (Uaa e).elim
theorem Ua3 {v:V} {z:Nat × Nat × List V} (e:lref σ v = some z):v = .ref z.1 z.2.1 ∧ σ.get z.1 z.2.1 = some (.list z.2.2):=obS e fun o q e => obS e fun vs q2 e => by
 cases e
 exact ⟨(Ucg q).1,(Ucg q).2.trans (congrArg some (by cases h:o.2.2 <;> rw [h] at q2 <;> first | exact (Uaa q2).elim | exact congrArg Ob.list (Uab q2)))⟩
theorem Ubv {v:V} {z:Nat × Nat × List (Str × V)} (e:dref σ v = some z):v = .ref z.1 z.2.1 ∧ σ.get z.1 z.2.1 = some (.dict z.2.2):=obS e fun o q e => obS e fun vs q2 e => by
 cases e
 exact ⟨(Ucg q).1,(Ucg q).2.trans (congrArg some (by cases h:o.2.2 <;> rw [h] at q2 <;> first | exact (Uaa q2).elim | exact congrArg Ob.dict (Uab q2)))⟩
theorem Ual {a:V} {u:Value} {vs:List V} (e:asList σ a = some vs) (R:Rel C g σ h) (v:VR g h a u):LV g h u vs:=obE e
 (fun ws q e => by cases e; cases Ueo q; exact xEEEAAAAA v fun a its n q b w0 c d => ⟨a,its,n,q,b,c,d⟩)
 fun w0 e => obS e fun z q e => by cases e; exact Usa R (Ua3 q).2 ((Ua3 q).1 ▸ v)
noncomputable abbrev DOk (h:Heap) (n:Nat) (u:Value) (d:PyData):Prop:=∃ as,Reads h u d as ∧ d.canLay0 = true ∧ d.depth <= n
theorem Uoa {v:V} {u:Value} {d:PyData} {n:Nat} (e:scal v = some d) (r:VR g h v u):DOk h n u d:=by
 cases v with
 | none => cases e; cases (show u = .none from r); exact ⟨[],.none,rfl,Nat.zero_le _⟩
 | bool b => cases e; cases (show u = .bool b from r); exact ⟨[],.bool b,rfl,Nat.zero_le _⟩
 | int i => cases e; exact xEA r fun t q => q ▸ ⟨[],.int i t,rfl,Nat.zero_le _⟩
 | str x => cases e; exact xEAAA r fun t q o w0 => q ▸ ⟨[],.str x t,o,Nat.zero_le _⟩
 | _ => exact (Uaa e).elim
theorem Ujh {f:V -> Option PyData} {n:Nat} (H:∀ v {u d},f v = some d -> VR g h v u -> DOk h n u d):∀ (vs:List V) {us:List Value} {ds:List PyData},allO f vs = some ds -> VRs g h vs us -> ∃ as,ReadsAll h us ds as ∧ PyData.canLayAll0 ds = true ∧ PyData.depthAll ds <= n
 | [],us,ds,e,r => by cases e; cases (show us = [] from r); exact ⟨[],.nil,rfl,Nat.zero_le _⟩
 | v :: vs,us,ds,e,r => obS e fun d q e => obS e fun ds' q' e => by
   cases e
   refine xEEAAA r fun u t qz a b => ?_
   cases qz
   refine xEAAA (H v q a) fun as r1 r2 r3 => ?_
   refine xEAAA (Ujh H vs q' b) fun bs s1 s2 s3 => ?_
   exact ⟨as ++ bs,.cons r1 s1,Bool.and_eq_true_iff.mpr ⟨r2,s2⟩,Nat.max_le.mpr ⟨r3,s3⟩⟩
theorem toD_ok (R:Rel C g σ h):∀ (n:Nat) (v:V) {u:Value} {d:PyData},toD σ n v = some d -> VR g h v u -> DOk h n u d
 | 0,v,u,d,e,r => Uoa e r
 | n + 1,v,u,d,e,r => obE e
   (fun vs q (e:ob (allO (toD σ n) vs) (fun ds => some (PyData.tuple ds)) none = some d) => obS e fun ds q' e => by
     cases e; cases Uf6 q
     refine xEEEAAAAA r fun a its k qz ho w0 hv w0 => ?_
     refine xEAAA (Ujh (fun v u d => toD_ok R n v) vs q' hv) fun as r1 r2 r3 => ?_
     exact ⟨as,qz ▸ .tuple ho rfl rfl r1,r2,Nat.succ_le_succ r3⟩)
   fun w0 e => obE e
     (fun vs q (e:ob (allO (toD σ n) vs) (fun ds => some (PyData.list ds)) none = some d) => obS e fun ds q' e => by
       cases e
       refine xEEEAAAA (Ual q R r) fun a its k qz ho hv w0 => ?_
       refine xEAAA (Ujh (fun v u d => toD_ok R n v) vs q' hv) fun as r1 r2 r3 => ?_
       exact ⟨a :: as,qz ▸ .list ho rfl rfl r1,r2,Nat.succ_le_succ r3⟩)
     fun w0 e => Uoa e r
theorem Urv (R:Rel C g σ h) (n:Nat) (vs:List V) {us:List Value} {ds:List PyData} (e:toDs σ n vs = some ds) (r:VRs g h vs us):∃ as,ReadsAll h us ds as ∧ PyData.canLayAll0 ds = true ∧ PyData.depthAll ds <= n :=
 Ujh (fun v w0 w0 => toD_ok R n v) vs e r
end
end Mine
end
section
open PySem PySem.Calls PyProof.Rows PySem.W
namespace Mine
section
variable {C:Cx} {A:Around} {g:Gh} {σ σ':Store} {s:Shared} {h:Heap}
theorem Ube (h:Heap):h.get? h.objs.size = none:=by
 cases e:h.get? h.objs.size with
 | none => rfl
 | some o => exact absurd (Heap.lt_size e) (Nat.lt_irrefl _)
theorem Rel.fresh (R:Rel C g σ h):¬ g.Z h.objs.size:=fun z => R.zh _ z (Ube h)
theorem Ev.up {α:Type} {t:Sem α} {T:Gh -> Heap -> α -> Prop} (R:Rel C g σ s.heap)
   (h:∀ (Q:α -> Shared -> Prop) (E:Value -> Shared -> Prop),(∀ a s',(∀ b o,s.heap.get? b = some o -> s'.heap.get? b = some o) -> s'.gens = s.gens -> s'.os = s.os ->
     T g s'.heap a -> Q a s') -> wpAny (model C.prog C.w) A t Q E s):Ev C A t g σ s T :=
 fun w0 Q E q => h Q E fun a s' k hg ho t' => q a s' g (Tr.grown k hg ho) (R.grown k hg ho) t'
theorem VRs.up {s':Shared} {vs:List V} {us:List Value} (R:Rel C g σ s.heap) (k:∀ b o,s.heap.get? b = some o -> s'.heap.get? b = some o) (hg:s'.gens = s.gens) (ho:s'.os = s.os)
   (v:VRs g s.heap vs us):VRs g s'.heap vs us:=VRs.tr' v R (Tr.grown k hg ho)
theorem VR.newList {vs:List V} {us:Array Value} (R:Rel C g σ s.heap) (v:VRs g s.heap vs us.toList) (l:vs.length <= lim) (k:Nat) :
   VR g ({ s with heap:=s.heap.push (lo us k) }:Shared).heap (.lst vs) (.ref s.heap.objs.size):=by
 exact ⟨_,us,k,rfl,Heap.get?_push_size _ rfl,R.fresh,VRs.up (s:=s) (s':={ s with heap:=s.heap.push (lo us k) }) R (fun b o e => Heap.get?_push_of_some _ e) rfl rfl v,l⟩
theorem VR.newTup {vs:List V} {us:Array Value} (R:Rel C g σ s.heap) (v:VRs g s.heap vs us.toList) (l:vs.length <= lim) (k:Nat) :
   VR g ({ s with heap:=s.heap.push (tpo us k) }:Shared).heap (.tup vs) (.ref s.heap.objs.size):=by
 exact ⟨_,us,k,rfl,Heap.get?_push_size _ rfl,R.fresh,VRs.up (s:=s) (s':={ s with heap:=s.heap.push (tpo us k) }) R (fun b o e => Heap.get?_push_of_some _ e) rfl rfl v,l⟩
theorem Uk5 {x y:Str} (hx:sOk x = true) (hy:sOk y = true):sOk (x ++ y) = true:=by
 delta sOk at *
 rw [Str.cps_append,Array.all_append,hx,hy]; rfl
theorem VR.mkStr {x:Str} {t:Tok} (ho:sOk x = true) (hl:x.length <= lim):VR g h (.str x) (.str x t):=⟨t,rfl,ho,hl⟩
theorem VR.mkInt {i:Int} {t:Tok}:VR g h (.int i) (.int i t):=⟨t,rfl⟩
theorem VR.mkBool {b:Bool}:VR g h (.bool b) (.bool b):=rfl
theorem VR.oInt {v:V} {i:Int} {t:Tok} (e:some (V.int i) = some v):VR g h v (.int i t):=Uab e ▸ VR.mkInt
theorem ob2E {α β γ:Type} {f:α -> Option β} {a b:α} {k:β -> β -> Option γ} {z:Option γ} {r:γ} {P:Prop} (e:ob2 f a b k z = some r) (h:∀ x y,f a = some x -> f b = some y -> k x y = some r -> P) (h2:z = some r -> P):P:=by
 cases q:f a with
 | none => simp only [ob2,q] at e; exact h2 e
 | some x =>
   cases q2:f b with
   | none => simp only [ob2,q,q2] at e; exact h2 e
   | some y => simp only [ob2,q,q2] at e; exact h x y q q2 e
theorem ob2S {α β γ:Type} {f:α -> Option β} {a b:α} {k:β -> β -> Option γ} {r:γ} {P:Prop} (e:ob2 f a b k none = some r) (h:∀ x y,f a = some x -> f b = some y -> k x y = some r -> P):P:=ob2E e h fun e => (Uaa e).elim
theorem iteS {γ:Type} {c:Prop} [Decidable c] {x:Option γ} {r:γ} {P:Prop} (e:(if c then x else none) = some r) (h:c -> x = some r -> P):P:=by
 by_cases q:c
 · rw [if_pos q] at e; exact h q e
 · rw [if_neg q] at e; exact (Uaa e).elim
theorem int1 {a:V} {x:Int} {u:Value} {T:Value -> Prop} (q:intO a = some x) (v:VR g h a u) (k:∀ t,T (.int x t)):T u:=by
 cases Uby q; exact xEA v fun t e => e ▸ k t
theorem str1 {a:V} {x:Str} {u:Value} {T:Value -> Prop} (q:strO a = some x) (v:VR g h a u) (k:∀ t,sOk x = true -> x.length <= lim -> T (.str x t)):T u:=by
 cases Ubf q; exact xEAAA v fun t e o l => e ▸ k t o l
theorem int2 {a b:V} {x y:Int} {u w:Value} {T:Value -> Value -> Prop} (q1:intO a = some x) (q2:intO b = some y) (v1:VR g h a u) (v2:VR g h b w) (k:∀ t t',T (.int x t) (.int y t')):T u w :=
 int1 (T:=fun u => T u w) q1 v1 fun t => int1 (T:=fun w => T (.int x t) w) q2 v2 fun t' => k t t'
theorem str2 {a b:V} {x y:Str} {u w:Value} {T:Value -> Value -> Prop} (q1:strO a = some x) (q2:strO b = some y) (v1:VR g h a u) (v2:VR g h b w) (k:∀ t t',sOk x = true -> x.length <= lim -> sOk y = true -> y.length <= lim -> T (.str x t) (.str y t')):T u w :=
 str1 (T:=fun u => T u w) q1 v1 fun t o l => str1 (T:=fun w => T (.str x t) w) q2 v2 fun t' o' l' => k t t' o l o' l'
noncomputable abbrev EvV (C:Cx) (A:Around) (t:Sem Value) (g:Gh) (σ:Store) (s:Shared) (v:V):Prop:=Ev C A t g σ s fun g' h' u => VR g' h' v u
section
variable {a b v:V} {ua ub:Value}
theorem add_ok (R:Rel C g σ s.heap) (ha:VR g s.heap a ua) (hb:VR g s.heap b ub) (e:binV .Add a b σ = some v):EvV C A (binaryOp .Add ua ub) g σ s v :=
 ob2E e (fun x y q1 q2 e => int2 (T:=fun u w => EvV C A (binaryOp .Add u w) g σ s v) q1 q2 ha hb fun t t' => Ev.same R fun Q E q => PyProof.Rows.add_int (q _ _ (VR.oInt e)))
   fun e => ob2E e (fun x y q1 q2 e => iteS e fun hl e => str2 (T:=fun u w => EvV C A (binaryOp .Add u w) g σ s v) q1 q2 ha hb fun t t' o1 l1 o2 l2 =>
       Ev.same R fun Q E q => PyProof.Rows.add_str (fun t' k => q _ _ (Uab e ▸ VR.mkStr (Uk5 o1 o2) (by rw [Str.length_append]; exact hl))) (Uah hl))
     fun e => ob2S e fun x y q1 q2 e => iteS e fun hl e =>
       xEEEAAAA (Ual q1 R ha) fun a1 its n w1 g1 v1 l1 => xEEEAAAA (Ual q2 R hb) fun a2 its2 n2 w2 g2 v2 l2 => by
         subst w1 w2
         have h1:its.size = x.length:=VRs.len v1
         have h2:its2.size = y.length:=VRs.len v2
         refine Ev.up R fun Q E q => P.add_list g1 g2 (q _ _ (fun b o e => Heap.get?_push_of_some _ e) rfl rfl (Uab e ▸ VR.newList (k:=0) R (by rw [Array.toList_append]; exact VRs.app v1 v2) (by rw [List.length_append]; exact hl))) (Uah (by rw [h1,h2]; exact hl))
theorem Uq5 {op:Operator} (R:Rel C g σ s.heap) (ha:VR g s.heap a ua) (hb:VR g s.heap b ub) (e:binV op a b σ = some v):EvV C A (binaryOp op ua ub) g σ s v:=by
 have ii:∀ (x y:Int) (q1:intO a = some x) (q2:intO b = some y),(∀ t t',EvV C A (binaryOp op (.int x t) (.int y t')) g σ s v) -> EvV C A (binaryOp op ua ub) g σ s v :=
   fun x y q1 q2 k => int2 (T:=fun u w => EvV C A (binaryOp op u w) g σ s v) q1 q2 ha hb k
 cases op with
 | Add => exact add_ok R ha hb e
 | Sub => exact ob2S e fun x y q1 q2 e => ii x y q1 q2 fun t t' => Ev.same R fun Q E q => PyProof.Rows.sub_int (q _ _ (VR.oInt e))
 | Mult => exact ob2S e fun x y q1 q2 e => iteS e fun hl e => ii x y q1 q2 fun t t' => Ev.same R fun Q E q => PyProof.Rows.mul_int (q _ _ (VR.oInt e)) (IntMulOk.of_left (intBits_le_64 (by omega) (by omega)))
 | Mod => exact ob2S e fun x y q1 q2 e => iteS e fun hl e => ii x y q1 q2 fun t t' => Ev.same R fun Q E q => mod_int' (Int.ne_of_gt hl) (q _ _ (VR.oInt e))
 | FloorDiv => exact ob2S e fun x y q1 q2 e => iteS e fun hl e => ii x y q1 q2 fun t t' => Ev.same R fun Q E q => floordiv_int (Int.ne_of_gt hl.1) (q _ _ (VR.oInt e)) (.inl (PyProof.noPylong_small (by omega)))
 | _ => exact (Uaa e).elim
theorem Uc1 {v:V} {u:Value} {d:PyData} (R:Rel C g σ h) (e:toD σ 8 v = some d) (r:VR g h v u):∃ as,Reads h u d as ∧ SeqAt.shaped d = true :=
 xEAAA (toD_ok R 8 v e r) fun as a b c => ⟨as,a,Bool.and_eq_true_iff.mpr ⟨b,decide_eq_true (Nat.le_trans c (by decide))⟩⟩
theorem Room.u65 {d:Nat} (r:Room A d):A.units + 65 < cLine:=by have:=r.units; delta cLine; omega
noncomputable abbrev EvB (C:Cx) (A:Around) (t:Sem Value) (g:Gh) (σ:Store) (s:Shared) (c:Bool):Prop:=Ev C A t g σ s fun w0 w0 u => u = .bool c
noncomputable abbrev Two (C:Cx) (A:Around) (x y:CmpOp) (ua ub:Value) (g:Gh) (σ:Store) (s:Shared) (c:Bool):Prop:=EvB C A (compareOp x ua ub) g σ s c ∧ EvB C A (compareOp y ua ub) g σ s (!c)
theorem eqV_ok {d:Nat} {c:Bool} (Ro:Room A d) (R:Rel C g σ s.heap) (ha:VR g s.heap a ua) (hb:VR g s.heap b ub) (e:eqV σ a b = some c):Two C A .Eq .NotEq ua ub g σ s c:=by
 have gen:∀ {da db:PyData},toD σ 8 a = some da -> toD σ 8 b = some db -> PyData.eqv da db = c -> Two C A .Eq .NotEq ua ub g σ s c:=fun ea eb ec =>
   xEAA (Uc1 R ea ha) fun as ra sa => xEAA (Uc1 R eb hb) fun bs rb sb =>
     have hu:=Nat.lt_of_le_of_lt (Nat.le_succ _) Ro.u65
     ⟨Ev.same R fun Q E q => PyProof.Rows.eq_dataH ra rb sa sb hu (q _ s.toks (congrArg Value.bool ec)),Ev.same R fun Q E q => PyProof.Rows.ne_dataH ra rb sa sb hu (q _ s.toks (congrArg (fun b => Value.bool (!b)) ec))⟩
 have G:eqG σ a b = some c -> Two C A .Eq .NotEq ua ub g σ s c:=fun e => obS e fun da ea e => obS e fun db eb e => gen ea eb (Uab e)
 refine obE e (fun x q1 e => obE e (fun y q2 e => ?_) fun w0 e => G e) fun w0 e => obE e (fun x q1 e => obE e (fun y q2 e => ?_) fun w0 e => G e) fun w0 e => G e
 · cases e; cases Ubf q1; cases Ubf q2; exact gen (da:=.str x) (db:=.str y) rfl rfl rfl
 · cases e; cases Uby q1; cases Uby q2; exact gen (da:=.int x) (db:=.int y) rfl rfl rfl
end
theorem Uhi {vs:List V} {l:List Str} (e:strsOf vs = some l):vs = l.map .str:=Ugf (fun w0 w0 => Ubf) vs e
theorem Upm {vs:List V} {l:List Int} (e:intsOf vs = some l):vs = l.map .int:=Ugf (fun w0 w0 => Uby) vs e
theorem Up5 (n:Nat) (l:List Str):toDs σ (n + 1) (l.map .str) = some (l.map .str):=Ulk (f:=toD σ (n + 1)) (g:=V.str) (k:=PyData.str) (fun w0 => rfl) l
end
end Mine
end
section
open PySem PySem.Calls PyProof.Rows PySem.W
namespace Mine
theorem Uht (x k:Str) (u:Value) (r:List (Str × Value)):valueAt ((k,u) :: r) x = if k = x then some u else valueAt r x:=by
 delta valueAt
 by_cases e:k = x
 · simp [e]
 · simp [e]
theorem PR.look {g:Gh} {h:Heap} (x:Str):∀ {es:List (Str × V)} {l:List (Str × Value)},PR g h es l ->
   (∀ v,lk x es = some v -> ∃ u,valueAt l x = some u ∧ VR g h v u) ∧ (lk x es = none -> valueAt l x = none)
 | [],_,e => by cases e; exact ⟨fun w0 q => (Uaa q).elim,fun w0 => rfl⟩
 | (k,v) :: es,_,e => by
   refine xEEAAA e fun u r q a b => ?_
   have ih:=PR.look x b
   rw [q,Uht]
   show (∀ w,(if (k == x) = true then some v else lk x es) = some w -> _) ∧ ((if (k == x) = true then some v else lk x es) = none -> _)
   by_cases q:k = x
   · rw [if_pos q,if_pos (beq_iff_eq.mpr q)]
     exact ⟨fun w e => ⟨u,rfl,Uab e ▸ a⟩,fun e => (Uaa e.symm).elim⟩
   · rw [if_neg q,if_neg fun z => q (beq_iff_eq.mp z)]
     exact ih
theorem PR.len {g:Gh} {h:Heap}:∀ {es:List (Str × V)} {l:List (Str × Value)},PR g h es l -> l.length = es.length
 | [],_,e => by cases e; rfl
 | (k,v) :: es,_,e => xEEAAA e fun u r q a b => q ▸ congrArg (· + 1) (PR.len b)
section
variable {C:Cx} {A:Around} {g:Gh} {σ σ':Store} {s:Shared} {h:Heap}
theorem Rel.at_ (R:Rel C g σ h) {r i:Nat} {o:Ob} {u:Value} (e:σ.get r i = some o) (v:VR g h (.ref r i) u):∃ a d,u = .ref a ∧ g.ρ r i = some (a,d) ∧ OR C g h o a d :=
 xEEAA v fun a d q p => xEEAA (R.obj r i _ e) fun a' d' p' w => by
   cases Uab (p.symm.trans p')
   exact ⟨a,d,q,p,w⟩
theorem Rel.dict (R:Rel C g σ h) {r i:Nat} {es:List (Str × V)} {u:Value} (e:σ.get r i = some (.dict es)) (v:VR g h (.ref r i) u) :
   ∃ d l,u = .ref d ∧ g.ρ r i = some (d,d) ∧ h.DictOf (strKind C.prog C.w) d l ∧ PR g h es l ∧ es.length <= lim :=
 xEEAAA (R.at_ e v) fun a d q p w => xAEAAA w fun z l q1 q2 q3 => by cases z; exact ⟨a,l,q,p,q1,q2,q3⟩
theorem Rel.list (R:Rel C g σ h) {r i:Nat} {vs:List V} {u:Value} (e:σ.get r i = some (.list vs)) (v:VR g h (.ref r i) u) :
   ∃ d its n,u = .ref d ∧ g.ρ r i = some (d,d) ∧ h.get? d = some (lo its n) ∧ VRs g h vs its.toList ∧ vs.length <= lim :=
 xEEAAA (R.at_ e v) fun a d q p w => xAEEAAA w fun z its n q1 q2 q3 => by cases z; exact ⟨a,its,n,q,p,q1,q2,q3⟩
theorem Ulz (R:Rel C g σ h) {v:V} {es:List (Str × V)} {u:Value} (e:dictO σ v = some es) (hv:VR g h v u) :
   ∃ r i d l,v = .ref r i ∧ σ.get r i = some (.dict es) ∧ u = .ref d ∧ g.ρ r i = some (d,d) ∧ h.DictOf (strKind C.prog C.w) d l ∧ PR g h es l ∧ es.length <= lim:=obS e fun z q e => by
 have w:=Ubv q
 cases e
 exact xEEAAAAA (R.dict w.2 (w.1 ▸ hv)) fun d l q1 q2 q3 q4 q5 => ⟨_,_,d,l,w.1,w.2,q1,q2,q3,q4,q5⟩
theorem Uih {a:V} {u:Value} {vs:List V} (e:asSeq σ a = some vs) (R:Rel C g σ h) (v:VR g h a u):∃ x its n T,u = .ref x ∧ (T = "list" ∨ T = "tuple") ∧ h.get? x = some { cls:=.type T,data:=.seq its n } ∧ VRs g h vs its.toList ∧ vs.length <= lim :=
 obE e (fun ws q e => by cases e; cases Uf6 q; exact xEEEAAAAA v fun a its n q ho w0 hv l => ⟨a,its,n,"tuple",q,.inr rfl,ho,hv,l⟩)
   fun w0 e => xEEEAAAA (Ual e R v) fun a its n q ho hv l => ⟨a,its,n,"list",q,.inl rfl,ho,hv,l⟩
theorem Rel.notSys (F:Facts C) (R:Rel C g σ h) {r i:Nat} {a d:Addr} (p:g.ρ r i = some (a,d)):(d == sysModules) = false:=by
 exact beq_eq_false_iff_ne.mpr (Nat.ne_of_gt (R.zb d (R.st d ⟨r,i,a,p⟩)).2)
theorem in_seq {d:Nat} {x:V} {ux uc:Value} {dx:PyData} {ds:List PyData} {c:Bool} (Ro:Room A d) (R:Rel C g σ s.heap) (hx:VR g s.heap x ux) (ex:toD σ 8 x = some dx)
   {vs:List V} {cc:V} (hc':VR g s.heap cc uc) (ev:asSeq σ cc = some vs)
   (eds:toDs σ 8 vs = some ds) (hmix:∀ y ∈ ds,SeqAt.noMix y dx = true) (hc:ds.any (fun y => PyData.eqv y dx) = c):Two C A .In .NotIn ux uc g σ s c:=by
 refine xEAA (Uc1 R ex hx) fun as rx sx => ?_
 refine xEEEEAAAAA (Uih ev R hc') fun a its n T e hT ho hv w0 => ?_
 refine xEAAA (Urv R 8 vs eds hv) fun bs rc c1 c2 => ?_
 have hcc:decide (Spec.countIn dx ds ≠ 0) = c:=hc ▸ (any_eqv_countIn dx ds hmix).symm
 have h1:=congrArg Value.bool hcc
 have h2:=congrArg (fun b => Value.bool (!b)) hcc
 have sc:(PyData.canLayAll0 ds && decide (PyData.depthAll ds + 1 <= 64)) = true:=Bool.and_eq_true_iff.mpr ⟨c1,decide_eq_true (Nat.le_trans (Nat.succ_le_succ c2) (by decide))⟩
 cases e
 rcases hT with q | q
 · cases q
   exact ⟨Ev.same R fun Q E q => in_list_dataH (.list ho rfl rfl rc) rx sc sx Ro.u65 hmix (q _ s.toks h1),Ev.same R fun Q E q => notIn_list_dataH (.list ho rfl rfl rc) rx sc sx Ro.u65 hmix (q _ s.toks h2)⟩
 · cases q
   exact ⟨Ev.same R fun Q E q => in_tuple_dataH (.tuple ho rfl rfl rc) rx sc sx Ro.u65 hmix (q _ s.toks h1),Ev.same R fun Q E q => notIn_tuple_dataH (.tuple ho rfl rfl rc) rx sc sx Ro.u65 hmix (q _ s.toks h2)⟩
theorem Ufn:∀ (x y:List Str),PyData.eqvAll (y.map PyData.str) (x.map PyData.str) = (y == x)
 | [],[] => rfl
 | [],_ :: _ => rfl
 | _ :: _,[] => rfl
 | a :: x,b :: y => congrArg (fun z => (b == a) && z) (Ufn x y)
theorem Ud7:∀ (x y:List Str),SeqAt.noMixAll (y.map PyData.str) (x.map PyData.str) = true
 | [],[] => rfl
 | [],_ :: _ => rfl
 | _ :: _,[] => rfl
 | _ :: x,_ :: y => Ud7 x y
theorem Uk8 {β:Type} {f:V -> Option β} (g:β -> V) (k:β -> PyData) (eqb:β -> Bool) {da:PyData} {vs:List V} {l:List β} (e:allO f vs = some l) (H0:∀ v b,f v = some b -> v = g b) (H1:∀ b,toD σ 8 (g b) = some (k b))
   (H2:∀ b,SeqAt.noMix (k b) da = true) (H3:∀ b,PyData.eqv (k b) da = eqb b):∃ ds,toDs σ 8 vs = some ds ∧ (∀ y ∈ ds,SeqAt.noMix y da = true) ∧ ds.any (fun y => PyData.eqv y da) = l.any eqb:=by
 rw [Ugf H0 vs e]
 refine ⟨l.map k,Ulk H1 l,fun y hy => ?_,?_⟩
 · exact xEAA (List.mem_map.mp hy) fun b w0 q => q ▸ H2 b
 · rw [List.any_map]; exact congrArg l.any (funext H3)
theorem Une {a:V} {vs:List V} {r:Bool} (e:memV a vs = some r):∃ da,toD σ 8 a = some da ∧ ∃ ds,toDs σ 8 vs = some ds ∧ (∀ y ∈ ds,SeqAt.noMix y da = true) ∧ ds.any (fun y => PyData.eqv y da) = r :=
 obE e (fun x q e => obS e fun l q2 e => by cases e; cases Ubf q; exact ⟨.str x,rfl,Uk8 V.str PyData.str (· == x) q2 (fun w0 w0 => Ubf) (fun w0 => rfl) (fun w0 => rfl) fun w0 => rfl⟩)
   fun w0 e => obE e (fun x q e => obS e fun l q2 e => by cases e; cases Uby q; exact ⟨.int x,rfl,Uk8 V.int PyData.int (· == x) q2 (fun w0 w0 => Uby) (fun w0 => rfl) (fun w0 => rfl) fun w0 => rfl⟩)
   fun w0 e => obS e fun us q e => obS e fun x q1 e => obS e fun l q2 e => by
     cases e; cases Ueo q; cases Uhi q1
     have td:∀ b:List Str,toD σ 8 (.lst (b.map .str)) = some (.list (b.map .str)):=fun b => congrArg (fun o => ob o (fun ds => some (PyData.list ds)) none) (Up5 6 b)
     exact ⟨.list (x.map .str),td x,Uk8 (fun b => .lst (b.map .str)) (fun b => .list (b.map .str)) (· == x) q2 (fun v b z => obS z fun us w1 w2 => by cases Ueo w1; rw [Uhi w2]) td (fun y => show SeqAt.noMix (.list (y.map .str)) (.list (x.map .str)) = true from Ud7 x y) fun y => show PyData.eqv (.list (y.map .str)) (.list (x.map .str)) = _ from Ufn x y⟩
theorem inV_ok {d:Nat} {a c:V} {ua uc:Value} {r:Bool} (Fa:Facts C) (Ro:Room A d) (R:Rel C g σ s.heap) (ha:VR g s.heap a ua) (hc:VR g s.heap c uc) (e:inV σ a c = some r):Two C A .In .NotIn ua uc g σ s r:=by
 have sq:∀ {vs},asSeq σ c = some vs -> memV a vs = some r -> Two C A .In .NotIn ua uc g σ s r:=fun q e => xEAEAAA (Une (σ:=σ) e) fun da q1 ds q2 q3 q4 => in_seq Ro R ha q1 hc q q2 q3 q4
 refine obE e (fun x q1 e => obE e (fun y q2 e => ?_) fun w0 e => obE e (fun es q2 e => ?_) fun w0 e => obS e fun vs q e => sq q e) fun w0 e => obS e fun vs q e => sq q e
 · exact str2 (T:=fun u w => Two C A .In .NotIn u w g σ s r) q1 q2 ha hc fun t t' w0 w0 w0 w0 => ⟨Ev.same R fun Q E q => PyProof.Rows.in_str (q _ s.toks (congrArg Value.bool (Uab e))),Ev.same R fun Q E q => PyProof.Rows.notIn_str (q _ s.toks (congrArg (fun b => Value.bool (!b)) (Uab e)))⟩
 · refine str1 (T:=fun u => Two C A .In .NotIn u uc g σ s r) q1 ha fun t w0 w0 => ?_
   refine xEEEEAAAAAAA (Ulz R q2 hc) fun r' i dd l w0 w0 e2 p dO pr w0 => ?_
   have hb:(valueAt l x).isSome = r:=by
     rw [<- Uab e]
     cases q':lk x es with
     | none => rw [(PR.look x pr).2 q']; rfl
     | some v => exact xEAA ((PR.look x pr).1 v q') fun u hu w0 => by rw [hu]; rfl
   have hs:=R.notSys Fa p
   cases e2
   exact ⟨Ev.same R fun Q E q => wpAny_in_of (strKind_is _ _ x t) hs dO.mapOf (q _ _ (congrArg Value.bool hb)),Ev.same R fun Q E q => wpAny_notIn_of (strKind_is _ _ x t) hs dO.mapOf (q _ _ (congrArg (fun b => Value.bool (!b)) hb))⟩
theorem isV_ok {a b:V} {ua ub:Value} {r:Bool} (R:Rel C g σ s.heap) (ha:VR g s.heap a ua) (hb:VR g s.heap b ub) (e:isV a b = some r):Two C A .Is .IsNot ua ub g σ s r:=obS e fun x q e => by
 have hn:ub = .none:=by cases b <;> first | exact (Uaa q).elim | exact hb
 have key:(ua == .none) = r:=by
   cases a with
   | none => cases e; cases (show ua = .none from ha); rfl
   | ref r' i => cases e; exact xEEAA ha fun w0 w0 q w0 => q ▸ rfl
   | _ => exact (Uaa e).elim
 cases hn
 exact ⟨Ev.same R fun Q E q => PySem.is_none (q _ s.toks (congrArg Value.bool key)),Ev.same R fun Q E q => PySem.isNot_none (q _ s.toks (congrArg (fun b => Value.bool (!b)) key))⟩
theorem Ufo {d:Nat} {op:CmpOp} {a b:V} {ua ub:Value} {r:Bool} (Fa:Facts C) (Ro:Room A d) (R:Rel C g σ s.heap) (ha:VR g s.heap a ua) (hb:VR g s.heap b ub) (e:cmpV op a b σ = some r) :
   EvB C A (compareOp op ua ub) g σ s r:=by
 have ii:∀ (x y:Int) (q1:intO a = some x) (q2:intO b = some y),(∀ t t',EvB C A (compareOp op (.int x t) (.int y t')) g σ s r) -> EvB C A (compareOp op ua ub) g σ s r :=
   fun x y q1 q2 k => int2 (T:=fun u w => EvB C A (compareOp op u w) g σ s r) q1 q2 ha hb k
 have no:∀ {x y:CmpOp} {o:Option Bool},(∀ c,o = some c -> Two C A x y ua ub g σ s c) -> o.map (!·) = some r -> EvB C A (compareOp y ua ub) g σ s r:=fun k e =>
   xEAA (Option.map_eq_some_iff.mp e) fun c q w => w ▸ (k c q).2
 have bv:∀ {c:Bool},some c = some r -> Value.bool c = Value.bool r:=fun e => congrArg Value.bool (Uab e)
 cases op with
 | Eq => exact (eqV_ok Ro R ha hb e).1
 | NotEq => exact no (fun c q => eqV_ok Ro R ha hb q) e
 | Lt => exact ob2S e fun x y q1 q2 e => ii x y q1 q2 fun t t' => Ev.same R fun Q E q => PyProof.Rows.lt_int (q _ s.toks (bv e))
 | LtE => exact ob2E e (fun x y q1 q2 e => ii x y q1 q2 fun t t' => Ev.same R fun Q E q => PyProof.Rows.le_int (q _ s.toks (bv e))) fun e => ob2S e fun x y q1 q2 e => str2 (T:=fun u w => EvB C A (compareOp .LtE u w) g σ s r) q1 q2 ha hb fun t t' w0 w0 w0 w0 => Ev.same R fun Q E q => P.le_str (q _ s.toks (bv e))
 | Gt => exact ob2S e fun x y q1 q2 e => ii x y q1 q2 fun t t' => Ev.same R fun Q E q => PyProof.Rows.gt_int (q _ s.toks (bv e))
 | GtE => exact ob2S e fun x y q1 q2 e => ii x y q1 q2 fun t t' => Ev.same R fun Q E q => PyProof.Rows.ge_int (q _ s.toks (bv e))
 | Is => exact (isV_ok R ha hb e).1
 | IsNot => exact no (fun c q => isV_ok R ha hb q) e
 | In => exact (inV_ok Fa Ro R ha hb e).1
 | NotIn => exact no (fun c q => inV_ok Fa Ro R ha hb q) e
theorem isT_ok {v:V} {u:Value} {b:Bool} (R:Rel C g σ s.heap) (hv:VR g s.heap v u) (e:isT v = some b):Ev C A (truthy u) g σ s fun w0 w0 c => c = b:=by
 cases v with
 | bool c => cases (show u = .bool c from hv); exact Ev.same R fun Q E q => wpAny_truthy_bool (q _ s.toks (Uab e))
 | none => cases (show u = .none from hv); exact Ev.same R fun Q E q => PyProof.Rows.truthy_none (q _ s.toks (Uab e))
 | _ => exact (Uaa e).elim
end
end Mine
end
section
open PySem PySem.Calls PyProof.Rows PySem.W
namespace Mine
theorem Ubu {i:Int} {n j:Nat} (e:idx i n = some j):j < n ∧ (0 <= i ∧ j = i.toNat ∨ i < 0 ∧ 0 <= i + n ∧ j = (i + n).toNat):=by
 delta idx at e
 by_cases h:0 <= i
 · rw [if_pos h] at e
   exact iteS e fun q e => ⟨Uab e ▸ q,.inl ⟨h,(Uab e).symm⟩⟩
 · rw [if_neg h] at e
   exact iteS e fun q e => ⟨by cases e; omega,.inr ⟨Int.not_le.mp h,q,(Uab e).symm⟩⟩
theorem seq_at {i k:Int} {n:Nat} (e:(if i < 0 then i + n else i) = k) (h0:0 <= k) (h1:k.toNat < n):seqIndex? i n = some k.toNat:=by
 delta seqIndex?
 rw [e]
 exact if_pos (Bool.and_eq_true_iff.mpr ⟨decide_eq_true h0,decide_eq_true ((Int.toNat_lt h0).mp h1)⟩)
theorem Uoq {i:Int} {n j:Nat} (e:idx i n = some j):seqIndex? i n = some j:=by
 rcases (Ubu e).2 with q | q
 · rw [q.2]; exact seq_at (if_neg (Int.not_lt.mpr q.1)) q.1 (q.2 ▸ (Ubu e).1)
 · rw [q.2.2]; exact seq_at (if_pos q.1) q.2.1 (q.2.2 ▸ (Ubu e).1)
theorem Uhs {i:Int} {n j:Nat} (e:idx i n = some j) (h:n <= lim):-(2 ^ 63) <= i ∧ i < 2 ^ 63:=by
 have hn:(n:Int) <= 1000000:=Int.ofNat_le.mpr h
 rcases Ubu e with ⟨hj,q | q⟩
 · exact ⟨Int.le_trans (by decide) q.1,Int.lt_of_lt_of_le ((Int.toNat_lt q.1).mp (q.2 ▸ hj)) (Int.le_trans hn (by decide))⟩
 · exact ⟨Int.le_trans (Int.le_trans (by decide) (Int.neg_le_neg hn)) (by omega),Int.lt_trans q.1 (by decide)⟩
theorem Udz (slice:Expr) (o i:Value):∃ ops,subscripted slice false o i = operate ops (getItem o i):=by
 cases slice with
 | Slice lo hi st p => cases st <;> exact ⟨_,rfl⟩
 | _ => exact ⟨_,rfl⟩
theorem Uk4 {x:Str} (h:sOk x = true) {i:Nat} {c:Nat} (e:x.cps[i]? = some c):sOk ⟨#[c]⟩ = true:=by
 delta sOk at *
 rw [Array.all_eq_true_iff_forall_mem] at h
 have:=h c (Array.mem_of_getElem? e)
 simpa using this
theorem Uij:1 <= lim:=by delta lim; decide
section
variable {C:Cx} {A:Around} {g:Gh} {σ σ':Store} {s:Shared} {h:Heap}
theorem VR.isList {h:Heap} {x:Addr} {its:Array Value} {n:Nat} (e:h.get? x = some (lo its n)):h.IsList x its:=⟨_,e,rfl,n,rfl⟩
theorem VR.isTup {h:Heap} {x:Addr} {its:Array Value} {n:Nat} (e:h.get? x = some (tpo its n)):IsTup h x its:=⟨_,e,rfl,n,rfl⟩
theorem Upk {k:Int} {t:Tok} {x:Addr} {its:Array Value} {n:Nat} {T:String} {vs:List V} {value slice:Expr} {j:Nat} {v:V} (R:Rel C g σ s.heap) (hT:T = "list" ∨ T = "tuple") (ho:s.heap.get? x = some { cls:=.type T,data:=.seq its n })
   (hv':VRs g s.heap vs its.toList) (hl:vs.length <= lim) (hj:idx k vs.length = some j) (hv:vs[j]? = some v):EvV C A (subscriptTail value slice (.ref x) (.int k t)) g σ s v:=by
 refine xEA (Udz slice (.ref x) (.int k t)) fun ops hs => ?_
 refine xEAA (hv'.get hv) fun u hu hr => ?_
 have hlen:its.size = vs.length:=hv'.len
 have hf:=Uhs hj hl
 rw [Array.getElem?_toList] at hu
 rcases hT with q | q
 · cases q
   refine Ev.same R fun Q E q => tail_any (VR.isList ho).typeIs slot_list_getitem.lookup ?_ hs
   rcases (Ubu hj).2 with w | w
   · exact wpAny_getItem_list (VR.isList ho) w.1 hf.2 (w.2 ▸ hu) (q _ s.toks hr)
   · rw [<- hlen] at w
     exact wpAny_getItem_list_neg (VR.isList ho) w.1 (by omega) hf.1 (w.2.2 ▸ hu) (q _ s.toks hr)
 · cases q
   exact Ev.same R fun Q E q => tail_any (VR.isTup ho).typeIs slot_tuple_getitem.lookup (getItem_tuple (VR.isTup ho) hf.1 hf.2 (hlen ▸ Uoq hj) hu (q _ s.toks hr)) hs
theorem Upl {value slice:Expr} {o i v:V} {uo ui:Value} (R:Rel C g σ s.heap) (ho:VR g s.heap o uo) (hi:VR g s.heap i ui) (e:itemV o i σ = some v):EvV C A (subscriptTail value slice uo ui) g σ s v:=by
 refine obE e (fun x q1 e => obS e fun k q2 e => obS e fun j hj e => ?_) fun w0 e => obE e (fun es q1 e => obS e fun x q2 e => ?_) fun w0 e => obS e fun k q2 e => obS e fun vs ha e => obS e fun j hj e => ?_
 · refine str1 (T:=fun u => EvV C A (subscriptTail value slice u ui) g σ s v) q1 ho fun t o1 l1 => int1 (T:=fun u => EvV C A (subscriptTail value slice (.str x t) u) g σ s v) q2 hi fun t' => ?_
   refine xEA (Udz slice (.str x t) (.int k t')) fun ops hs => ?_
   have hc:x.cps[j]? = some (x.cps.getD j 0):=by
     have:j < x.cps.size:=(Ubu hj).1
     simp [Array.getD,this]
   have hf:=Uhs hj l1
   exact Ev.same R fun Q E q => tail_any (typeIs_str s x t) F.slot_str_getitem.lookup (getItem_str (c:=x.cps.getD j 0) (Bool.or_eq_false_iff.mpr ⟨decide_eq_false (Int.not_lt.mpr hf.1),decide_eq_false (Int.not_le.mpr hf.2)⟩)
     ((congrArg (Option.bind · (x.cps[·]?)) (Uoq hj)).trans hc) (q _ _ (Uab e ▸ VR.mkStr (Uk4 o1 hc) Uij))) hs
 · refine xEEEEAAAAAAA (Ulz R q1 ho) fun r j dd l w0 w0 e2 p dO pr w0 => ?_
   refine str1 (T:=fun u => EvV C A (subscriptTail value slice uo u) g σ s v) q2 hi fun t w0 w0 => ?_
   cases e2
   refine xEA (Udz slice (.ref dd) (.str x t)) fun ops hs => ?_
   exact xEAA ((PR.look x pr).1 v e) fun u hu hr => Ev.same R fun Q E q => tail_any dO.typeIs slot_dict_getitem.lookup (wpAny_getItem_of (strKind_is _ _ x t) dO.mapOf hu (q _ _ hr)) hs
 · refine xEEEEAAAAA (Uih ha R ho) fun x its n T e2 hT hg hv hl => ?_
   cases e2
   exact int1 (T:=fun u => EvV C A (subscriptTail value slice (.ref x) u) g σ s v) q2 hi fun t => Upk R hT hg hv hl hj e
theorem VRs.pick {vs:List V} {us:List Value} (h':VRs g h vs us):∀ (js:List Nat),VRs g h (js.filterMap (vs[·]?)) (js.filterMap (us[·]?))
 | [] => by simp [VRs]
 | j :: js => by
   have ih:=VRs.pick h' js
   cases hn:vs[j]? with
   | some n =>
     refine xEAA (h'.get hn) fun u hv hr => ?_
     simp only [List.filterMap_cons,hn,hv,VRs]
     exact ⟨u,_,rfl,hr,ih⟩
   | none =>
     have hv:us[j]? = none:=by
       rw [List.getElem?_eq_none_iff] at hn ⊢
       rw [h'.len]; exact hn
     simp only [List.filterMap_cons,hn,hv]
     exact ih
noncomputable def OVR (g:Gh) (h:Heap):Option V -> Value -> Prop
 | none,u => u = .none
 | some v,u => VR g h v u
theorem Ua5 {o:Option V} {x:Option Int} (e:optInt o = some x) {u:Value} (hu:OVR g h o u):IsPart u x ∧ ∃ q:Option (Int × Tok),u = partValue q ∧ q.map (·.1) = x:=by
 cases o with
 | none => cases e; cases (show u = .none from hu); exact ⟨.none,none,rfl,rfl⟩
 | some v =>
   refine obS e fun i q e => ?_
   cases e
   exact int1 (T:=fun u => IsPart u (some i) ∧ ∃ q:Option (Int × Tok),u = partValue q ∧ q.map (·.1) = some i) q hu fun t => ⟨.int i t,some (i,t),rfl,rfl⟩
theorem Uj7 {items:Array Value} {vs:List V} (lo hi:Option Int) (h':VRs g h vs items.toList):VRs g h (sliceL lo hi vs) (slicePick items lo hi none).toList:=by
 rw [slicePick_plain]
 have:=h'.len
 rw [Array.length_toList] at this
 delta sliceL
 rw [this]
 simp only []
 exact (h'.drop _).take _
theorem Ukn {α:Type} (lo hi:Option Int) (l:List α):(sliceL lo hi l).length <= l.length :=
 Nat.le_trans (List.length_take_le' _ _) (Nat.le_trans (Nat.le_of_eq List.length_drop) (Nat.sub_le _ _))
theorem Ung {value slice:Expr} {z:Str} {x y:Option Int} {v:V} {ul uh:Value} {t:Tok} {a:Addr} (R:Rel C g σ s.heap) (o1:sOk z = true) (l1:z.length <= lim)
   (p1:∃ q:Option (Int × Tok),ul = partValue q ∧ q.map (·.1) = x) (p2:∃ q:Option (Int × Tok),uh = partValue q ∧ q.map (·.1) = y)
   (ha:s.heap.get? a = some { cls:=.type "slice",data:=.fields #[ul,uh,.none] }) (e:sliceS z x y = some v):EvV C A (subscriptTail value slice (.str z t) (.ref a)) g σ s v:=iteS e fun hc e => by
 refine xEA (Udz slice (.str z t) (.ref a)) fun ops hs => xEAA p1 fun q1 e1 f1 => xEAA p2 fun q2 e2 f2 => ?_
 cases e; cases f1; cases f2; cases e1; cases e2
 have ok:VR g s.heap (.str ⟨((slicePicked z q1 q2 none).filterMap (z.cps[·]?)).toArray⟩) (.str ⟨((slicePicked z q1 q2 none).filterMap (z.cps[·]?)).toArray⟩ s.toks):=VR.mkStr hc.2.1 hc.1
 refine Ev.same R fun Q E q => tail_any (typeIs_str s z t) F.slot_str_getitem.lookup (wpAny_getItem_str_slice (l:=q1) (u:=q2) (st:=none) ⟨_,ha,rfl,rfl⟩ rfl ?_) hs
 by_cases w:(slicePicked z q1 q2 none).length = z.length
 · have e3:sliceMade z t q1 q2 none = .val (.str z t):=if_pos (beq_iff_eq.mpr w)
   have e4:(⟨((slicePicked z q1 q2 none).filterMap (z.cps[·]?)).toArray⟩:Str) = z:=congrArg (fun l:List Nat => (⟨l.toArray⟩:Str)) (hc.2.2 w)
   rw [e3]
   exact q _ s.toks ⟨t,congrArg (Value.str · t) e4.symm,hc.2.1,hc.1⟩
 · have e3:sliceMade z t q1 q2 none = .str ⟨((slicePicked z q1 q2 none).filterMap (z.cps[·]?)).toArray⟩:=if_neg fun h => w (beq_iff_eq.mp h)
   rw [e3]
   exact ⟨Uah hc.1,q _ _ ok⟩
theorem Umk {value slice:Expr} {o v:V} {lo hi:Option V} {uo ul uh:Value} {a:Addr} (R:Rel C g σ s.heap) (ho:VR g s.heap o uo)
   (hl:OVR g s.heap lo ul) (hh:OVR g s.heap hi uh)
   (ha:s.heap.get? a = some { cls:=.type "slice",data:=.fields #[ul,uh,.none] }) (e:sliceV o lo hi σ = some v):EvV C A (subscriptTail value slice uo (.ref a)) g σ s v :=
 obS e fun x hx e => obS e fun y hy e => obE e
   (fun z q1 e => str1 (T:=fun u => EvV C A (subscriptTail value slice u (.ref a)) g σ s v) q1 ho fun t o1 l1 => Ung R o1 l1 (Ua5 hx hl).2 (Ua5 hy hh).2 ha e)
   fun w0 e => obS e fun vs hv e => xEEEAAAA (Ual hv R ho) fun b its n e2 hg hr hl' => xEA (Udz slice (.ref b) (.ref a)) fun ops hs => by
     cases e; cases e2
     have hlen:its.size = vs.length:=hr.len
     exact Ev.up R fun Q E q => tail_any (VR.isList hg).typeIs slot_list_getitem.lookup (wpAny_getItem_list_slice (VR.isList hg) ⟨_,ha,rfl,rfl⟩ (Ua5 hx hl).1 (Ua5 hy hh).1 .none (by simp)
       (q _ _ (fun b o e => Heap.get?_push_of_some _ e) rfl rfl (VR.newList (k:=0) R (Uj7 x y hr) (Nat.le_trans (Ukn _ _ _) hl'))) (Uah (hlen ▸ hl'))) hs
theorem Unj {vs:List V} {us:Array Value} (h':VRs g h vs us.toList) (lo hi:Option Int) (k:Int):(stepL lo hi k vs).length <= vs.length:=by
 have hlen:=h'.len
 rw [Array.length_toList] at hlen
 have e:=(h'.pick (sliceRange (sliceBounds lo hi (some k) vs.length).1 (sliceBounds lo hi (some k) vs.length).2.1 (sliceBounds lo hi (some k) vs.length).2.2)).len
 have:=slicePick_size_le us lo hi (some k)
 unfold slicePick at this
 rw [List.size_toArray,hlen] at this
 simp only [Array.getElem?_toList] at e
 rw [e] at this
 exact this
theorem Upv {value slice:Expr} {o v w:V} {lo hi:Option V} {uo ul uh uw:Value} {a:Addr} (R:Rel C g σ s.heap) (ho:VR g s.heap o uo)
   (hl:OVR g s.heap lo ul) (hh:OVR g s.heap hi uh) (hw:VR g s.heap w uw)
   (ha:s.heap.get? a = some { cls:=.type "slice",data:=.fields #[ul,uh,uw] }) (e:stepV o lo hi w σ = some v):EvV C A (subscriptTail value slice uo (.ref a)) g σ s v :=
 obS e fun x hx e => obS e fun y hy e => obS e fun k hk e => obS e fun vs hv e => iteS e fun k0 e => by
   refine xEEEAAAA (Ual hv R ho) fun b its n e2 hg hr hl' => xEA (Udz slice (.ref b) (.ref a)) fun ops hs => xEA (Uby hk ▸ hw:VR g s.heap (.int k) uw) fun t e3 => ?_
   cases e; cases e2; cases e3
   have hlen:its.size = vs.length:=hr.len
   refine Ev.up R fun Q E q => tail_any (VR.isList hg).typeIs slot_list_getitem.lookup (wpAny_getItem_list_slice (VR.isList hg) ⟨_,ha,rfl,rfl⟩ (Ua5 hx hl).1 (Ua5 hy hh).1 (.int k t) (by simpa using k0)
     (q _ _ (fun b o e => Heap.get?_push_of_some _ e) rfl rfl (VR.newList (k:=0) R ?_ (Nat.le_trans (Unj hr _ _ _) hl'))) (Uah (hlen ▸ hl'))) hs
   have:=hr.pick (sliceRange (sliceBounds x y (some k) vs.length).1 (sliceBounds x y (some k) vs.length).2.1 (sliceBounds x y (some k) vs.length).2.2)
   delta slicePick stepL
   rw [hlen]
   simpa only [Array.getElem?_toList] using this
end
end Mine
end
section
open PySem PySem.Calls PyProof.Rows PySem.W
namespace Mine
noncomputable def clsOk (K:Frag) (c:Addr) (k:Cls):Bool :=
 plainGet K c "" && hasDictIn K c && plainOver K c && makesIn K c && findIn K (.ref c) "__setattr__" == some (some (.builtin "object.__setattr__")) &&
 findIn K (.ref c) "__init__" == some (some (.ref k.init)) && typeIn K (.ref k.init) == some (.type "function") && keepIn K (.ref c) &&
 k.attrs.all (fun x => findIn K (.ref c) x == some none) &&
 k.meths.all (fun p => findIn K (.ref c) p.1 == some (some (.ref p.2)) && isFn K (.ref p.2))
structure ClsFacts (K:Frag) (c:Addr) (k:Cls):Prop where
 get:plainGet K c "" = true
 dict:hasDictIn K c = true
 over:plainOver K c = true
 makes:makesIn K c = true
 set:findIn K (.ref c) "__setattr__" = some (some (.builtin "object.__setattr__"))
 init:findIn K (.ref c) "__init__" = some (some (.ref k.init))
 ifn:typeIn K (.ref k.init) = some (.type "function")
 keep:keepIn K (.ref c) = true
 attrs:∀ x,k.attrs.contains x = true -> findIn K (.ref c) x = some none
 meths:∀ x f,lk x k.meths = some f -> findIn K (.ref c) x = some (some (.ref f)) ∧ isFn K (.ref f) = true
theorem lk_hit {α:Type} {x:Str} {v:α} {r:List (Str × α)}:lk x ((x,v) :: r) = some v:=if_pos (beq_self_eq_true x)
theorem Udl {α:Type} {x y:Str} {v:α} {r:List (Str × α)} (h:y ≠ x):lk x ((y,v) :: r) = lk x r:=if_neg fun z => h (beq_iff_eq.mp z)
theorem Ub9 {α:Type} {x:Str} {v w:α} {r:List (Str × α)}:setK x v ((x,w) :: r) = (x,v) :: r:=if_pos (beq_self_eq_true x)
theorem Ubc {α:Type} {x y:Str} {v w:α} {r:List (Str × α)} (h:y ≠ x):setK x v ((y,w) :: r) = (y,w) :: setK x v r:=if_neg fun z => h (beq_iff_eq.mp z)
theorem lk_mem {α:Type} {x:Str} {v:α}:∀ {l:List (Str × α)},lk x l = some v -> (x,v) ∈ l
 | [],e => (Uaa e).elim
 | (y,w) :: r,e => by
   by_cases q:y = x
   · subst q; rw [lk_hit] at e; cases e; exact List.mem_cons_self
   · rw [Udl q] at e; exact List.mem_cons_of_mem _ (lk_mem e)
theorem Ujl {K:Frag} {c:Addr} {k:Cls} (h:clsOk K c k = true):ClsFacts K c k:=by
 have l:∀ {a b:Bool},(a && b) = true -> a = true:=fun h => (Bool.and_eq_true_iff.mp h).1
 have r:∀ {a b:Bool},(a && b) = true -> b = true:=fun h => (Bool.and_eq_true_iff.mp h).2
 have h9:=l h
 have h8:=l h9
 have h7:=l h8
 have h6:=l h7
 have h5:=l h6
 have h4:=l h5
 have h3:=l h4
 have h2:=l h3
 exact ⟨l h2,r h2,r h3,r h4,beq_iff_eq.mp (r h5),beq_iff_eq.mp (r h6),beq_iff_eq.mp (r h7),r h8,fun x hx => beq_iff_eq.mp (List.all_eq_true.mp (r h9) x (List.contains_iff_mem.mp hx)),
   fun x f e => (fun q => ⟨beq_iff_eq.mp (l q),r q⟩) (List.all_eq_true.mp (r h) (x,f) (lk_mem e))⟩
section
variable {C:Cx} {A:Around} {g:Gh} {σ σ':Store} {s:Shared} {h:Heap}
theorem ER.noRef:∀ {es:List (Str × V)} {l:List DictEntry},ER g h es l -> l.any (·.refKey) = false
 | [],_,e => by cases e; rfl
 | (x,v) :: es,_,e => xEEAAAA e fun d r q k w0 q' => xEA k fun t hk => by
   rw [q,List.any_cons,ER.noRef q',Bool.or_false]
   delta DictEntry.refKey
   rw [hk]
theorem ER.find (x:Str):∀ {es:List (Str × V)} {l:List DictEntry},ER g h es l ->
   (∀ v,lk x es = some v -> ∃ d,l.find? (·.key.isStr x) = some d ∧ VR g h v d.val) ∧ (lk x es = none -> l.find? (·.key.isStr x) = none)
 | [],_,e => by cases e; exact ⟨fun v q => (Uaa q).elim,fun w0 => rfl⟩
 | (y,w) :: es,_,e => xEEAAAA e fun d r q k hv q' => xEA k fun t hk => by
   have hs:d.key.isStr x = (y == x):=by rw [hk]; rfl
   rw [q,List.find?_cons,hs]
   by_cases z:y = x
   · subst z
     rw [lk_hit,beq_self_eq_true]
     exact ⟨fun v e => ⟨d,rfl,Uab e ▸ hv⟩,fun e => (Uaa e.symm).elim⟩
   · rw [Udl z,beq_eq_false_iff_ne.mpr z]
     exact ER.find x q'
theorem ER.get (x:Str) {es:List (Str × V)} {l:List DictEntry} (e:ER g h es l) :
   (∀ v,lk x es = some v -> ∃ u,getL x l = some (some u) ∧ VR g h v u) ∧ (lk x es = none -> getL x l = some none):=by
 delta getL
 refine ⟨fun v hv => xEAA ((ER.find x e).1 v hv) fun d hd r => ?_,fun hn => ?_⟩
 · rw [hd]; exact ⟨_,rfl,r⟩
 · rw [(ER.find x e).2 hn]; exact if_neg (by rw [ER.noRef e]; exact Bool.false_ne_true)
theorem ER.put (x:Str) {hsh:Int} {t:Tok} {v:V} {u:Value} (r:VR g h v u):∀ {es:List (Str × V)} {l:List DictEntry},ER g h es l -> ER g h (setK x v es) (putL x hsh (.str x t) u l)
 | [],_,e => by cases e; exact ⟨_,[],rfl,⟨t,rfl⟩,r,rfl⟩
 | (y,w) :: es,_,e => xEEAAAA e fun d rest q k hv q' => xEA k fun t' hk => by
   have hs:d.key.isStr x = (y == x):=by rw [hk]; rfl
   cases q
   by_cases z:y = x
   · cases z
     rw [Ub9]
     show ER g h _ (if d.key.isStr x = true then _ else _)
     rw [if_pos (hs.trans (beq_self_eq_true _))]
     exact ⟨_,rest,rfl,⟨t',hk⟩,r,q'⟩
   · rw [Ubc z]
     show ER g h _ (if d.key.isStr x = true then _ else _)
     rw [if_neg (by rw [hs]; exact fun w => z (beq_iff_eq.mp w))]
     exact ⟨d,_,rfl,⟨t',hk⟩,hv,ER.put x r q'⟩
theorem ER.len:∀ {es:List (Str × V)} {l:List DictEntry},ER g h es l -> l.length = es.length
 | [],_,e => by cases e; rfl
 | (x,v) :: es,_,e => xEEAAAA e fun d r q w0 w0 q' => q ▸ congrArg (· + 1) (ER.len q')
theorem Uf0 {α:Type} (x:Str) (v:α):∀ es:List (Str × α),(setK x v es).length <= es.length + 1
 | [] => Nat.le_refl _
 | (y,w) :: es => by
   by_cases z:y = x
   · subst z; rw [Ub9]; exact Nat.le_succ _
   · rw [Ubc z]; exact Nat.succ_le_succ (Uf0 x v es)
theorem Umo {v:V} {u:Value} (r:VR g h v u):handedIn u = true:=by
 cases v with
 | int => exact xEA r fun t q => q ▸ rfl
 | str => exact xEAA r fun t q w0 => q ▸ rfl
 | tup => exact xEEEAA r fun a w0 w0 q w0 => q ▸ rfl
 | lst => exact xEEEAA r fun a w0 w0 q w0 => q ▸ rfl
 | rng => exact xEEEEAA r fun a w0 w0 w0 q w0 => q ▸ rfl
 | ref => exact xEEAA r fun a w0 q w0 => q ▸ rfl
 | bi n => cases (show u = biVal n from r); cases n <;> first | rfl | decide +kernel
 | _ => cases (show u = _ from r); rfl
theorem Rel.inst (R:Rel C g σ h) {r i:Nat} {c:Addr} {es:List (Str × V)} {u:Value} (e:σ.get r i = some (.inst c es)) (v:VR g h (.ref r i) u) :
   ∃ a d l n,u = .ref a ∧ g.ρ r i = some (a,d) ∧ h.get? a = some (instObj c d) ∧ ¬ g.Z a ∧ h.get? d = some (dictOf l n) ∧ ER g h es l ∧ es.length <= 100 :=
 xEEAAA (R.at_ e v) fun a d q p o => xAAEEAAA o fun q1 q2 l n q3 q4 q5 => ⟨a,d,l,n,q,p,q1,q2,q3,q4,q5⟩
theorem Ufg {P:Prog} {v:V} {z:Nat × Nat × Addr × List (Str × V) × Cls} (e:instO P σ v = some z):v = .ref z.1 z.2.1 ∧ σ.get z.1 z.2.1 = some (.inst z.2.2.1 z.2.2.2.1) ∧ lkN z.2.2.1 P.clss = some z.2.2.2.2:=obS e fun o q e => obS e fun c q2 e => obS e fun k q3 e => by
 cases e
 exact ⟨(Ucg q).1,(Ucg q).2.trans (congrArg some (by cases h:o.2.2 <;> rw [h] at q2 <;> first | exact (Uaa q2).elim | (cases q2; rfl))),q3⟩
noncomputable abbrev CF (C:Cx):Prop:=∀ c k,lkN c C.P.clss = some k -> ClsFacts C.K c k
theorem Facts.here (F:Facts C) (R:Rel C g σ h):C.K.In h:=F.X.keeps R.base
theorem lookS {α:Type} {f:Store -> Option α} {a:α} {P:Prop} (e:look f σ = some (a,σ')) (k:f σ = some a -> σ = σ' -> P):P:=by
 delta look at e
 cases q:f σ with
 | none => rw [q] at e; exact (Uaa e).elim
 | some b => rw [q] at e; cases e; exact k q rfl
theorem Ukk {o v:V} {x:Str} {uo:Value} {ex:Bool} (F:Facts C) (cf:CF C) (R:Rel C g σ s.heap) (ho:VR g s.heap o uo) (e:attrV C.P o x σ = some (v,σ')):EvV C A (getAttr uo x ex) g σ' s v :=
 lookS e fun e z => z ▸ obS e fun z q e => iteS e fun ha e => by
   have w:=Ufg q
   refine xEEEEAAAAAAA (R.inst w.2.1 (w.1 ▸ ho)) fun a d l n e2 p q1 w0 q3 q4 w0 => xEAA ((ER.get x q4).1 v e) fun u hu hr => ?_
   cases e2
   have f:=cf _ _ w.2.2
   exact Ev.same R fun Q E qq => get_value (F.here R) ⟨q1,rfl,rfl,q3⟩ (plainGet_of (show plainGet C.K _ x = true from f.get)).1 (findObj_own f.dict (f.attrs x ha) rfl (show lookIn x (dictOf l n) = some (some u) from hu)) (Umo hr) (qq _ _ hr)
theorem Uh0 {c x d:Addr} {k:Cls} {l:List DictEntry} {n:Nat} {name:Str} {v:Value} {Q:Unit -> Shared -> Prop} {E:Value -> Shared -> Prop} (X:C.K.In s.heap) (f:ClsFacts C.K c k) (hn:k.attrs.contains name = true)
   (hx:s.heap.get? x = some (instObj c d)) (hd:s.heap.get? d = some (dictOf l n)) (hl:(getL name l).isSome = true) (hz:(putL name (PyData.keyHash C.w.params name) (.str name (s.toks + 1)) v l).length <= 1000)
   (h:∀ h' n',Heap.SameBut d s.heap h' -> h'.get? d = some (dictOf (putL name (PyData.keyHash C.w.params name) (.str name (s.toks + 1)) v l) n') -> Q () { s with heap:=h',toks:=s.toks + 2 }) :
   wpAny (model C.prog C.w) A (setAttr (.ref x) name v) Q E s:=by
 have I:InstAt s.heap x (instObj c d) c (some (dictOf l n)):=⟨hx,rfl,rfl,hd⟩
 refine set_plain X I f.set ?_
 have I':InstAt ({ s with toks:=s.toks + 1 }:Shared).heap x (instObj c d) c (some (dictOf l n)):=I
 refine osa_open (s:={ s with toks:=s.toks + 1 }) (r:=none) X I' f.over (by delta takerIn; rw [f.attrs name hn]; rfl) fun b => ?_
 refine xEAA (any_some f.dict) fun cd hc hd' => ?_
 have D:({ s with toks:=s.toks + 1 }:Shared).heap.get? d = some ⟨.type "dict",none,.dict l.toArray n,#[]⟩:=hd
 have D':(s.heap.update d (Obj.putName name (PyData.keyHash C.w.params name) (.str name (s.toks + 1)) v)).get? d = some (dictOf (putL name (PyData.keyHash C.w.params name) (.str name (s.toks + 1)) v l) (putN name l n)):=by
   rw [<- putName_dict]
   exact Heap.get?_update_self _ hd (by rw [putName_dict]; rfl)
 have hx':({ s with toks:=s.toks + 1 }:Shared).heap.get? x = some ⟨.ref c,some d,.plain,#[]⟩:=hx
 clear I I' hx
 have X':C.K.In ({ s with toks:=s.toks + 1 }:Shared).heap:=X
 refine wpAny_bind (wpAny_pure (wpAny_bind (wpAny_bind (wpAny_loadPart hx' (wpAny_bind ((looks_clsIn X' hc).here ?_))))))
 rw [hd']
 refine wpAny_pure (a:=some d) (wpAny_bind (wpAny_pure (wpAny_bind ?_)))
 delta nsSet
 refine wpAny_bind (wpAny_bind (wpAny_askSetting (wpAny_pure (wpAny_bind (wpAny_mkText (wpAny_bind (wpAny_loadPart D ?_)))))))
 try dsimp only
 have c:(!l.toArray.any (·.key.isStr name) && l.toArray.any (·.refKey)) = false:=by
   rw [<- Array.any_toList,<- Array.any_toList]
   delta getL at hl
   split at hl
   · rename_i en he
     rw [List.any_eq_true.mpr ⟨en,List.mem_of_find?_eq_some he,List.find?_some he⟩]; rfl
   · split at hl
     · cases hl
     · rename_i z; rw [Bool.not_eq_true] at z; rw [z,Bool.and_false]
 rw [aRefKeyMayBeTheName_at,c]
 refine wpAny_updatePart D ?_
 refine wpAny_bind (wpAny_lookBehind D' (pastItsLine_dict (by rw [List.size_toArray,sizeLine_eq]; omega)) ?_)
 exact wpAny_pure (h _ _ (Heap.SameBut.update _ _ _) D')
theorem Ufl {o v:V} {x:Str} {uo uv:Value} (F:Facts C) (cf:CF C) (R:Rel C g σ s.heap) (ho:VR g s.heap o uo) (hv:VR g s.heap v uv) (e:setAttrV C.P o x v σ = some ((),σ')) :
   Ev C A (setAttr uo x uv) g σ' s fun w0 w0 w0 => True:=obS e fun z q e => iteS e fun ha e => by
 have w:=Ufg q
 cases e
 have ha:=Bool.and_eq_true_iff.mp ha
 refine xEEEEAAAAAAA (R.inst w.2.1 (w.1 ▸ ho)) fun a d l n e2 p q1 q2 q3 q4 w0 => ?_
 cases e2
 have hl:(getL x l).isSome = true:=by
   cases z:lk x _ with
   | none => rw [(ER.get x q4).2 z]; rfl
   | some v => exact xEAA ((ER.get x q4).1 v z) fun u hu w0 => by rw [hu]; rfl
 have hlen:(setK x v z.2.2.2.1).length <= 100:=Nat.le_trans (Uf0 x v _) (of_decide_eq_true ha.2)
 intro _ Q E qq
 refine Uh0 (F.here R) (cf _ _ w.2.2) ha.1 q1 q3 hl (Nat.le_trans (Nat.le_of_eq (ER.put (hsh:=PyData.keyHash C.w.params x) (t:=s.toks + 1) x hv q4).len) (Nat.le_trans hlen (by decide))) fun h' n' sb hd => ?_
 have had:a ≠ d:=fun z => q2 (by subst z; exact R.st _ ⟨_,_,_,p⟩)
 refine xAA (R.put (s':={ s with heap:=h',toks:=s.toks + 2 }) (o':=.inst _ (setK x v _)) w.2.1 p sb (Uaf hd) rfl rfl fun t => ⟨(sb.2 a had).trans q1,q2,_,n',hd,
     ER.tr t R.st (fun w0 f => f.elim) _ (ER.put x hv q4),hlen⟩) fun t R' => qq () _ g t R' trivial
theorem Rel.putL (R:Rel C g σ s.heap) {r i:Nat} {vs ws:List V} {d:Addr} {its:Array Value} {n:Nat} {s':Shared} (q:σ.get r i = some (.list vs)) (p:g.ρ r i = some (d,d)) (sb:Heap.SameBut d s.heap s'.heap) (hg:s'.heap.get? d = some (lo its n))
   (h1:s'.gens = s.gens) (h2:s'.os = s.os) (hr:VRs g s.heap ws its.toList) (hl:ws.length <= lim):Tr (fun w0 => False) g s g s' ∧ Rel C g (σ.put r i (.list ws)) s'.heap :=
 R.put q p sb (Uaf hg) h1 h2 fun t' => ⟨rfl,_,n,hg,VRs.tr' hr R t',hl⟩
theorem DictOf.live {P:Program} {w:World} {d:Addr} {l:List (Str × Value)} (e:h.DictOf (strKind P w) d l):h.get? d ≠ none :=
 xEEEA e fun o w0 w0 q => Uaf q.1
theorem Rel.putD (R:Rel C g σ s.heap) {r i:Nat} {es fs:List (Str × V)} {d:Addr} {l:List (Str × Value)} {s':Shared} (q:σ.get r i = some (.dict es)) (p:g.ρ r i = some (d,d)) (sb:Heap.SameBut d s.heap s'.heap) (hg:s'.heap.DictOf (strKind C.prog C.w) d l)
   (h1:s'.gens = s.gens) (h2:s'.os = s.os) (hr:PR g s.heap fs l) (hl:fs.length <= lim):Tr (fun w0 => False) g s g s' ∧ Rel C g (σ.put r i (.dict fs)) s'.heap :=
 R.put q p sb (DictOf.live hg) h1 h2 fun t' => ⟨rfl,_,hg,PR.tr t' R.st (fun w0 f => f.elim) _ hr,hl⟩
end
end Mine
end
section
open PySem PySem.Calls PyProof.Rows PySem.W
namespace Mine
theorem Udv {x:Str} {u:Value}:∀ {l:List (Str × Value)},(l.map (·.1)).Nodup -> stored l x u = setK x u l
 | [],_ => rfl
 | (y,w) :: r,h => by
   have h:=List.nodup_cons.mp h
   have ih:=Udv (x:=x) (u:=u) h.2
   unfold stored at ih ⊢
   rw [List.any_cons,List.map_cons]
   by_cases q:y = x
   · subst q
     have nr:∀ kv ∈ r,kv.1 ≠ y:=fun kv hk e => h.1 (List.mem_map.mpr ⟨kv,hk,e⟩)
     have e:r.map (fun kv => if kv.1 = y then (kv.1,u) else kv) = r:=(List.map_congr_left fun kv hk => if_neg (nr kv hk)).trans (List.map_id r)
     rw [Ub9,decide_eq_true rfl,Bool.true_or,if_pos rfl,if_pos rfl,e]
   · rw [Ubc q,<- ih,decide_eq_false q,Bool.false_or,if_neg q]
     cases List.any r fun kv => decide (kv.1 = x) <;> rfl
section
variable {C:Cx} {A:Around} {g:Gh} {σ σ':Store} {s:Shared} {h:Heap}
theorem PR.put (x:Str) {v:V} {u:Value} (r:VR g h v u):∀ {es:List (Str × V)} {l:List (Str × Value)},PR g h es l -> PR g h (setK x v es) (setK x u l)
 | [],_,e => by cases e; exact ⟨u,[],rfl,r,rfl⟩
 | (y,w) :: es,_,e => xEEAAA e fun d rest q hv q' => by
   cases q
   by_cases z:y = x
   · cases z; rw [Ub9,Ub9]; exact ⟨u,rest,rfl,r,q'⟩
   · rw [Ubc z,Ubc z]; exact ⟨d,_,rfl,hv,PR.put x r q'⟩
theorem DictOf.nodup {P:Program} {w:World} {d:Addr} {l:List (Str × Value)} (e:h.DictOf (strKind P w) d l):(l.map (·.1)).Nodup:=by
 refine xEEEAAAAAA e fun w0 w0 w0 w0 w0 w0 w0 w0 n => ?_; exact n
theorem Ujo {o k v:V} {uo uk uv:Value} (R:Rel C g σ s.heap) (ho:VR g s.heap o uo) (hk:VR g s.heap k uk) (hv:VR g s.heap v uv) (e:setItemV o k v σ = some ((),σ')) :
   Ev C A (setItem uo uk uv) g σ' s fun w0 w0 w0 => True:=by
 refine obE e (fun x q1 e => obS e fun z q2 e => iteS e fun hl e => ?_) fun w0 e => obS e fun j q1 e => obS e fun z q2 e => obS e fun m hm e => ?_
 · have w:=Ubv q2
   cases e
   refine str1 (T:=fun u => Ev C A (setItem uo u uv) g _ s fun w0 w0 w0 => True) q1 hk fun t w0 w0 => ?_
   refine xEEAAAAA (R.dict w.2 (w.1 ▸ ho)) fun d l e2 p dO pr w0 => ?_
   cases e2
   intro _ Q E qq
   refine wpAny_setItem_pairs (strKind_is _ _ x t) dO (fun h' dO' sb => ?_) (Uah (Nat.le_trans (Nat.le_of_eq pr.len) (Nat.le_of_lt hl)))
   rw [Udv (DictOf.nodup dO)] at dO'
   exact xAA (R.putD (s':={ s with heap:=h',toks:=s.toks + 1 }) w.2 p sb dO' rfl rfl (PR.put x hv pr) (Nat.le_trans (Uf0 x v _) hl)) fun t' R' => qq () _ g t' R' trivial
 · have w:=Ua3 q2
   cases e
   refine int1 (T:=fun u => Ev C A (setItem uo u uv) g _ s fun w0 w0 w0 => True) q1 hk fun t => ?_
   refine xEEEAAAAA (R.list w.2 (w.1 ▸ ho)) fun d its n e2 p hg hr hl => ?_
   cases e2
   have hlen:its.size = z.2.2.length:=hr.len
   have hf:=Uhs hm hl
   intro _ Q E qq
   have fin:Q () { s with heap:=s.heap.update d (Obj.mapSeq (·.setIfInBounds m uv)) } :=
     xAA (R.putL (its:=its.setIfInBounds m uv) (s':={ s with heap:=s.heap.update d (Obj.mapSeq (·.setIfInBounds m uv)) }) w.2 p (Heap.SameBut.update _ _ _) (Heap.get?_update_self _ hg rfl) rfl rfl
       (by rw [Array.toList_setIfInBounds]; exact VRs.set hv m hr) (by rw [List.length_set]; exact hl)) fun t' R' => qq () _ g t' R' trivial
   rcases Ubu hm with ⟨hj,c | c⟩
   · exact ki_setAt (n:=n) hg c.1 hf.2 (by omega) (c.2 ▸ fin)
   · exact ki_setBack (n:=n) hg c.1 (by omega) hf.1 (by rw [hlen]; exact c.2.2 ▸ fin)
theorem VRs.cons1 {v:V} {us:List Value} (e:VRs g h [v] us):∃ u,us = [u] ∧ VR g h v u :=
 xEEAAA e fun u r q a q2 => by cases q; cases (show r = [] from q2); exact ⟨u,rfl,a⟩
theorem VRs.cons2 {v w:V} {us:List Value} (e:VRs g h [v,w] us):∃ u x,us = [u,x] ∧ VR g h v u ∧ VR g h w x :=
 xEEAAA e fun u r q a q2 => xEAA (VRs.cons1 q2) fun x q3 b => ⟨u,x,by rw [q,q3],a,b⟩
theorem VRs.of_pt:∀ {vs:List V} {us:List Value},vs.length = us.length -> (∀ (j:Nat) (v:V) (u:Value),vs[j]? = some v -> us[j]? = some u -> VR g h v u) -> VRs g h vs us
 | [],[],_,_ => rfl
 | v :: vs,u :: us,hl,q => ⟨u,us,rfl,q 0 v u rfl rfl,VRs.of_pt (Nat.succ.inj hl) fun j a b e f => q (j + 1) a b e f⟩
 | [],_ :: _,hl,_ => by cases hl
 | _ :: _,[],hl,_ => by cases hl
theorem newRange {a b c:Int} {t u v:Tok} (R:Rel C g σ s.heap) (k:Nat) (bd:a.natAbs <= lim ∧ b.natAbs <= lim ∧ 0 < c ∧ c <= lim) :
   VR g ({ s with heap:=s.heap.push { cls:=.type "range",data:=.fields #[.int a t,.int b u,.int c v] },toks:=k }:Shared).heap (.rng a b c) (.ref s.heap.objs.size):=by
 exact ⟨_,t,u,v,rfl,IsRange.new ..,R.fresh,bd⟩
theorem Rel.room (F:Facts C) (R:Rel C g σ h):h.NoLimit:=F.lim.keeps R.base
theorem oneE {args:List V} {a:V} (e:one args = some a):args = [a]:=by
 rcases args with _ | ⟨b,_ | ⟨c,r⟩⟩ <;> first | exact (Uaa e).elim | exact congrArg (fun x => [x]) (Uab e)
theorem VRs.size {vs:List V} {a:Array Value} (r:VRs g h vs a.toList):a.size = vs.length:=r.len
theorem one1 {args:List V} {a:V} {us:List Value} {T:List Value -> Prop} (e:one args = some a) (r:VRs g h args us) (k:∀ u,VR g h a u -> T [u]):T us :=
 xEAA (VRs.cons1 (oneE e ▸ r)) fun u q v => by cases q; exact k u v
theorem ints1 {x:Int} {vs:List V} {us:List Value} {T:List Value -> Prop} (r:VRs g h (.int x :: vs) us) (k:∀ t us,VRs g h vs us -> T (.int x t :: us)):T us :=
 xEEAAA r fun u us q a r' => xEA a fun t e => by cases q; cases e; exact k t us r'
theorem Un3 {n:Nat} (h:n <= lim):(n:Int) < 2 ^ 63:=Int.lt_of_le_of_lt (Int.ofNat_le.mpr h) (by decide)
theorem len_ok (R:Rel C g σ s.heap) {a:V} {u:Value} {v:V} (r:VR g s.heap a u) (e:ob (strO a) (fun s => some (V.int s.length)) (ob (asSeq σ a) (fun vs => some (V.int vs.length)) none) = some v):EvV C A (call (.builtin "len") [u]) g σ s v:=obE e
 (fun x q e => str1 (T:=fun u => EvV C A (call (.builtin "len") [u]) g σ s v) q r fun t w0 hl => Ev.same R fun Q E q => P.len_str (fun h => Int.not_le.mpr (Un3 hl) h) (q _ _ (VR.oInt e)))
 fun w0 e => obS e fun vs hv e => xEEEEAAAAA (Uih hv R r) fun a its n T q hT hg hr hl => by
   cases q
   have lt:(its.size:Int) < 2 ^ 63:=Un3 (hr.size ▸ hl)
   rcases hT with q | q
   · cases q; exact Ev.same R fun Q E q => PyProof.Rows.len_list (VR.isList hg) lt (q _ _ (hr.size ▸ VR.oInt e))
   · cases q; exact Ev.same R fun Q E q => PyProof.Rows.len_tuple (VR.isTup hg) lt (q _ _ (hr.size ▸ VR.oInt e))
theorem Up3 (R:Rel C g σ s.heap) {l:List Int} {us:List Value} {v:V} (r:VRs g s.heap (l.map .int) us) (e:rangeV l = some v):EvV C A (call (.type "range") us) g σ s v:=by
 have up:∀ (b:Addr) (o:Obj) {x:Obj},s.heap.get? b = some o -> (s.heap.push x).get? b = some o:=fun b o x e => Heap.get?_push_of_some _ e
 rcases l with _ | ⟨a,_ | ⟨b,_ | ⟨c,_ | ⟨d,l⟩⟩⟩⟩
 · exact (Uaa e).elim
 · refine iteS e fun hc e => ints1 (T:=fun us => EvV C A (call (.type "range") us) g σ s v) r fun t us r => ?_
   cases e; cases (show us = [] from r)
   exact Ev.up R fun Q E q => call_range_1 (q _ _ (fun b o e => up b o e) rfl rfl (newRange R _ ⟨Nat.zero_le _,hc,by decide,by decide⟩))
 · refine iteS e fun hc e => ints1 (T:=fun us => EvV C A (call (.type "range") us) g σ s v) r fun t us r => ints1 (T:=fun us => EvV C A (call (.type "range") (.int a t :: us)) g σ s v) r fun t' us r => ?_
   cases e; cases (show us = [] from r)
   exact Ev.up R fun Q E q => call_range_2 (q _ _ (fun b o e => up b o e) rfl rfl (newRange R _ ⟨hc.1,hc.2,by decide,by decide⟩))
 · refine iteS e fun hc e => ints1 (T:=fun us => EvV C A (call (.type "range") us) g σ s v) r fun t us r => ints1 (T:=fun us => EvV C A (call (.type "range") (.int a t :: us)) g σ s v) r fun t' us r =>
     ints1 (T:=fun us => EvV C A (call (.type "range") (.int a t :: .int b t' :: us)) g σ s v) r fun t2 us r => ?_
   cases e; cases (show us = [] from r)
   have hl:lim = 1000000:=rfl
   exact Ev.up R fun Q E q => call_range_3 (Int.ne_of_gt hc.2.2.1) (q _ _ (fun b o e => up b o e) rfl rfl (newRange R _ hc)) (.inl (PyProof.noPylong_small (by omega)))
 · exact (Uaa e).elim
theorem chr_ok (R:Rel C g σ s.heap) {i:Int} {t:Tok} {v:V} (e:(if 0 <= i ∧ i < 0x110000 then some (V.str ⟨#[i.toNat]⟩) else none) = some v):EvV C A (call (.builtin "chr") [.int i t]) g σ s v:=iteS e fun h1 e => by
 cases e
 refine Ev.same R fun Q E q => P.chr_of_int (Bool.or_eq_false_iff.mpr ⟨decide_eq_false (Int.not_lt.mpr h1.1),decide_eq_false (Int.not_lt.mpr (Int.le_of_lt_add_one h1.2))⟩) (q _ _ (VR.mkStr ?_ Uij))
 show (#[i.toNat]:Array Nat).all _ = true
 simp only [List.all_toArray,List.all_cons,List.all_nil,Bool.and_true,decide_eq_true_eq]
 exact (Int.toNat_lt h1.1).mpr h1.2
theorem Ulc (hh:A.handled = none) (R:Rel C g σ s.heap) {x:Str} {t:Tok} (ho:sOk x = true) (hl:x.length <= lim):EvV C A (call (.type "list") [.str x t]) g σ s (.lst (x.cps.toList.map fun c => .str ⟨#[c]⟩)):=by
 refine Ev.up R fun Q E q => call_list_str hh x t (fun h' tk acc' c' k hg it => q _ _ k rfl rfl ?_) (Uah hl)
 refine ⟨_,acc',c',rfl,hg,R.fresh,?_,by rw [List.length_map,Array.length_toList]; exact hl⟩
 refine VRs.of_pt (by rw [List.length_map,Array.length_toList,Array.length_toList,it.1]) fun j w u h1 h2 => ?_
 rw [Array.getElem?_toList] at h2
 refine xEEAA (it.2 j u h2) fun c t' hc e => ?_
 rw [List.getElem?_map,Array.getElem?_toList,hc] at h1
 cases h1; cases e
 exact VR.mkStr (Uk4 ho hc) Uij
theorem Uoi (R:Rel C g σ s.heap) {vs:List V} {v:V} {u:Value} (r:LV g s.heap u vs):(some (.lst vs) = some v -> EvV C A (call (.type "list") [u]) g σ s v) ∧ (some (.tup vs) = some v -> EvV C A (call (.type "tuple") [u]) g σ s v) :=
 xEEEAAAA r fun a its k q hg hr hl => by
   cases q
   refine ⟨fun e => ?_,fun e => ?_⟩
   · cases e
     exact Ev.up R fun Q E q => call_list_seq a (.inl rfl) hg rfl rfl (fun h' c' k hg' => q _ _ k rfl rfl ⟨_,its,c',rfl,hg',R.fresh,VRs.up (s:=s) (s':={ s with heap:=h' }) R k rfl rfl hr,hl⟩) (Uah (hr.size ▸ hl))
   · cases e
     refine Ev.up R fun Q E q => call_tuple_list (VR.isList hg) (fun h' k => q _ _ (fun b o e => Heap.get?_push_of_some _ (k b o e)) rfl rfl ?_) (Uah (hr.size ▸ hl))
     exact VR.newTup (s:={ s with heap:=h' }) (R.grown (s:=s) (s':={ s with heap:=h' }) k rfl rfl) (VRs.up (s:=s) (s':={ s with heap:=h' }) R k rfl rfl hr) hl 0
theorem Uj1 {d:Nat} {n:Bi} {args:List V} {us:List Value} {v:V} (Fa:Facts C) (Ro:Room A d) (R:Rel C g σ s.heap) (ha:VRs g s.heap args us) (e:builtinV n args σ = some (v,σ')):EvV C A (call (biVal n) us) g σ' s v:=lookS e fun e' z => by
 subst z
 have e:bV n σ args = some v:=e'
 have o1:∀ a,one args = some a -> (∀ u,VR g s.heap a u -> EvV C A (call (biVal n) [u]) g σ s v) -> EvV C A (call (biVal n) us) g σ s v:=fun a q k => one1 (T:=fun us => EvV C A (call (biVal n) us) g σ s v) q ha k
 cases n with
 | len => exact obS e fun a q e => o1 a q fun u hu => len_ok R hu e
 | range => exact obS e fun l q e => Up3 R (Upm q ▸ ha) e
 | ord => exact obS e fun a q e => o1 a q fun u hu => obS e fun x q e => iteS e fun h1 e => str1 (T:=fun u => EvV C A (call (.builtin "ord") [u]) g σ s v) q hu fun t w0 w0 => Ev.same R fun Q E q => ord_of_one h1 (q _ _ (VR.oInt e))
 | chr => exact obS e fun a q e => o1 a q fun u hu => obS e fun x q e => int1 (T:=fun u => EvV C A (call (.builtin "chr") [u]) g σ s v) q hu fun t => chr_ok R e
 | list => exact obS e fun a q e => o1 a q fun u hu => obE e (fun x q e => str1 (T:=fun u => EvV C A (call (.type "list") [u]) g σ s v) q hu fun t o l => Uab e ▸ Ulc Ro.handled R o l) fun w0 e => obS e fun vs q e => (Uoi R (Ual q R hu)).1 e
 | tuple => exact obS e fun a q e => o1 a q fun u hu => obS e fun vs q e => (Uoi R (Ual q R hu)).2 e
end
end Mine
end
section
open PySem PySem.Calls PyProof.Rows PySem.W
namespace Mine
theorem Upz (l:List Str):Txt.join Str.empty l = joinS l:=by
 delta Txt.join
 rw [StrLaws.glued_eq_join]
 have key:∀ l:List Str,(Str.join Str.empty l).cps.toList = (l.map (·.cps.toList)).flatten:=by
   intro l
   induction l with
   | nil => rfl
   | cons p r ih =>
     cases r with
     | nil => exact (List.append_nil _).symm
     | cons q r =>
       show (p ++ Str.empty ++ Str.join Str.empty (q :: r)).cps.toList = _
       rw [Str.cps_append,Str.cps_append,Array.toList_append,Array.toList_append,ih]
       exact congrArg (· ++ ((q :: r).map (·.cps.toList)).flatten) (List.append_nil _)
 exact congrArg Str.mk (Array.toList_inj.mp (key l))
theorem Umw (l:List Str):(joinS l).length = (l.map (·.length)).sum:=by
 show ((l.map (·.cps.toList)).flatten.toArray).size = _
 rw [List.size_toArray,List.length_flatten,List.map_map]
 rfl
theorem Uov {l:List Str} (h:∀ y ∈ l,sOk y = true):sOk (joinS l) = true:=by
 delta sOk joinS
 rw [List.all_toArray,List.all_eq_true]
 intro c hc
 refine xEAA (List.mem_flatten.mp hc) fun z hz hcz => xEAA (List.mem_map.mp hz) fun y hy q => ?_
 subst q
 exact Array.all_eq_true_iff_forall_mem.mp (h y hy) c (Array.mem_toList_iff.mp hcz)
theorem Uk0 {α:Type} (x y:Str) (u:α):∀ {l:List (Str × α)},y ∈ (setK x u l).map (·.1) -> y = x ∨ y ∈ l.map (·.1)
 | [],h => .inl (List.mem_singleton.mp h)
 | (z,w) :: r,h => by
   by_cases q:z = x
   · subst q; rw [Ub9] at h; exact .inr h
   · rw [Ubc q] at h
     rcases List.mem_cons.mp h with e | e
     · exact .inr (e ▸ List.mem_cons_self)
     · exact (Uk0 x y u e).imp id (List.mem_cons_of_mem _)
theorem Ugv {α:Type} (x:Str) (u:α):∀ {l:List (Str × α)},(l.map (·.1)).Nodup -> ((setK x u l).map (·.1)).Nodup
 | [],_ => List.nodup_cons.mpr ⟨List.not_mem_nil,List.nodup_nil⟩
 | (z,w) :: r,h => by
   have h':=List.nodup_cons.mp h
   by_cases q:z = x
   · subst q; rw [Ub9]; exact h
   · rw [Ubc q]; exact List.nodup_cons.mpr ⟨fun m => (Uk0 x z u m).elim q h'.1,Ugv x u h'.2⟩
theorem Ud2:∀ {m l:List (Str × Value)},(l.map (·.1)).Nodup -> merged l m = m.foldl (fun l kv => setK kv.1 kv.2 l) l
 | [],_,_ => rfl
 | kv :: m,l,h => by
   have ih:=Ud2 (m:=m) (l:=setK kv.1 kv.2 l) (Ugv _ _ h)
   unfold merged at ih ⊢
   rw [List.foldl_cons,List.foldl_cons,Udv h]
   exact ih
theorem Ucr {α:Type}:∀ (fs es:List (Str × α)),(fs.foldl (fun es p => setK p.1 p.2 es) es).length <= es.length + fs.length
 | [],_ => Nat.le_refl _
 | p :: fs,es => by
   have h1:=Ucr fs (setK p.1 p.2 es)
   have h2:=Uf0 p.1 p.2 es
   rw [List.foldl_cons,List.length_cons]
   omega
section
variable {C:Cx} {A:Around} {g:Gh} {σ σ':Store} {s:Shared} {h:Heap}
theorem PR.upd:∀ {fs es:List (Str × V)} {m l:List (Str × Value)},PR g h es l -> PR g h fs m -> PR g h (updD es fs) (m.foldl (fun l kv => setK kv.1 kv.2 l) l)
 | [],es,m,l,a,b => by cases b; exact a
 | (x,v) :: fs,es,m,l,a,b => xEEAAA b fun u r e hv q => by
   cases e
   exact PR.upd (fs:=fs) (es:=setK x v es) (l:=setK x u l) (PR.put x hv a) q
theorem VRs.strs:∀ {l:List Str} {us:List Value},VRs g h (l.map .str) us -> StrsAre us l ∧ ∀ y ∈ l,sOk y = true
 | [],us,r => by cases r; exact ⟨.nil,fun w0 h => nomatch h⟩
 | y :: l,us,r => xEEAAA r fun u rest e v q => xEAAA v fun t e2 ho w0 => xAA (VRs.strs q) fun a b => by
   cases e; cases e2
   exact ⟨.cons y t a,fun z hz => (List.mem_cons.mp hz).elim (fun e => e ▸ ho) (b z)⟩
theorem VRs.pop {vs:List V} {us:List Value} (e:VRs g h vs us):VRs g h vs.dropLast us.dropLast:=by
 rw [List.dropLast_eq_take,List.dropLast_eq_take,e.len]
 exact e.take _
noncomputable def Mi.id:Mi -> String
 | .join => "str.join" | .find => "str.find" | .replace => "str.replace" | .append => "list.append" | .extend => "list.extend" | .pop => "list.pop" | .get => "dict.get" | .update => "dict.update"
theorem twoE {α:Type} {args:List α} {a:α × α} (e:two args = some a):args = [a.1,a.2]:=by
 rcases args with _ | ⟨b,_ | ⟨c,_ | ⟨d,r⟩⟩⟩ <;> first | exact (Uaa e).elim | exact congrArg (fun x:α × α => [x.1,x.2]) (Uab e)
noncomputable abbrev MvOk (C:Cx) (A:Around) (id:Mi):Prop:=∀ {g:Gh} {σ:Store} {s:Shared} {o:V} {args:List V} {uo:Value} {us:List Value} {r:V × Store},Rel C g σ s.heap -> VR g s.heap o uo -> VRs g s.heap args us -> mV id o args σ = some r ->
 Ev C A (call (.builtin id.id) (uo :: us)) g r.2 s fun g' h' u => VR g' h' r.1 u
theorem m_join:MvOk C A .join:=fun {g σ s o args uo us r} R ho ha e => obS e fun x hx e => obS e fun v hv e => obS e fun vs hvs e => obS e fun l hl e => iteS e fun hc e => by
 cases e
 have hx0:x = Str.empty:=congrArg Str.mk (Array.eq_empty_of_size_eq_zero hc.2.2)
 subst hx0
 refine one1 (T:=fun us => Ev C A (call (.builtin "str.join") (uo :: us)) g σ s fun g' h' u => VR g' h' (.str (joinS l)) u) hv ha fun u hu => str1 (T:=fun uo => Ev C A (call (.builtin "str.join") [uo,u]) g σ s fun g' h' u => VR g' h' (.str (joinS l)) u) hx ho fun t w0 w0 => ?_
 refine xEEEAAAA (Ual hvs R hu) fun a its n e2 hg hr w0 => xAA (VRs.strs (Uhi hl ▸ hr)) fun sa so => ?_
 cases e2
 have hb:lim < 2 ^ 23:=by decide
 refine Ev.same R fun Q E q => join_list (VR.isList hg) sa (by have:=hc.1; show _ + _ * 0 <= _; omega) fun t' k => q _ k ?_
 rw [Upz]
 exact VR.mkStr (Uov so) (by rw [Umw]; exact hc.1)
theorem m_find:MvOk C A .find:=fun {g σ s o args uo us r} R ho ha e => obS e fun x hx e => obS e fun v hv e => obS e fun y hy e => by
 cases e
 exact one1 (T:=fun us => Ev C A (call (.builtin "str.find") (uo :: us)) g σ s fun g' h' u => VR g' h' (.int (Txt.find x y)) u) hv ha fun u hu => str2 (T:=fun uo u => Ev C A (call (.builtin "str.find") [uo,u]) g σ s fun g' h' u => VR g' h' (.int (Txt.find x y)) u) hx hy ho hu fun t t' w0 w0 w0 w0 =>
   Ev.same R fun Q E q => SC.find (q _ _ VR.mkInt)
theorem Up0:MvOk C A .append:=fun {g σ s o args uo us r} R ho ha e => obS e fun z hz e => obS e fun v hv e => iteS e fun hl e => by
 cases e
 have w:=Ua3 hz
 refine one1 (T:=fun us => Ev C A (call (.builtin "list.append") (uo :: us)) g (σ.put z.1 z.2.1 (.list (z.2.2 ++ [v]))) s fun g' h' u => VR g' h' .none u) hv ha fun u hu => xEEEAAAAA (R.list w.2 (w.1 ▸ ho)) fun a its n e2 p hg hr w0 => ?_
 cases e2
 exact fun w0 Q E qq => append_at hg (fun h' sb hg' => xAA (R.putL (s':={ s with heap:=h' }) w.2 p sb hg' rfl rfl (by rw [Array.toList_push]; exact VRs.app hr (VRs.one hu)) (by rw [List.length_append]; exact hl)) fun t' R' => qq _ _ g t' R' rfl) (Uah (hr.size ▸ Nat.le_of_lt hl))
theorem Upq:MvOk C A .extend:=fun {g σ s o args uo us r} R ho ha e => obS e fun z hz e => obS e fun v hv e => obS e fun ws hw e => iteS e fun hl e => by
 cases e
 have w:=Ua3 hz
 refine one1 (T:=fun us => Ev C A (call (.builtin "list.extend") (uo :: us)) g (σ.put z.1 z.2.1 (.list (z.2.2 ++ ws))) s fun g' h' u => VR g' h' .none u) hv ha fun u hu => xEEEAAAAA (R.list w.2 (w.1 ▸ ho)) fun a its n e2 p hg hr w0 => xEEEAAAA (Ual hw R hu) fun b its2 n2 e3 hg2 hr2 w0 => ?_
 cases e2; cases e3
 have hsz:its.size + its2.size <= sizeLine:=Uah (by rw [hr.size,hr2.size]; exact Nat.le_of_lt hl)
 exact fun w0 Q E qq => call_meets PySem.F.slot_list_extend ⟨_,hg,rfl⟩ PySem.F.entry_list_extend (PySem.F.args_list_extend_2 _ _) (AutoSeq1.list_extend_list_list_0 a its n b its2 n2 (extend_door hsz) (Nat.le_trans (Nat.le_add_right _ _) hsz) (Nat.le_succ_of_le hsz)) ⟨hg,hg2,
   xAA (R.putL (its:=its ++ its2) (s':={ s with heap:=s.heap.update a (Obj.mapSeq fun x => x ++ its2) }) w.2 p (Heap.SameBut.update _ _ _) (Heap.get?_update_self _ hg rfl) rfl rfl (by rw [Array.toList_append]; exact VRs.app hr hr2) (by rw [List.length_append]; exact Nat.le_of_lt hl)) fun t' R' => qq _ _ g t' R' rfl⟩
theorem m_pop:MvOk C A .pop:=fun {g σ s o args uo us r} R ho ha e => obS e fun z hz e => iteS e fun hn e => obS e fun x hx e => by
 cases e
 have w:=Ua3 hz
 have ha:VRs g s.heap [] us:=List.isEmpty_iff.mp hn ▸ ha
 cases (show us = [] from ha)
 rw [List.getLast?_eq_getElem?] at hx
 refine xEEEAAAAA (R.list w.2 (w.1 ▸ ho)) fun a its n e2 p hg hr hl => xEAA (hr.get hx) fun u hu hux => ?_
 cases e2
 rw [Array.getElem?_toList] at hu
 exact fun w0 Q E qq => Copied.pop_at hg (y:=u) (by rw [hr.size]; exact hu) (fun h' sb hg' => xAA (R.putL (s':={ s with heap:=h' }) w.2 p sb hg' rfl rfl (by rw [Array.toList_pop]; exact VRs.pop hr) (by rw [List.length_dropLast]; exact Nat.le_trans (Nat.sub_le _ _) hl))
   fun t' R' => qq _ _ g t' R' (VR.tr t' R.st (fun w0 f => f.elim) _ hux)) (Uah (hr.size ▸ hl))
theorem m_get (Fa:Facts C):MvOk C A .get:=fun {g σ s o args uo us r} R ho ha e => obS e fun z hz e => obS e fun w hw e => obS e fun x hx e => by
 cases e
 have wd:=Ubv hz
 refine xEEAAA (VRs.cons2 (twoE hw ▸ ha)) fun u1 u2 e1 hu1 hu2 => xEEAAAAA (R.dict wd.2 (wd.1 ▸ ho)) fun dd l e2 p dO pr w0 => ?_
 cases e1; cases e2
 refine str1 (T:=fun u1 => Ev C A (call (.builtin "dict.get") [.ref dd,u1,u2]) g σ s fun g' h' u => VR g' h' ((lk x z.2.2).getD w.2) u) hx hu1 fun t w0 w0 => ?_
 refine Ev.same R fun Q E qq => call_meetsIn F.slot_dict_get dO.typeIs F.entry_dict_get (F.args_dict_get_3 _ _ _) (meets_dict_get_default _ dd (strKind_is _ _ x t) (R.notSys Fa p) u2) ⟨_,dO.mapOf,qq _ _ ?_⟩
 cases z:lk x z.2.2 with
 | none => rw [(PR.look x pr).2 z]; exact hu2
 | some w => exact xEAA ((PR.look x pr).1 w z) fun u hu hr => by rw [hu]; exact hr
theorem Upo (Fa:Facts C):MvOk C A .update:=fun {g σ s o args uo us r} R ho ha e => obS e fun z hz e => obS e fun v hv e => obS e fun y hy e => iteS e fun hc e => by
 cases e
 have w:=Ubv hz
 have w':=Ubv hy
 refine one1 (T:=fun us => Ev C A (call (.builtin "dict.update") (uo :: us)) g (σ.put z.1 z.2.1 (.dict (updD z.2.2 y.2.2))) s fun g' h' u => VR g' h' .none u) hv ha fun u hu => ?_
 refine xEEAAAAA (R.dict w.2 (w.1 ▸ ho)) fun dd l e2 p dO pr w0 => xEEAAAAA (R.dict w'.2 (w'.1 ▸ hu)) fun d2 l2 e3 p2 dO2 pr2 w0 => ?_
 cases e2; cases e3
 have hne:dd ≠ d2:=fun z => by
   subst z
   exact xAA (R.inj _ _ _ _ _ _ _ p p2) fun z1 z2 => hc.2.elim (fun z => z z1) fun z => z z2
 refine fun w0 Q E qq => call_meetsIn F.slot_dict_update dO.typeIs F.entry_dict_update (F.args_dict_update_2 _ _) (meets_dict_update _ dd d2 hne (R.notSys Fa p2)) ⟨l,l2,dO,dO2,Uah (by rw [pr.len,pr2.len]; exact Nat.le_of_lt hc.1),fun h' dO' w0 sb => ?_⟩
 rw [Ud2 (DictOf.nodup dO)] at dO'
 exact xAA (R.putD (s':={ s with heap:=h' }) w.2 p sb dO' rfl rfl (PR.upd pr pr2) (Nat.le_trans (Ucr y.2.2 z.2.2) (Nat.le_of_lt hc.1))) fun t' R' => qq _ _ g t' R' rfl
theorem Uqm {d:Nat} {id:Mi} {o:V} {args:List V} {uo:Value} {us:List Value} {v:V} (Fa:Facts C) (Ro:Room A d) (R:Rel C g σ s.heap) (ho:VR g s.heap o uo) (ha:VRs g s.heap args us)
   (e:methV id o args σ = some (v,σ')):Ev C A (call (.builtin id.id) (uo :: us)) g σ' s fun g' h' u => VR g' h' v u:=by
 cases id with
 | join => exact m_join R ho ha e
 | find => exact m_find R ho ha e
 | replace => cases e
 | append => exact Up0 R ho ha e
 | extend => exact Upq R ho ha e
 | pop => exact m_pop R ho ha e
 | get => exact m_get Fa R ho ha e
 | update => exact Upo Fa R ho ha e
end
end Mine
end
section
open PySem PySem.Calls PyProof.Rows PySem.W
namespace Mine
section
variable {C:Cx} {A:Around} {g:Gh} {σ σ₁ σ₂ σ':Store} {s:Shared} {h:Heap} {α β γ:Type}
theorem Ev.of_eq {t t':Sem α} {T:Gh -> Heap -> α -> Prop} (e:t = t') (h:Ev C A t' g σ s T):Ev C A t g σ s T:=e ▸ h
theorem Ev.hold {vs:List Value} {t:Sem α} {T:Gh -> Heap -> α -> Prop} (h:Ev C A t g σ s T):Ev C A (holding vs t) g σ s T :=
 fun p Q E q => wpAny_holding (h p Q E q)
theorem Ev.at_ {p:Pos} {k:Sem α} {T:Gh -> Heap -> α -> Prop} (h:Ev C A k g σ s T):Ev C A (standAt p >>= fun w0 => k) g σ s T :=
 fun p' Q E q => wpAny_bind (wpAny_standAt (h p' Q E q))
theorem Ev.oper {vs:List Value} {t:Sem Value} {T:Gh -> Heap -> Value -> Prop} (h:Ev C A t g σ s T):Ev C A (operate vs t) g σ s T :=
 fun p Q E q => wpAny_operate' (h p Q E q)
theorem Ev.ret {a:α} {T:Gh -> Heap -> α -> Prop} (R:Rel C g σ s.heap) (h:T g s.heap a):Ev C A (pure a) g σ s T :=
 Ev.same R fun w0 w0 q => wpAny_pure (q a s.toks h)
theorem Ev.letGo {base:Expr} {o r:Value} {k:Sem α} {T:Gh -> Heap -> α -> Prop} (h:Ev C A k g σ s T):Ev C A (letTemporaryGo base o r >>= fun w0 => k) g σ s T :=
 fun p Q E q => wpAny_bind (wpAny_letTemporaryGo (h p Q E q))
structure ES (sc:Scope) (env:Env):Prop where
 gl:∀ x,sc.names.lookup x = some .globalImplicit -> env.kindOf x = some .globalImplicit
 lo:∀ x,sc.names.lookup x = some .local -> env.kindOf x = some .local
 ce:∀ x,sc.names.lookup x = some .cell -> env.kindOf x = some .cell
noncomputable def pairsOf:List (Option Expr) -> List Expr -> Env -> Pos -> List (Sem Value × Sem Value)
 | some k :: ks,e :: r,env,pos => (eval k env,do let x <- eval e env; standAt pos; pure x) :: pairsOf ks r env pos
 | _,_,_,_ => []
structure EvOk (C:Cx) (A:Around) (call:CC) (n:Nat):Prop where
 ev:∀ (sc:Scope) (fr:Fr) (e:Expr) (env:Env) (g:Gh) (σ σ':Store) (s:Shared) (v:V),ES sc env -> FR g s.heap env fr -> Rel C g σ s.heap -> evalE C.P call n sc fr e σ = some (v,σ') -> EvV C A (eval e env) g σ' s v
 evs:∀ (sc:Scope) (fr:Fr) (es:List Expr) (env:Env) (g:Gh) (σ σ':Store) (s:Shared) (vs:List V) (pos:Pos),ES sc env -> FR g s.heap env fr -> Rel C g σ s.heap -> evalEs C.P call n sc fr es σ = some (vs,σ') ->
   Ev C A (spliced (backTo pos (starEach es env))) g σ' s fun g' h' us => VRs g' h' vs us
 bool:∀ (sc:Scope) (fr:Fr) (op:BoolOp) (es:List Expr) (env:Env) (g:Gh) (σ σ':Store) (s:Shared) (v:V) (pos:Pos),ES sc env -> FR g s.heap env fr -> Rel C g σ s.heap -> boolE C.P call n sc fr op es σ = some (v,σ') ->
   EvV C A (eval (.BoolOp op es pos) env) g σ' s v
 opt:∀ (sc:Scope) (fr:Fr) (e:Option Expr) (env:Env) (g:Gh) (σ σ':Store) (s:Shared) (v:Option V),ES sc env -> FR g s.heap env fr -> Rel C g σ s.heap -> optE C.P call n sc fr e σ = some (v,σ') ->
   Ev C A (evalPart e env) g σ' s fun g' h' u => OVR g' h' v u
 test:∀ (sc:Scope) (fr:Fr) (e:Expr) (env:Env) (g:Gh) (σ σ':Store) (s:Shared) (b:Bool),ES sc env -> FR g s.heap env fr -> Rel C g σ s.heap -> testE C.P call n sc fr e σ = some (b,σ') ->
   Ev C A (isTrue e env (eval e env)) g σ' s fun w0 w0 c => c = b
 tests:∀ (sc:Scope) (fr:Fr) (op:BoolOp) (es:List Expr) (env:Env) (g:Gh) (σ σ':Store) (s:Shared) (b:Bool),ES sc env -> FR g s.heap env fr -> Rel C g σ s.heap -> testsE C.P call n sc fr op es σ = some (b,σ') ->
   Ev C A (allTrue op es env) g σ' s fun w0 w0 c => c = b
 pairs:∀ (sc:Scope) (fr:Fr) (ks:List (Option Expr)) (es:List Expr) (env:Env) (g:Gh) (σ σ':Store) (s:Shared) (l:List (Str × V)) (pos:Pos),ES sc env -> FR g s.heap env fr -> Rel C g σ s.heap -> pairsE C.P call n sc fr ks es σ = some (l,σ') ->
   Ev C A (evalPairs (pairsOf ks es env pos)) g σ' s fun g' h' us => ∃ kvs,Carries (strKind C.prog C.w) us kvs ∧ PR g' h' l kvs
theorem bndE {α β:Type} {m:M α} {k:α -> M β} {σ:Store} {r:β × Store} {P:Prop} (e:bnd m k σ = some r) (h:∀ a σ₁,m σ = some (a,σ₁) -> k a σ₁ = some r -> P):P:=by
 delta bnd at e
 cases q:m σ with
 | none => rw [q] at e; exact (Uaa e).elim
 | some a => rw [q] at e; exact h a.1 a.2 q e
theorem bndL {α β:Type} {f:Store -> Option α} {k:α -> M β} {σ:Store} {r:β × Store} {P:Prop} (e:bnd (look f) k σ = some r) (h:∀ a,f σ = some a -> k a σ = some r -> P):P :=
 bndE e fun a σ₁ q e => lookS q fun q z => h a q (z ▸ e)
theorem bndO {α β:Type} {f:Option α} {k:α -> M β} {σ:Store} {r:β × Store} {P:Prop} (e:bnd (lift f) k σ = some r) (h:∀ a,f = some a -> k a σ = some r -> P):P :=
 bndL (f:=fun w0 => f) e h
theorem Upj {α β:Type} {m:M α} {k:α -> M β} {σ:Store} {r:β × Store} (e:bnd m k σ = some r):∃ a σ₁,m σ = some (a,σ₁) ∧ k a σ₁ = some r:=bndE e fun a σ₁ q e => ⟨a,σ₁,q,e⟩
theorem Uap {α:Type} {f:Store -> Option α} {σ σ₁:Store} {a:α} (e:look f σ = some (a,σ₁)):f σ = some a ∧ σ = σ₁:=lookS e fun q z => ⟨q,z⟩
theorem Udc {α:Type} {f:Option α} {σ σ₁:Store} {a:α} (e:lift f σ = some (a,σ₁)):f = some a ∧ σ = σ₁:=Uap (f:=fun w0 => f) e
theorem Ua8 {α:Type} {c:Prop} [Decidable c] {a b:M α} {σ:Store} {r:α × Store} (e:(if c then a else b) σ = some r):(c ∧ a σ = some r) ∨ (¬ c ∧ b σ = some r):=by
 by_cases h:c
 · rw [if_pos h] at e; exact .inl ⟨h,e⟩
 · rw [if_neg h] at e; exact .inr ⟨h,e⟩
theorem Usd {α β:Type} {x:Option α} {f:α -> M β} {z:M β} {σ:Store} {r:β × Store} (h:x = none) (e:ob x f z σ = some r):z σ = some r:=by rw [h] at e; exact e
theorem obM {α β:Type} {x:Option α} {f:α -> M β} {σ:Store} {r:β × Store} {P:Prop} (e:ob x f fail σ = some r) (h:∀ a,x = some a -> f a σ = some r -> P):P:=by
 cases x with
 | none => exact (Uaa e).elim
 | some a => exact h a rfl e
theorem iteM {α:Type} {c:Prop} [Decidable c] {a:M α} {σ:Store} {r:α × Store} {P:Prop} (e:(if c then a else fail) σ = some r) (k:c -> a σ = some r -> P):P:=by
 by_cases h:c
 · rw [if_pos h] at e; exact k h e
 · rw [if_neg h] at e; exact (Uaa e).elim
theorem Unq {ops:List CmpOp} {rs:List Expr} {s:Shp} (h:shpV ops rs = some s):(∃ op r,ops = [op] ∧ rs = [r] ∧ s = (op,r,none)) ∨ ∃ o₁ o₂ r₁ r₂,ops = [o₁,o₂] ∧ rs = [r₁,r₂] ∧ s = (o₁,r₁,some (o₂,r₂)):=by
 rcases ops with _ | ⟨o₁,_ | ⟨o₂,_ | ⟨o₃,t⟩⟩⟩ <;> rcases rs with _ | ⟨r₁,_ | ⟨r₂,_ | ⟨r₃,t'⟩⟩⟩ <;> first | cases h | skip
 · exact .inl ⟨_,_,rfl,rfl,rfl⟩
 · exact .inr ⟨_,_,_,_,rfl,rfl,rfl⟩
theorem Unm (f:Expr) (kws:List Keyword):(∃ o x ap,f = .Attribute o x ap ∧ kws = []) ∨ (∃ h q,f = .Name h q ∧ kws = []) ∨ calV f kws = .bad:=by
 cases f <;> first | exact .inr (.inr rfl) | skip
 · cases kws with
   | nil => exact .inl ⟨_,_,_,rfl,rfl⟩
   | cons _ _ => exact .inr (.inr rfl)
 · cases kws with
   | nil => exact .inr (.inl ⟨_,_,rfl,rfl⟩)
   | cons _ _ => exact .inr (.inr rfl)
theorem Ure {β:Type} {c:Cal} {f:Expr -> Str -> Pos -> M β} {g:Str -> Pos -> M β} {σ:Store} {r:β × Store} (h:c = .bad) (e:calB c f g fail σ = some r):False:=by subst h; cases e
theorem Um7 (i:Expr):(∃ lo hi st p,i = .Slice lo hi st p) ∨ slcV i = none:=by
 cases i <;> first | exact .inr rfl | exact .inl ⟨_,_,_,_,rfl⟩
theorem Ur4 {β:Type} {t:Tst} {f:Expr -> M β} {g:BoolOp -> List Expr -> M β} {h:Expr -> Shp -> M β} {p:M β} {σ:Store} {r:β × Store} (e:tstB t f g h p fail σ = some r) (hb:t = .bad):False:=by subst hb; cases e
theorem Ump {β:Type} {t:Tst} {f:Expr -> M β} {g:BoolOp -> List Expr -> M β} {h:Expr -> Shp -> M β} {p z:M β} {σ:Store} {r:β × Store} (e:tstB t f g h p z σ = some r) (hb:t = .plain):p σ = some r:=by subst hb; exact e
theorem Um0 (e:Expr):(∃ x p,e = .UnaryOp .Not x p) ∨ (∃ op es p,e = .BoolOp op es p) ∨ (∃ l ops rs p s,e = .Compare l ops rs p ∧ shpV ops rs = some s) ∨ tstV e = .bad ∨ tstV e = .plain ∧ ∀ env t,isTrue e env t = (do let v <- t; standAt e.pos; holding [v] (truthy v)):=by
 cases e with
 | UnaryOp op x p => cases op with
   | Not => exact .inl ⟨_,_,rfl⟩
   | _ => exact .inr (.inr (.inr (.inl rfl)))
 | BoolOp op es p => exact .inr (.inl ⟨_,_,_,rfl⟩)
 | IfExp => exact .inr (.inr (.inr (.inl rfl)))
 | Compare l ops rs p =>
   cases h:shpV ops rs with
   | none => exact .inr (.inr (.inr (.inl (by delta tstV; dsimp only; rw [h]))))
   | some s => exact .inr (.inr (.inl ⟨_,_,_,_,s,rfl,h⟩))
 | _ => exact .inr (.inr (.inr (.inr ⟨rfl,fun w0 w0 => rfl⟩)))
theorem Upp {gens:List Comprehension} {d:Str × Expr × List Expr} (h:genV gens = some d):∃ px,gens = [⟨.Name d.1 px,d.2.1,d.2.2,0⟩]:=by
 delta genV at h
 split at h
 · cases h; exact ⟨_,rfl⟩
 · cases h
theorem Unc (ts:List Expr):(∃ us k p,ts = [.Tuple us k p]) ∨ (∃ t,ts = [t] ∧ tgtV ts = .one t) ∨ tgtV ts = .bad:=by
 rcases ts with _ | ⟨t,_ | ⟨t2,ts⟩⟩
 · exact .inr (.inr rfl)
 · cases t with
   | Tuple us k p => exact .inl ⟨_,_,_,rfl⟩
   | List => exact .inr (.inr rfl)
   | Starred => exact .inr (.inr rfl)
   | _ => exact .inr (.inl ⟨_,rfl,rfl⟩)
 · exact .inr (.inr rfl)
theorem Ush {β:Type} {t:Tgt} {f:List Expr -> M β} {g:Expr -> M β} {σ:Store} {r:β × Store} (h:t = .bad) (e:tgtB t f g fail σ = some r):False:=by subst h; cases e
theorem Uqs {β:Type} {t:Tgt} {f:List Expr -> M β} {g:Expr -> M β} {z:M β} {x:Expr} {σ:Store} {r:β × Store} (h:t = .one x) (e:tgtB t f g z σ = some r):g x σ = some r:=by subst h; exact e
theorem Uo7 {t:Expr} {b:List Stmt} {x:Str} (h:forV t b = some x):∃ p,t = .Name x p ∧ b = []:=by
 delta forV at h
 split at h
 · cases h; exact ⟨_,rfl,rfl⟩
 · cases h
theorem Ups {t:Expr} {z:Expr × Str} (h:augT t = some z):∃ p,t = .Attribute z.1 z.2 p:=by
 delta augT at h
 split at h
 · cases h; exact ⟨_,rfl⟩
 · cases h
theorem Ugn {sc:Scope} {x:Str} {v:V} {fr:Fr} {σ:Store} {r:Fr × Store} (e:setVar sc x v fr σ = some r):(sc.names.lookup x = some .local ∨ sc.names.lookup x = some .cell) ∧ r = (setK x v fr,σ):=by
 rcases Ua8 e with ⟨h,e⟩ | ⟨_,e⟩
 · refine ⟨?_,by cases e; rfl⟩
   delta setOk at h
   split at h
   · rename_i q; exact .inl q
   · rename_i q; exact .inr q
   · cases h
 · cases e
theorem Unn {α:Type} {σ:Store} {r:α × Store} (e:(fail:M α) σ = some r):False:=by cases e
end
end Mine
end
section
open PySem PySem.Calls PyProof.Rows PySem.W
namespace Mine
theorem Ev.rel {C:Cx} {A:Around} {g:Gh} {σ:Store} {s:Shared} {α:Type} {vs keep:List Value} {k:Sem α} {T:Gh -> Heap -> α -> Prop} (h:Ev C A k g σ s T):Ev C A (release vs keep >>= fun w0 => k) g σ s T :=
 fun p Q E q => wpAny_bind (wpAny_release' (h p Q E q))
noncomputable def Gh.zadd (g:Gh) (P:Addr -> Prop):Gh:=⟨g.ρ,fun b => g.Z b ∨ P b⟩
noncomputable def Gh.zdel (g:Gh) (P:Addr -> Prop):Gh:=⟨g.ρ,fun b => g.Z b ∧ ¬ P b⟩
theorem OR.kp {C:Cx} {g g':Gh} {h h':Heap} (x:Kp g h g' h') {o:Ob} {a d:Addr} (hd:∀ ob,h.get? d = some ob -> h'.get? d = some ob) (q:OR C g h o a d):OR C g' h' o a d:=by
 cases o with
 | list vs => refine xAEEAAA q fun e its n q v l => ?_; exact ⟨e,its,n,hd _ q,VRs.kp x vs v,l⟩
 | dict es => refine xAEAAA q fun e its qz1 v l => ?_; obtain ⟨o,k1,k2,q,k3⟩:=qz1; exact ⟨e,its,⟨o,k1,k2,hd _ q,k3⟩,PR.kp x es v,l⟩
 | inst c es => refine xAAEEAAA q fun e z its n q v l => ?_; exact ⟨x.at_ _ _ e z,x.nz _ _ e z,its,n,hd _ q,ER.kp x es v,l⟩
theorem OR.live {C:Cx} {g:Gh} {h:Heap} {o:Ob} {a d:Addr} (q:OR C g h o a d):h.get? d ≠ none:=by
 cases o with
 | list vs => refine xAEEAAA q fun e its n q v l => ?_; exact Uaf q
 | dict es => refine xAEAAA q fun e its qz1 v l => ?_; obtain ⟨o,k1,k2,q,k3⟩:=qz1; exact Uaf q
 | inst c es => refine xAAEEAAA q fun e z its n q v l => ?_; exact Uaf q
section
variable {C:Cx} {A:Around} {g g':Gh} {σ σ':Store} {s s':Shared} {h h':Heap} {W P:Addr -> Prop}
theorem Ui1 (k:∀ b o,h.get? b = some o -> h'.get? b = some o) {b:Addr} (l:h.get? b ≠ none):h'.get? b ≠ none:=by
 cases e:h.get? b with
 | none => exact absurd e l
 | some o => rw [k b o e]; exact Option.some_ne_none _
theorem Rel.zadd (R:Rel C g σ s.heap) (P:Addr -> Prop) (k:∀ b o,s.heap.get? b = some o -> s'.heap.get? b = some o) (hP:∀ a,P a -> s.heap.get? a = none ∧ s'.heap.get? a ≠ none ∧ sysModules < a) (hg:s'.gens = s.gens) (ho:s'.os = s.os) :
   Tr (fun w0 => False) g s (g.zadd P) s' ∧ Rel C (g.zadd P) σ s'.heap:=by
 have x:Tr (fun w0 => False) g s (g.zadd P) s':=⟨fun w0 w0 w0 e => e,fun b o e w0 w0 => k b o e,fun a l w0 z => z.elim id fun p => absurd (hP a p).1 l,fun a z => .inl z,fun a l w0 => Ui1 k l,fun b p q => absurd p q,hg,ho⟩
 refine ⟨x,⟨fun b o e => k b o (R.base b o e),fun a z => ?_,fun a z => ?_,fun b p => .inl (R.st b p),R.dom,fun r i o e => ?_,R.inj⟩⟩
 · rcases z with z | z
   · exact R.zb a z
   · refine ⟨?_,(hP a z).2.2⟩
     cases e:C.B.get? a with
     | none => rfl
     | some o => have:=R.base a o e; rw [(hP a z).1] at this; cases this
 · rcases z with z | z
   · exact Ui1 k (R.zh a z)
   · exact (hP a z).2.1
 · refine xEEAA (R.obj r i o e) fun a d p q => ?_
   exact ⟨a,d,p,OR.kp (x.kp R.st fun w0 f => f.elim) (k d) q⟩
theorem Rel.write (R:Rel C g σ s.heap) (hw:∀ b,W b -> g.Z b ∧ ¬ g.St b) (k:∀ b o,¬ W b -> s.heap.get? b = some o -> s'.heap.get? b = some o) (live:∀ b,W b -> s'.heap.get? b ≠ none)
   (hg:s'.gens = s.gens) (ho:s'.os = s.os):Tr W g s g s' ∧ Rel C g σ s'.heap:=by
 have lv:∀ b,s.heap.get? b ≠ none -> s'.heap.get? b ≠ none:=fun b l => by
   by_cases w:W b
   · exact live b w
   · cases e:s.heap.get? b with
     | none => exact absurd e l
     | some o => rw [k b o w e]; exact Option.some_ne_none _
 have x:Tr W g s g s':=⟨fun w0 w0 w0 e => e,fun b o e w0 w => k b o w e,fun w0 w0 w0 z => z,fun w0 z => z,fun a l w => lv a l,fun b p q => absurd p q,hg,ho⟩
 refine ⟨x,⟨fun b o e => k b o (fun w => ?_) (R.base b o e),R.zb,fun a z => lv a (R.zh a z),R.st,R.dom,fun r i o e => ?_,R.inj⟩⟩
 · have:=(R.zb b (hw b w).1).1
   rw [e] at this; cases this
 · refine xEEAA (R.obj r i o e) fun a d p q => ?_
   exact ⟨a,d,p,OR.kp (x.kp R.st fun b w => (hw b w).1) (fun ob e => k d ob (fun w => (hw d w).2 ⟨r,i,a,p⟩) e) q⟩
theorem Rel.giveUp (R:Rel C g σ h) (hw:∀ b,W b -> g.Z b ∧ ¬ g.St b) (k:∀ b o,¬ W b -> h.get? b = some o -> h'.get? b = some o):Kp g h (g.zdel W) h' ∧ Rel C (g.zdel W) σ h':=by
 have x:Kp g h (g.zdel W) h':=⟨fun w0 w0 w0 e => e,fun a o e z => k a o (fun w => z (hw a w).1) e,fun a o w0 z q => z q.1⟩
 refine ⟨x,⟨fun b o e => k b o (fun w => ?_) (R.base b o e),fun a z => R.zb a z.1,fun a z => ?_,fun b p => ⟨R.st b p,fun w => (hw b w).2 p⟩,R.dom,fun r i o e => ?_,R.inj⟩⟩
 · have:=(R.zb b (hw b w).1).1
   rw [e] at this; cases this
 · cases e:h.get? a with
   | none => exact absurd e (R.zh a z.1)
   | some o => rw [k a o z.2 e]; exact Option.some_ne_none _
 · refine xEEAA (R.obj r i o e) fun a d p q => ?_
   exact ⟨a,d,p,OR.kp x (fun ob e => k d ob (fun w => (hw d w).2 ⟨r,i,a,p⟩) e) q⟩
theorem Tr.giveUp {g₀:Gh} {s₀:Shared} {σ₀:Store} (x:Tr W g₀ s₀ g s) (R₀:Rel C g₀ σ₀ s₀.heap) (hd:∀ b,W b -> s₀.heap.get? b = Option.none) (hp:∀ b,P b -> s₀.heap.get? b = Option.none)
   (k:∀ b o,¬ P b -> s.heap.get? b = some o -> s'.heap.get? b = some o) (hg:s'.gens = s.gens) (ho:s'.os = s.os):Tr (fun w0 => False) g₀ s₀ (g.zdel P) s':=by
 have nw:∀ b,s₀.heap.get? b ≠ Option.none -> ¬ W b:=fun b l w => l (hd b w)
 have np:∀ b,s₀.heap.get? b ≠ Option.none -> ¬ P b:=fun b l w => l (hp b w)
 refine ⟨fun r i p e => x.grow r i p e,fun b o e n w0 => k b o (np b (Uaf e)) (x.keep b o e n (nw b (Uaf e))),fun a l w0 z => x.zz a l (nw a l) z.1,fun a z => ⟨x.zk a z,np a (R₀.zh a z)⟩,fun a l w0 => ?_,fun b p q => ?_,hg.trans x.gens,ho.trans x.os⟩
 · have l2:=x.live a l (nw a l)
   cases e:s.heap.get? a with
   | none => exact absurd e l2
   | some o => rw [k a o (np a l) e]; exact Option.some_ne_none _
 · rcases x.fresh b p q with z | z
   · exact .inl z
   · exact .inl (hd b z)
theorem Rel.adopt (R:Rel C g σ s.heap) {r:Nat} {l:List Ob} {o:Ob} {a d:Addr} (e:σ[r]? = some l) (hz:g.Z d) (hs:¬ g.St d) (q:OR C g s.heap o a d) :
   Rel C (g.ext r l.length a d) (σ.add r o) s.heap ∧ ∀ W,W d -> Tr W g s (g.ext r l.length a d) s:=by
 have hnone:g.ρ r l.length = none:=R.dom _ _ (Store.get_end e)
 have gr:∀ r' i' p,g.ρ r' i' = some p -> (g.ext r l.length a d).ρ r' i' = some p:=fun r' i' p q => by
   show (if _ then _ else _) = _
   split
   · rename_i z; refine xAA z fun qz1 qz2 => ?_; subst qz1; subst qz2; rw [hnone] at q; cases q
   · exact q
 have zz:∀ b,(g.ext r l.length a d).Z b -> g.Z b:=fun b z => z.elim id fun e => e ▸ hz
 have kp:Kp g s.heap (g.ext r l.length a d) s.heap:=⟨gr,fun w0 w0 e w0 => e,fun a w0 w0 z q => z (zz a q)⟩
 refine ⟨⟨R.base,fun b z => R.zb b (zz b z),fun b z => R.zh b (zz b z),fun b p => ?_,fun r' i' q => ?_,fun r' i' ob q' => ?_,fun r' i' r'' i'' a' a'' d' p q => ?_⟩,fun W w => ⟨gr,fun b ob q w0 w0 => q,fun b w0 w0 z => zz b z,fun b z => .inl z,fun b l w0 => l,fun b p q => ?_,rfl,rfl⟩⟩
 · refine xEEEA p fun r' i' a' p => ?_
   have p:(if r' = r ∧ i' = l.length then some (a,d) else g.ρ r' i') = some (a',b):=p
   split at p
   · cases p; exact .inr rfl
   · exact .inl (R.st b ⟨r',i',a',p⟩)
 · rw [Store.get_add e] at q
   split at q
   · cases q
   · rename_i z
     show (if _ then _ else _) = _
     rw [if_neg z]
     exact R.dom _ _ q
 · rw [Store.get_add e] at q'
   split at q'
   · rename_i z
     refine xAA z fun qz1 qz2 => ?_; subst qz1; subst qz2
     cases q'
     exact ⟨a,d,by show (if _ then _ else _) = _; rw [if_pos ⟨rfl,rfl⟩],OR.kp kp (fun w0 e => e) q⟩
   · rename_i z
     refine xEEAA (R.obj _ _ _ q') fun a' d' p' q'' => ?_
     exact ⟨a',d',gr _ _ _ p',OR.kp kp (fun w0 e => e) q''⟩
 · have p:(if r' = r ∧ i' = l.length then some (a,d) else g.ρ r' i') = some (a',d'):=p
   have q:(if r'' = r ∧ i'' = l.length then some (a,d) else g.ρ r'' i'') = some (a'',d'):=q
   split at p <;> split at q
   · rename_i z z'; exact ⟨z.1.trans z'.1.symm,z.2.trans z'.2.symm⟩
   · cases p; exact absurd ⟨r'',i'',a'',q⟩ hs
   · cases q; exact absurd ⟨r',i',a',p⟩ hs
   · exact R.inj _ _ _ _ _ _ _ p q
 · refine xEEEA p fun r' i' a' p => ?_
   have p:(if r' = r ∧ i' = l.length then some (a,d) else g.ρ r' i') = some (a',b):=p
   split at p
   · cases p; exact .inr w
   · exact absurd ⟨r',i',a',p⟩ q
theorem Tr.notSt {b:Addr} (x:Tr W g s g' s') (l:s.heap.get? b ≠ Option.none) (n:¬ g.St b) (w:¬ W b):¬ g'.St b:=fun q => by
 rcases x.fresh b q n with z | z
 · exact l z
 · exact w z
theorem FR.kp {env:Env} {fr:Fr} (F:FR g h env fr) (x:Kp g h g' h') (hz:∀ a,a = env.locals ∨ (∃ n,env.cells.lookup n = some a) -> g'.Z a ∧ ¬ g'.St a ∧ ∀ o,h.get? a = some o -> h'.get? a = some o):FR g' h' env fr:=by
 refine xEAA F.ns fun m qz1 hv => ?_; obtain ⟨o,es,ep,ho,hd,hk,hm⟩:=qz1
 refine xAAA (hz _ (.inl rfl)) fun z1 z2 z3 => ?_
 refine ⟨F.kind,F.glob,F.blt,F.dbg,z1,z2,⟨m,⟨o,es,ep,z3 _ ho,hd,hk,hm⟩,fun y v e k => ?_⟩,fun y v e => ?_,fun y c e => ?_,F.has,F.apart⟩
 · refine xEAA (hv y v e k) fun u a b => ?_
   exact ⟨u,a,VR.kp x v b⟩
 · rcases F.var y v e with k | ⟨k,c,u,a,⟨oc,hc,hcd⟩,b⟩
   · exact .inl k
   · exact .inr ⟨k,c,u,a,⟨oc,(hz c (.inr ⟨y,a⟩)).2.2 _ hc,hcd⟩,VR.kp x v b⟩
 · refine xAAAEEAA (F.cell y c e) fun z n l u oc hc hcd => ?_
   refine xAAA (hz c (.inr ⟨y,e⟩)) fun z1 z2 z3 => ?_
   exact ⟨z1,z2,l,u,oc,z3 _ hc,hcd⟩
theorem FR.trW {env:Env} {fr:Fr} (F:FR g s.heap env fr) (R:Rel C g σ s.heap) (x:Tr W g s g' s') (hw:∀ b,W b -> g.Z b) (hn:∀ a,a = env.locals ∨ (∃ n,env.cells.lookup n = some a) -> ¬ W a):FR g' s'.heap env fr:=by
 have own:∀ a,a = env.locals ∨ (∃ n,env.cells.lookup n = some a) -> g.Z a ∧ ¬ g.St a:=fun a q => by
   rcases q with rfl | ⟨n,q⟩
   · exact ⟨F.zl,F.sl⟩
   · exact ⟨(F.cell n a q).1,(F.cell n a q).2.1⟩
 refine F.kp (x.kp R.st hw) fun a q => ?_
 refine xAA (own a q) fun z n => ?_
 exact ⟨x.zk a z,x.notSt (R.zh a z) n (hn a q),fun o e => x.keep a o e n (hn a q)⟩
end
end Mine
end
section
open PySem PySem.Calls PyProof.Rows PySem.W
namespace Mine
noncomputable def mkVal:MK -> Value
 | .fn f => .ref f
 | .bi id => .builtin id.id
structure CallOk (C:Cx) (A:Around) (cl:CC):Prop where
 fn:∀ (a:Addr) (args:List V) (us:List Value) (g:Gh) (σ σ':Store) (s:Shared) (v:V),Rel C g σ s.heap -> VRs g s.heap args us -> cl a args σ = some (v,σ') -> EvV C A (call (.ref a) us) g σ' s v
 cls:∀ (a:Addr) (k:Cls) (args:List V) (us:List Value) (g:Gh) (σ σ':Store) (s:Shared) (v:V),lkN a C.P.clss = some k -> Rel C g σ s.heap -> VRs g s.heap args us -> applyV C.P cl (.fn a) args σ = some (v,σ') ->
   EvV C A (call (.ref a) us) g σ' s v
 keep:∀ (a:Addr) (args:List V) (σ:Store) (r:V × Store),cl a args σ = some r -> keepIn C.K (.ref a) = true
theorem Udi {o:Expr} {x:Str} {env:Env} {t:Sem Value} (h:plainBase o = true):attributeBase o x env t = t:=by
 cases o <;> try rfl
 rename_i f args kws p
 cases f <;> first | rfl | cases h
section
variable {C:Cx} {A:Around} {cl:CC} {g:Gh} {σ σ₁ σ':Store} {s:Shared} {n d:Nat} {sc:Scope} {fr:Fr} {env:Env}
theorem Ulu {P:Prog} {e:Expr} {p:Pos} {r:V × Store} (q:evalE P cl n sc fr (.Starred e p) σ = some r):False:=by
 cases n with
 | zero => exact Uaa q
 | succ n => exact Uaa q
theorem Udk {P:Prog} {e:Expr} {rest:List Expr} {r:V × Store} (q:evalE P cl n sc fr e σ = some r):starEach (e :: rest) env = (false,eval e env) :: starEach rest env:=by
 cases e with
 | Starred e' p => exact (Ulu q).elim
 | _ => rfl
theorem Uas {P:Prog} {pos:Pos}:∀ {n:Nat} {es:List Expr} {σ:Store} {r:List V × Store},evalEs P cl n sc fr es σ = some r -> (backTo pos (starEach es env)).any (·.1) = false
 | 0,_,_,_,q => (Uaa q).elim
 | _ + 1,[],_,_,_ => rfl
 | n + 1,x :: es,σ,r,q => by
   refine bndE q fun v σ₁ e1 q => ?_
   refine bndE q fun ws σ₂ e2 q => ?_
   rw [Udk e1]
   have:=Uas (pos:=pos) e2
   show ((false || (backTo pos (starEach es env)).any (·.1))) = false
   rw [this]; rfl
theorem Ulx {P:Prog} {pos:Pos} {n:Nat} {es:List Expr} {σ:Store} {r:List V × Store} (q:evalEs P cl n sc fr es σ = some r):(backTo pos (starEach es env)).all (!·.1) = true:=by
 have:=Uas (pos:=pos) (env:=env) q
 rw [List.any_eq_false] at this
 rw [List.all_eq_true]
 intro x hx
 have:=this x hx
 simpa using this
theorem Uqo (ih:EvOk C A cl n) (es:List Expr) (vs:List V) (pos:Pos) (S:ES sc env) (F:FR g s.heap env fr) (R:Rel C g σ s.heap)
   (e:evalEs C.P cl (n + 1) sc fr es σ = some (vs,σ')):Ev C A (spliced (backTo pos (starEach es env))) g σ' s fun g' h' us => VRs g' h' vs us:=by
 cases es with
 | nil =>
   cases e
   exact Ev.ret R (by simp [VRs])
 | cons x r =>
   refine bndE e fun v σ₁ e1 e => ?_
   refine bndE e fun ws σ₂ e2 e => ?_
   cases e
   rw [Udk e1]
   show Ev C A (spliced ((false,eval x env) :: backTo pos (starEach r env))) g σ' s _
   rw [spliced]
   refine Ev.bind (ih.ev sc fr x env g σ σ₁ s v S F R e1) fun u s₁ g₁ t R₁ hu => ?_
   simp only [Bool.false_eq_true,if_false]
   show Ev C A (holding [u] (spliced (backTo pos (starEach r env))) >>= fun vs => pure ([u] ++ vs)) g₁ σ' s₁ _
   refine Ev.bind (Ev.hold (ih.evs sc fr r env g₁ σ₁ σ' s₁ ws pos S (F.tr R t) R₁ e2)) fun us s₂ g₂ t₂ R₂ hus => ?_
   exact Ev.ret R₂ (by simp only [VRs,List.singleton_append]; exact ⟨u,us,rfl,hu.tr' R₁ t₂,hus⟩)
noncomputable def KeepsF (C:Cx) (f:Value):Prop:=∀ h,C.K.In h -> ∃ k,(k = Keeper.frame ∨ k = Keeper.machine ∨ k = Keeper.boundFrame) ∧ Looks (model C.prog C.w) h (keeperOf f) k
theorem KeepsF.builtin (id:String):KeepsF C (.builtin id):=fun w0 w0 => ⟨.machine,.inr (.inl rfl),.now⟩
theorem KeepsF.type (id:String):KeepsF C (.type id):=fun w0 w0 => ⟨.machine,.inr (.inl rfl),.now⟩
theorem KeepsF.bi (id:Bi):KeepsF C (biVal id):=by cases id <;> first | exact .builtin _ | exact .type _
theorem Ev.callWith {p p':Pos} {f:Value} {first:List Value} {args:List Expr} {as:List V} {T:Gh -> Heap -> Value -> Prop} (Fa:Facts C) (hpl:(backTo p (starEach args env)).any (·.1) = false) (hk:KeepsF C f)
   (hev:Ev C A (spliced (backTo p (starEach args env))) g σ₁ s (fun g' h' us => VRs g' h' as us))
   (hcall:∀ us s₁ g₁,Tr (fun w0 => False) g s g₁ s₁ -> Rel C g₁ σ₁ s₁.heap -> VRs g₁ s₁.heap as us -> Ev C A (call f (first ++ us)) g₁ σ' s₁ T) :
   Ev C A (callWith p' f first (backTo p (starEach args env)) []) g σ' s T:=by
 intro pos Q E q
 refine callWith_of (P:=fun h => C.K.In h) (by show ((backTo p (starEach args env)).any (·.1) || false) = false; rw [hpl]; rfl) hk ?_
 have key:wpAny (model C.prog C.w) A (spliced (backTo p (starEach args env))) (fun vs s' => C.K.In s'.heap ∧ wpAny (model C.prog C.w) A (call f (first ++ vs)) Q E s') E s :=
   wpAny_mono (wpAny_toks_of pos (hev pos (fun us s₁ => 0 < s₁.toks -> (C.K.In s₁.heap ∧ wpAny (model C.prog C.w) A (call f (first ++ us)) Q E s₁)) E fun us s₁ g₁ t R₁ hus p' =>
     ⟨Fa.here R₁,hcall us s₁ g₁ t R₁ hus p' Q E fun a s₂ g₂ t₂ R₂ h₂ => q a s₂ g₂ (t.trans t₂) R₂ h₂⟩)) (fun w0 w0 x => x.2 x.1) fun w0 w0 x => x.2
 cases e:backTo p (starEach args env) with
 | nil =>
   rw [e] at key
   delta evalArgs
   show wpAny _ A (spliced [] >>= _) _ E s
   refine wpAny_bind (wpAny_mono key (fun vs s' h' => wpAny_bind (wpAny_pure ?_)) fun w0 w0 x => x)
   refine wpAny_holding ?_
   exact wpAny_bind (wpAny_pure (wpAny_bind (wpAny_pure (wpAny_pure h'))))
 | cons x r =>
   rw [e] at key hpl
   obtain ⟨b,t⟩:=x
   rw [List.any_cons,Bool.or_eq_false_iff] at hpl
   obtain rfl:b = false:=hpl.1
   exact evalArgs_plain key
theorem get_fn {x:Str} {f:Addr} {r i:Nat} {c:Addr} {es:List (Str × V)} {k:Cls} {uo:Value} {pl:Sem Bool} (Fa:Facts C) (cf:CF C) (R:Rel C g σ s.heap) (ho:VR g s.heap (.ref r i) uo) (e:σ.get r i = some (.inst c es))
   (hk:lkN c C.P.clss = some k) (hf:lk x k.meths = some f) (hn:lk x es = none):Ev C A (getMethod uo x pl) g σ s fun w0 w0 p => p = (.ref f,[uo]):=by
 refine xEEEEAAAAAAA (R.inst e ho) fun a d l m qz1 p q1 q2 q3 q4 w0 => ?_; subst qz1
 have ff:=cf c k hk
 have hg:plainGet C.K c x = true:=ff.get
 refine xAA (ff.meths x f hf) fun m1 m2 => ?_
 have hl:getL x l = some none:=(ER.get x q4).2 hn
 refine Ev.same R fun Q E q => method_fn (od:=some (dictOf l m)) (Fa.here R) ⟨q1,rfl,rfl,q3⟩ (plainGet_of hg).1 (plainGet_of hg).2 m1 (beq_iff_eq.mp m2) (by show (lookIn x (dictOf l m)).map _ = _; rw [lookIn_dict,hl]; rfl) (q _ s.toks rfl)
theorem ifE {α:Type} {c:Prop} [Decidable c] {x:α} {z:Option α} {r:α} {P:Prop} (h:(if c then some x else z) = some r) (k:c -> x = r -> P) (k2:z = some r -> P):P:=by
 by_cases q:c
 · rw [if_pos q] at h; exact k q (Uab h)
 · rw [if_neg q] at h; exact k2 h
noncomputable abbrev GmOk (C:Cx) (A:Around) (pl:Sem Bool) (g:Gh) (σ:Store) (s:Shared) (uo:Value) (x:Str) (f:Value):Prop:=Ev C A (getMethod uo x pl) g σ s fun w0 w0 p => p = (f,[uo])
theorem mk_str {x y:Str} {t:Tok} {id:Mi} {pl:Sem Bool} (R:Rel C g σ s.heap) (h:strM x = some id):GmOk C A pl g σ s (.str y t) x (.builtin id.id) :=
 ifE h (fun b e => by cases e; cases beq_iff_eq.mp b; exact Ev.same R fun Q E q => GM.join (q _ s.toks rfl))
   fun h => ifE h (fun b e => by cases e; cases beq_iff_eq.mp b; exact Ev.same R fun Q E q => GM.find (q _ s.toks rfl))
   fun h => ifE h (fun b e => by cases e; cases beq_iff_eq.mp b; exact Ev.same R fun Q E q => GM.replace (q _ s.toks rfl)) fun h => (Uaa h).elim
theorem Usl {x:Str} {a:Addr} {its:Array Value} {n:Nat} {id:Mi} {pl:Sem Bool} (hg:s.heap.get? a = some (lo its n)) (R:Rel C g σ s.heap) (h:listM x = some id):GmOk C A pl g σ s (.ref a) x (.builtin id.id):=by
 have hd:∀ b,Value.ref a = .ref b -> ∃ o,s.heap.get? b = some o ∧ o.dict = none:=fun b e => by cases e; exact ⟨_,hg,rfl⟩
 exact ifE h (fun b e => by cases e; cases beq_iff_eq.mp b; exact Ev.same R fun Q E q => getMethod_builtin (VR.isList hg).typeIs PySem.F.plainAttrs_list slot_list_append PySem.F.type_list_append hd (q _ s.toks rfl))
   fun h => ifE h (fun b e => by cases e; cases beq_iff_eq.mp b; exact Ev.same R fun Q E q => getMethod_builtin (VR.isList hg).typeIs PySem.F.plainAttrs_list PySem.F.slot_list_extend PySem.F.type_list_extend hd (q _ s.toks rfl))
   fun h => ifE h (fun b e => by cases e; cases beq_iff_eq.mp b; exact Ev.same R fun Q E q => Copied.getMethod_pop_at hg rfl rfl (q _ s.toks rfl)) fun h => (Uaa h).elim
theorem Ur6 {x:Str} {a:Addr} {l:List (Str × Value)} {id:Mi} {pl:Sem Bool} (dO:s.heap.DictOf (strKind C.prog C.w) a l) (R:Rel C g σ s.heap) (h:dictM x = some id):GmOk C A pl g σ s (.ref a) x (.builtin id.id):=by
 have hd:∀ b,Value.ref a = .ref b -> ∃ o,s.heap.get? b = some o ∧ o.dict = none:=dO.mapOf.noDict
 exact ifE h (fun b e => by cases e; cases beq_iff_eq.mp b; exact Ev.same R fun Q E q => getMethod_builtin dO.typeIs PySem.F.plainAttrs_dict PySem.F.slot_dict_get PySem.F.type_dict_get hd (q _ s.toks rfl))
   fun h => ifE h (fun b e => by cases e; cases beq_iff_eq.mp b; exact Ev.same R fun Q E q => getMethod_builtin dO.typeIs PySem.F.plainAttrs_dict PySem.F.slot_dict_update PySem.F.type_dict_update hd (q _ s.toks rfl)) fun h => (Uaa h).elim
theorem mapE {α β:Type} {f:α -> β} {x:Option α} {r:β} {P:Prop} (e:x.map f = some r) (k:∀ a,x = some a -> f a = r -> P):P:=xEAA (Option.map_eq_some_iff.mp e) k
theorem Upn {x:Str} {o:V} {uo:Value} {k:MK} {pl:Sem Bool} (Fa:Facts C) (cf:CF C) (R:Rel C g σ s.heap) (ho:VR g s.heap o uo) (e:methK C.P o x σ = some k):GmOk C A pl g σ s uo x (mkVal k):=obE e
 (fun y q e => mapE e fun id h e => by cases e; exact str1 (T:=fun uo => GmOk C A pl g σ s uo x (.builtin id.id)) q ho fun t w0 w0 => mk_str R h)
 fun w0 e => obE e (fun z q e => mapE e fun id h e => xEEEAAAAA (R.list (Ua3 q).2 ((Ua3 q).1 ▸ ho)) fun a its m e2 w0 hg w0 w0 => by cases e; cases e2; exact Usl hg R h)
 fun w0 e => obE e (fun z q e => mapE e fun id h e => xEEAAAAA (R.dict (Ubv q).2 ((Ubv q).1 ▸ ho)) fun dd l e2 w0 dO w0 w0 => by cases e; cases e2; exact Ur6 dO R h)
 fun w0 e => obS e fun z q e => obS e fun f hf e => obE e (fun w0 w0 e => (Uaa e).elim) fun hn e => by
   have w:=Ufg q
   cases e
   exact get_fn Fa cf R (w.1 ▸ ho) w.2.1 w.2.2 hf hn
end
end Mine
end
section
open PySem PySem.Calls PyProof.Rows PySem.W
namespace Mine
section
variable {C:Cx} {A:Around} {cl:CC} {g:Gh} {σ σ₁ σ':Store} {s:Shared} {n d:Nat} {sc:Scope} {fr:Fr} {env:Env}
theorem Umu {pos:Pos} {vs:List V} {v:V} {us:List Value} (R:Rel C g σ s.heap) (hv:VRs g s.heap vs us) (e:mkList C.P pos vs σ = some (v,σ')):EvV C A (newList us) g σ' s v:=by
 delta mkList at e
 split at e
 · rename_i hl
   have hlen:=hv.len
   split at e
   · rename_i r hr
     split at e
     · rename_i l hl'
       cases e
       intro _ Q E q
       refine wpAny_newList ?_ (Uah (by omega))
       obtain ⟨t,R'⟩:=R.add (s':={ s with heap:=s.heap.push { cls:=.type "list",data:=.seq us.toArray } }) (r:=r) (o:=.list vs) (a:=s.heap.objs.size) (d:=s.heap.objs.size) hl'
         (fun b o e => Heap.get?_push_of_some _ e) (Ube _) (Uaf (Heap.get?_push_size _ rfl)) R.low rfl rfl fun t =>
         ⟨rfl,us.toArray,0,Heap.get?_push_size _ rfl,VRs.tr t R.st (fun w0 f => f.elim) _ (by simpa using hv),hl⟩
       refine q _ _ _ t R' ?_
       simp only [VR]
       exact ⟨_,_,rfl,by show (if _ then _ else _) = _; rw [if_pos ⟨rfl,rfl⟩]⟩
     · cases e
   · cases e
     exact Ev.up R fun Q E q => wpAny_newList (q _ _ (fun b o e => Heap.get?_push_of_some _ e) rfl rfl (VR.newList (k:=0) R (by simpa using hv) hl)) (Uah (by omega))
 · cases e
theorem Uqv {a v:V} {ua:Value} (R:Rel C g σ s.heap) (ha:VR g s.heap a ua) (e:negV a = some v):EvV C A (unaryOp .USub ua) g σ s v:=by
 delta negV at e
 split at e
 · cases e
   simp only [VR] at ha
   refine xEA ha fun t qz1 => ?_; subst qz1
   exact Ev.same R fun Q E q => neg_int (q _ _ VR.mkInt)
 · cases e
theorem lastMarks1 {op:CmpOp} {r:Expr} (h:notSet r = true):behindInMarks op r = false:=by
 cases r <;> first | rfl | cases h
theorem Uhz {P:Prog} {e:Expr} {r:V × Store} (q:evalE P cl n sc fr e σ = some r):notSet e = true:=by
 cases e with
 | Set a b c => cases n <;> exact (Uaa q).elim
 | _ => rfl
theorem Ev.unbool {t:Sem Value} {b:Bool} (h:EvB C A t g σ s b):EvV C A t g σ s (.bool b):=h.mono fun w0 w0 u e => by subst e; exact VR.mkBool
theorem Uet {b:Bool} {u:Value} (R:Rel C g σ s.heap) (e:u = .bool b):Ev C A (truthy u) g σ s fun w0 w0 c => c = b:=by
 subst e; exact Ev.same R fun Q E q => wpAny_truthy_bool (q _ s.toks rfl)
theorem cmp1 (Fa:Facts C) (Ro:Room A d) (ih:EvOk C A cl n) {op:CmpOp} {l r:Expr} {a b:V} {c:Bool} {pos:Pos} {σ₁ σ₂:Store} (S:ES sc env) (F:FR g s.heap env fr) (R:Rel C g σ s.heap)
   (e1:evalE C.P cl n sc fr l σ = some (a,σ₁)) (e2:evalE C.P cl n sc fr r σ₁ = some (b,σ₂)) (e3:cmpV op a b σ₂ = some c) :
   EvB C A (eval (.Compare l [op] [r] pos) env) g σ₂ s c ∧ Ev C A (isTrue (.Compare l [op] [r] pos) env (eval (.Compare l [op] [r] pos) env)) g σ₂ s (fun w0 w0 t => t = c):=by
 have hm:=lastMarks1 (op:=op) (Uhz e2)
 have core:∀ {u:Value} {s₁:Shared} {g₁:Gh},Tr (fun w0 => False) g s g₁ s₁ -> Rel C g₁ σ₁ s₁.heap -> VR g₁ s₁.heap a u ->
     Ev C A (do let b <- holding [u] (eval r env); standAt pos; operate [u,b] (compareOp op u b)) g₁ σ₂ s₁ (fun w0 w0 t => t = .bool c):=by
   intro u s₁ g₁ t₁ R₁ hu
   refine Ev.bind (Ev.hold (ih.ev sc fr r env g₁ σ₁ σ₂ s₁ b S (F.tr R t₁) R₁ e2)) fun ub s₂ g₂ t₂ R₂ hub => ?_
   exact Ev.at_ (Ev.oper (Ufo Fa Ro R₂ (hu.tr' R₁ t₂) hub e3))
 constructor
 · refine Ev.of_eq (eval_Compare1 env l op r pos) ?_
   rw [markedBehindIn_of_false hm]
   exact Ev.bind (ih.ev sc fr l env g σ σ₁ s a S F R e1) fun u s₁ g₁ t₁ R₁ hu => core t₁ R₁ hu
 · refine Ev.of_eq (isTrue_Compare1 env l op r pos _) ?_
   rw [markedBehindIn_of_false hm]
   refine Ev.bind (ih.ev sc fr l env g σ σ₁ s a S F R e1) fun u s₁ g₁ t₁ R₁ hu => ?_
   refine Ev.bind (Ev.hold (ih.ev sc fr r env g₁ σ₁ σ₂ s₁ b S (F.tr R t₁) R₁ e2)) fun ub s₂ g₂ t₂ R₂ hub => ?_
   refine Ev.at_ (Ev.bind (Ev.oper (Ufo Fa Ro R₂ (hu.tr' R₁ t₂) hub e3)) fun uc s₃ g₃ t₃ R₃ huc => ?_)
   exact Ev.hold (Uet R₃ huc)
theorem cmp2 (Fa:Facts C) (Ro:Room A d) (ih:EvOk C A cl n) {op₁ op₂:CmpOp} {l r₁ r₂:Expr} {a b:V} {c e:Bool} {pos:Pos} {σ₁ σ₂ σ₃:Store} (S:ES sc env) (F:FR g s.heap env fr) (R:Rel C g σ s.heap)
   (hm:notSet r₂ = true) (e1:evalE C.P cl n sc fr l σ = some (a,σ₁)) (e2:evalE C.P cl n sc fr r₁ σ₁ = some (b,σ₂)) (e3:cmpV op₁ a b σ₂ = some c)
   (e4:if c = true then ∃ v,evalE C.P cl n sc fr r₂ σ₂ = some (v,σ₃) ∧ cmpV op₂ b v σ₃ = some e else σ₃ = σ₂ ∧ e = false) :
   EvB C A (eval (.Compare l [op₁,op₂] [r₁,r₂] pos) env) g σ₃ s e ∧ Ev C A (isTrue (.Compare l [op₁,op₂] [r₁,r₂] pos) env (eval (.Compare l [op₁,op₂] [r₁,r₂] pos) env)) g σ₃ s (fun w0 w0 t => t = e):=by
 have hl:lastMarks [op₁,op₂] [r₁,r₂] = false:=lastMarks1 (op:=op₂) hm
 have last:∀ {u:Value} {s₁:Shared} {g₁:Gh} {v:V},Tr (fun w0 => False) g s g₁ s₁ -> Rel C g₁ σ₂ s₁.heap -> VR g₁ s₁.heap b u -> evalE C.P cl n sc fr r₂ σ₂ = some (v,σ₃) -> cmpV op₂ b v σ₃ = some e ->
     Ev C A (do let b <- holding [u] (eval r₂ env); standAt pos; operate [u,b] (compareOp op₂ u b)) g₁ σ₃ s₁ (fun w0 w0 t => t = .bool e):=by
   intro u s₁ g₁ v t₁ R₁ hu q1 q2
   refine Ev.bind (Ev.hold (ih.ev sc fr r₂ env g₁ σ₂ σ₃ s₁ v S (F.tr R t₁) R₁ q1)) fun ub s₂ g₂ t₂ R₂ hub => ?_
   exact Ev.at_ (Ev.oper (Ufo Fa Ro R₂ (hu.tr' R₁ t₂) hub q2))
 constructor
 · have eq:eval (.Compare l [op₁,op₂] [r₁,r₂] pos) env = (eval l env >>= fun a => do
       let rv <- holding [a] (eval r₁ env)
       standAt pos
       let c <- holding [a,rv] (compareOp op₁ a rv)
       release [a,rv] [c]
       if <- holding [c,rv] (truthy c) then (do let b <- holding [rv] (eval r₂ env); standAt pos; operate [rv,b] (compareOp op₂ rv b)) else pure c):=by
     rw [arm_eval_Compare,markedEach_of_false _ _ _ hl]; rfl
   refine Ev.of_eq eq (Ev.bind (ih.ev sc fr l env g σ σ₁ s a S F R e1) fun u s₁ g₁ t₁ R₁ hu => ?_)
   refine Ev.bind (Ev.hold (ih.ev sc fr r₁ env g₁ σ₁ σ₂ s₁ b S (F.tr R t₁) R₁ e2)) fun ub s₂ g₂ t₂ R₂ hub => ?_
   refine Ev.at_ (Ev.bind (Ev.hold (Ufo Fa Ro R₂ (hu.tr' R₁ t₂) hub e3)) fun uc s₃ g₃ t₃ R₃ huc => ?_)
   refine Ev.rel (Ev.bind (Ev.hold (Uet R₃ huc)) fun t s₄ g₄ t₄ R₄ ht => ?_)
   subst ht
   cases t with
   | true =>
     simp only [if_true] at e4
     refine xEAA e4 fun v q1 q2 => ?_
     exact last (t₁.trans (t₂.trans (t₃.trans t₄))) R₄ ((hub.tr' R₂ t₃).tr' R₃ t₄) q1 q2
   | false =>
     simp only [Bool.false_eq_true,if_false] at e4
     refine xAA e4 fun qz1 qz2 => ?_; subst qz1; subst qz2
     exact Ev.ret R₄ huc
 · have eq:isTrue (.Compare l [op₁,op₂] [r₁,r₂] pos) env (eval (.Compare l [op₁,op₂] [r₁,r₂] pos) env) = (eval l env >>= fun a => do
       let rv <- holding [a] (eval r₁ env)
       standAt pos
       let c <- holding [a,rv] (compareOp op₁ a rv)
       release [a,rv] [c]
       if <- holding [c,rv] (truthy c) then (do let b <- holding [rv] (eval r₂ env); standAt pos; let c <- operate [rv,b] (compareOp op₂ rv b); holding [c] (truthy c)) else pure false):=by
     rw [arm_isTrue_Compare,markedEach_of_false _ _ _ hl]; rfl
   refine Ev.of_eq eq (Ev.bind (ih.ev sc fr l env g σ σ₁ s a S F R e1) fun u s₁ g₁ t₁ R₁ hu => ?_)
   refine Ev.bind (Ev.hold (ih.ev sc fr r₁ env g₁ σ₁ σ₂ s₁ b S (F.tr R t₁) R₁ e2)) fun ub s₂ g₂ t₂ R₂ hub => ?_
   refine Ev.at_ (Ev.bind (Ev.hold (Ufo Fa Ro R₂ (hu.tr' R₁ t₂) hub e3)) fun uc s₃ g₃ t₃ R₃ huc => ?_)
   refine Ev.rel (Ev.bind (Ev.hold (Uet R₃ huc)) fun t s₄ g₄ t₄ R₄ ht => ?_)
   subst ht
   cases t with
   | true =>
     simp only [if_true] at e4
     refine xEAA e4 fun v q1 q2 => ?_
     have t':=t₁.trans (t₂.trans (t₃.trans t₄))
     refine Ev.bind (Ev.hold (ih.ev sc fr r₂ env g₄ σ₂ σ₃ s₄ v S (F.tr R t') R₄ q1)) fun ub' s₅ g₅ t₅ R₅ hub' => ?_
     refine Ev.at_ (Ev.bind (Ev.oper (Ufo Fa Ro R₅ (((hub.tr' R₂ t₃).tr' R₃ t₄).tr' R₄ t₅) hub' q2)) fun uc' s₆ g₆ t₆ R₆ huc' => ?_)
     exact Ev.hold (Uet R₆ huc')
   | false =>
     simp only [Bool.false_eq_true,if_false] at e4
     refine xAA e4 fun qz1 qz2 => ?_; subst qz1; subst qz2
     exact Ev.ret R₄ rfl
theorem Ue7 {P:Prog} {pos:Pos}:∀ {n:Nat} {ks:List (Option Expr)} {es:List Expr} {σ:Store} {r:List (Str × V) × Store},pairsE P cl n sc fr ks es σ = some r ->
   (evalEachOpt ks env).zip ((evalEach es env).map fun v => do let x <- v; standAt pos; pure x) = (pairsOf ks es env pos).map (fun p => (some p.1,p.2)) ∧ (pairsOf ks es env pos).length = ks.length ∧ r.1.length = ks.length
 | 0,_,_,_,_,q => (Uaa q).elim
 | _ + 1,[],[],_,_,q => by cases q; exact ⟨rfl,rfl,rfl⟩
 | n + 1,some k :: ks,e :: es,σ,r,q => by
   refine bndE q fun kv σ₁ e1 q => ?_
   cases kv with
   | str x =>
     refine bndE q fun v σ₂ e2 q => ?_
     refine bndE q fun l σ₃ e3 q => ?_
     cases q
     refine xAAA (Ue7 (pos:=pos) e3) fun a b c => ?_
     refine ⟨?_,congrArg (· + 1) b,congrArg (· + 1) c⟩
     exact congrArg (List.cons _) a
   | _ => exact (Uaa q).elim
 | _ + 1,none :: _,[],_,_,q => (Uaa q).elim
 | _ + 1,none :: _,_ :: _,_,_,q => (Uaa q).elim
 | _ + 1,some _ :: _,[],_,_,q => (Uaa q).elim
 | _ + 1,[],_ :: _,_,_,q => (Uaa q).elim
theorem Ulq (ih:EvOk C A cl n) (ks:List (Option Expr)) (es:List Expr) (l:List (Str × V)) (pos:Pos) (S:ES sc env) (F:FR g s.heap env fr) (R:Rel C g σ s.heap)
   (e:pairsE C.P cl (n + 1) sc fr ks es σ = some (l,σ')):Ev C A (evalPairs (pairsOf ks es env pos)) g σ' s fun g' h' us => ∃ kvs,Carries (strKind C.prog C.w) us kvs ∧ PR g' h' l kvs:=by
 match ks,es,e with
 | [],[],e =>
   cases e
   exact Ev.ret R ⟨[],trivial,by simp [PR]⟩
 | some k :: ks,x :: es,e =>
   refine bndE e fun kv σ₁ e1 e => ?_
   cases kv with
   | str kx =>
     refine bndE e fun v σ₂ e2 e => ?_
     refine bndE e fun m σ₃ e3 e => ?_
     cases e
     rw [pairsOf,evalPairs]
     refine Ev.bind (ih.ev sc fr k env g σ σ₁ s _ S F R e1) fun uk s₁ g₁ t₁ R₁ huk => ?_
     refine Ev.bind (Ev.hold (Ev.bind (T':=fun g' h' u => VR g' h' v u) (ih.ev sc fr x env g₁ σ₁ σ₂ s₁ v S (F.tr R t₁) R₁ e2) fun ux s₂ g₂ t₂ R₂ hux => Ev.at_ (Ev.ret R₂ hux))) fun ux s₂ g₂ t₂ R₂ hux => ?_
     refine Ev.bind (Ev.hold (ih.pairs sc fr ks es env g₂ σ₂ σ' s₂ m pos S ((F.tr R t₁).tr R₁ t₂) R₂ e3)) fun us s₃ g₃ t₃ R₃ hus => ?_
     refine xEAA hus fun kvs hc hp => ?_
     have huk':=(huk.tr' R₁ t₂).tr' R₂ t₃
     simp only [VR] at huk'
     refine xEAA huk' fun t qz1 w0 => ?_; subst qz1
     exact Ev.ret R₃ ⟨(kx,ux) :: kvs,⟨strKind_is _ _ kx t,rfl,hc⟩,by simp only [PR]; exact ⟨ux,kvs,rfl,hux.tr' R₂ t₃,hp⟩⟩
   | _ => exact (Uaa e).elim
 | none :: _,[],e => exact (Uaa e).elim
 | none :: _,_ :: _,e => exact (Uaa e).elim
 | some _ :: _,[],e => exact (Uaa e).elim
 | [],_ :: _,e => exact (Uaa e).elim
end
end Mine
end
section
open PySem PySem.Calls PyProof.Rows PySem.W
namespace Mine
section
variable {C:Cx} {A:Around} {cl:CC} {g:Gh} {σ σ₁ σ':Store} {s:Shared} {n d:Nat} {sc:Scope} {fr:Fr} {env:Env}
theorem Uqz (ih:EvOk C A cl n) {ks:List (Option Expr)} {es:List Expr} {pos:Pos} {v:V} {l:List (Str × V)} (S:ES sc env) (F:FR g s.heap env fr) (R:Rel C g σ s.heap)
   (h15:ks.length <= 15 ∧ 0 < ks.length) (e1:pairsE C.P cl n sc fr ks es σ = some (l,σ₁)) (e2:mkDict C.P pos l σ₁ = some (v,σ')):EvV C A (eval (.Dict ks es pos) env) g σ' s v:=by
 delta mkDict at e2
 split at e2
 · rename_i r hr
   split at e2
   · rename_i ob hob
     cases e2
     refine xAAA (Ue7 (env:=env) (pos:=pos) e1) fun sh ln ll => ?_
     have D0:(s.heap.push { cls:=.type "dict",data:=.dict #[] }).DictOf (strKind C.prog C.w) s.heap.objs.size []:=Heap.DictOf.new ..
     intro p Q E q
     obtain ⟨t₁,R₁⟩:=R.zadd (s':={ s with heap:=s.heap.push { cls:=.type "dict",data:=.dict #[] } }) (fun a => a = s.heap.objs.size) (fun b o e => Heap.get?_push_of_some _ e)
       (fun a e => by subst e; exact ⟨Ube _,Uaf (Heap.get?_push_size _ rfl),R.low⟩) rfl rfl
     have nst:¬ (g.zadd (fun a => a = s.heap.objs.size)).St s.heap.objs.size:=fun z => R.zh _ (R.st _ z) (Ube _)
     refine wpAny_Dict_pairs (knd:=strKind C.prog C.w) sh (by intro z; rw [z] at ln; simp at ln; omega) (by omega) ?_
     refine wpAny_mono (wpAny_toks_of p (ih.pairs sc fr ks es env _ σ σ₁ _ l pos S (F.tr R t₁) R₁ e1 p (fun us s₂ => ∃ kvs,Carries (strKind C.prog C.w) us kvs ∧ s₂.heap.DictOf (strKind C.prog C.w) s.heap.objs.size [] ∧
       ∀ h',h'.DictOf (strKind C.prog C.w) s.heap.objs.size (merged [] kvs) -> Heap.SameBut s.heap.objs.size s₂.heap h' -> Q (.ref s.heap.objs.size) { s₂ with heap:=h',toks:=s₂.toks + us.length }) E fun us s₂ g₂ t₂ R₂ hus => ?_))
       (fun w0 w0 x => x.2) fun w0 w0 x => x.2
     refine xEAA hus fun kvs hc hp => ?_
     refine ⟨kvs,hc,?_,fun h' dO sb => ?_⟩
     · refine xEEEAA D0 fun o es' ep ho r' => ?_
       exact ⟨o,es',ep,t₂.keep _ _ ho nst (fun f => f),r'⟩
     · have hz₂:g₂.Z s.heap.objs.size:=t₂.zk _ (.inr rfl)
       have nst₂:¬ g₂.St s.heap.objs.size:=fun z => by
         rcases t₂.fresh _ z nst with w | w
         · have:(s.heap.push { cls:=.type "dict",data:=.dict #[] }).get? s.heap.objs.size = none:=w
           rw [Heap.get?_push_size _ rfl] at this; cases this
         · exact w
       rw [Ud2 (by simp)] at dO
       obtain ⟨t₃,R₃⟩:=R₂.write (W:=fun a => a = s.heap.objs.size) (s':={ s₂ with heap:=h',toks:=s₂.toks + us.length }) (fun b e => by subst e; exact ⟨hz₂,nst₂⟩) (fun b o w e => (sb.2 b w).trans e)
         (fun b e => by subst e; exact DictOf.live dO) rfl rfl
       have hpl:=hp.len
       obtain ⟨R₄,t₄⟩:=R₃.adopt (s:={ s₂ with heap:=h',toks:=s₂.toks + us.length }) (r:=r) (o:=.dict (updD [] l)) (a:=s.heap.objs.size) hob hz₂ nst₂
         ⟨rfl,_,dO,PR.tr t₃ R₂.st (fun b e => by subst e; exact hz₂) _ (PR.upd (by simp [PR]) hp),by
           have h1:=Ucr l ([]:List (Str × V))
           have h2:l.length = ks.length:=ll
           have:lim = 1000000:=rfl
           delta updD
           simp only [List.length_nil] at h1
           omega⟩
       have t:=((t₁.none (W:=fun a => a = s.heap.objs.size)).trans (t₂.none.trans (t₃.trans (t₄ (fun a => a = s.heap.objs.size) rfl)))).weak (W':=fun w0 => False) fun b l w => by subst w; exact l (Ube _)
       refine q _ _ _ t R₄ ?_
       simp only [VR]
       exact ⟨_,_,rfl,by show (if _ then _ else _) = _; rw [if_pos ⟨rfl,rfl⟩]⟩
   · cases e2
 · cases e2
theorem Unk (ih:EvOk C A cl n) {op:BoolOp} {es:List Expr} {pos:Pos} {v:V} (S:ES sc env) (F:FR g s.heap env fr) (R:Rel C g σ s.heap)
   (e:boolE C.P cl (n + 1) sc fr op es σ = some (v,σ')):EvV C A (eval (.BoolOp op es pos) env) g σ' s v:=by
 match es,e with
 | [],e => exact (Uaa e).elim
 | [x],e =>
   exact ih.ev sc fr x env g σ σ' s v S F R e
 | x :: y :: r,e =>
   · refine bndE e fun a σ₁ e1 e => ?_
     refine bndE e fun b σ₂ e2 e => ?_
     refine xAA (Udc e2) fun e2' qz1 => ?_; subst qz1
     have eq:eval (.BoolOp op (x :: y :: r) pos) env = (eval x env >>= fun v => do
       standAt pos
       let t <- holding [v] (truthy v)
       match op,t with
       | .And,false | .Or,true => pure v
       | _,_ => eval (.BoolOp op (y :: r) pos) env):=rfl
     refine Ev.of_eq eq (Ev.bind (ih.ev sc fr x env g σ _ s a S F R e1) fun u s₁ g₁ t₁ R₁ hu => Ev.at_ (Ev.bind (Ev.hold (isT_ok R₁ hu e2')) fun t s₂ g₂ t₂ R₂ ht => ?_))
     subst ht
     have next:boolE C.P cl n sc fr op (y :: r) σ₁ = some (v,σ') -> EvV C A (eval (.BoolOp op (y :: r) pos) env) g₂ σ' s₂ v:=fun q => ih.bool sc fr op (y :: r) env g₂ σ₁ σ' s₂ v pos S ((F.tr R t₁).tr R₁ t₂) R₂ q
     cases op <;> cases t
     · cases e; exact Ev.ret R₂ (hu.tr' R₁ t₂)
     · exact next e
     · exact next e
     · cases e; exact Ev.ret R₂ (hu.tr' R₁ t₂)
theorem Uld (ih:EvOk C A cl n) {op:BoolOp} {es:List Expr} {b:Bool} (S:ES sc env) (F:FR g s.heap env fr) (R:Rel C g σ s.heap)
   (e:testsE C.P cl (n + 1) sc fr op es σ = some (b,σ')):Ev C A (allTrue op es env) g σ' s fun w0 w0 c => c = b:=by
 match es,e with
 | [],e =>
   cases e
   exact Ev.of_eq (arm_allTrue_nil op env) (Ev.ret R rfl)
 | x :: r,e =>
   refine bndE e fun c σ₁ e1 e => ?_
   have eq:allTrue op (x :: r) env = (isTrue x env (eval x env) >>= fun t => match op,t with
     | .And,false => pure false
     | .Or,true => pure true
     | _,_ => allTrue op r env):=rfl
   refine Ev.of_eq eq (Ev.bind (ih.test sc fr x env g σ σ₁ s c S F R e1) fun t s₁ g₁ t₁ R₁ ht => ?_)
   subst ht
   have next:testsE C.P cl n sc fr op r σ₁ = some (b,σ') -> Ev C A (allTrue op r env) g₁ σ' s₁ (fun w0 w0 c => c = b):=fun q => ih.tests sc fr op r env g₁ σ₁ σ' s₁ b S (F.tr R t₁) R₁ q
   cases op <;> cases t
   · cases e; exact Ev.ret R₁ rfl
   · exact next e
   · exact next e
   · cases e; exact Ev.ret R₁ rfl
theorem Uo4 (ih:EvOk C A cl n) {e:Option Expr} {v:Option V} (S:ES sc env) (F:FR g s.heap env fr) (R:Rel C g σ s.heap)
   (q:optE C.P cl (n + 1) sc fr e σ = some (v,σ')):Ev C A (evalPart e env) g σ' s fun g' h' u => OVR g' h' v u:=by
 cases e with
 | none =>
   cases q
   exact Ev.of_eq (evalPart_none env) (Ev.ret R rfl)
 | some e =>
   refine bndE q fun a σ₁ e1 q => ?_
   cases q
   exact Ev.of_eq (evalPart_some e env) (ih.ev sc fr e env g σ σ' s a S F R e1)
theorem Ums (Fa:Facts C) (Ro:Room A d) (ih:EvOk C A cl n) {e:Expr} {b:Bool} (S:ES sc env) (F:FR g s.heap env fr) (R:Rel C g σ s.heap)
   (q:testE C.P cl (n + 1) sc fr e σ = some (b,σ')):Ev C A (isTrue e env (eval e env)) g σ' s fun w0 w0 c => c = b:=by
 rcases Um0 e with ⟨x,p,rfl⟩ | ⟨op,es,p,rfl⟩ | ⟨l,ops,rs,p,z,rfl,hz⟩ | hb | ⟨hp,he⟩
 · refine bndE q fun c σ₁ e1 q => ?_
   cases q
   refine Ev.of_eq (arm_isTrue_UnaryOp x p env _) (Ev.bind (ih.test sc fr x env g σ σ' s c S F R e1) fun t s₁ g₁ t₁ R₁ ht => ?_)
   subst ht
   exact Ev.ret R₁ rfl
 · exact Ev.of_eq (arm_isTrue_BoolOp op es p env _) (ih.tests sc fr op es env g σ σ' s b S F R q)
 · rcases Unq hz with ⟨op,r,rfl,rfl,rfl⟩ | ⟨op₁,op₂,r₁,r₂,rfl,rfl,rfl⟩
   · refine bndE q fun a σ₁ e1 q => ?_
     refine bndE q fun c σ₂ e2 q => ?_
     refine bndE q fun t σ₃ e3 q => ?_
     refine xAA (Uap e3) fun e3' qz1 => ?_; subst qz1
     cases q
     exact (cmp1 Fa Ro ih S F R e1 e2 e3').2
   · refine bndE q fun a σ₁ e1 q => ?_
     refine bndE q fun c σ₂ e2 q => ?_
     refine bndE q fun t σ₃ e3 q => ?_
     refine xAA (Uap e3) fun e3' qz1 => ?_; subst qz1
     rcases Ua8 q with ⟨ht,q⟩ | ⟨ht,q⟩
     · rcases Ua8 q with ⟨hn,q⟩ | ⟨_,q⟩
       · refine bndE q fun v σ₄ e4 q => ?_
         refine xAA (Uap q) fun q' qz1 => ?_; subst qz1
         exact (cmp2 Fa Ro ih S F R hn e1 e2 e3' (by rw [if_pos ht]; exact ⟨v,e4,q'⟩)).2
       · exact (Uaa q).elim
     · rcases Ua8 q with ⟨hn,q⟩ | ⟨_,q⟩
       · cases q
         exact (cmp2 Fa Ro ih S F R hn e1 e2 e3' (by rw [if_neg ht]; exact ⟨rfl,rfl⟩)).2
       · exact (Uaa q).elim
 · exact (Ur4 q hb).elim
 · refine xEEAA (Upj (Ump q hp)) fun a σ₁ e1 q => ?_
   refine xAA (Udc q) fun e2' qz1 => ?_; subst qz1
   exact Ev.of_eq (he _ _) (Ev.bind (ih.ev sc fr e env g σ _ s a S F R e1) fun u s₁ g₁ t₁ R₁ hu => Ev.at_ (Ev.hold (isT_ok R₁ hu e2')))
end
end Mine
end
section
open PySem PySem.Calls PyProof.Rows PySem.W
namespace Mine
section
variable {C:Cx} {A:Around} {cl:CC} {g:Gh} {σ σ₁ σ':Store} {s:Shared} {n d:Nat} {sc:Scope} {fr:Fr} {env:Env}
theorem Uk2 (ih:EvOk C A cl n) {o lo hi st:Option Expr} {e:Expr} {p pos:Pos} {v ov:V} {a b c:Option V} {σ₁ σ₂ σ₃ σ₄:Store} (S:ES sc env) (F:FR g s.heap env fr) (R:Rel C g σ s.heap)
   (e1:evalE C.P cl n sc fr e σ = some (ov,σ₁)) (e2:optE C.P cl n sc fr lo σ₁ = some (a,σ₂)) (e3:optE C.P cl n sc fr hi σ₂ = some (b,σ₃))
   (hst:∀ (g₁:Gh) (s₁:Shared),Tr (fun w0 => False) g s g₁ s₁ -> Rel C g₁ σ₃ s₁.heap -> Ev C A (evalPart st env) g₁ σ₄ s₁ fun g' h' u => OVR g' h' c u)
   (fin:∀ (uo ul uh us:Value) (ad:Addr) (g₁:Gh) (s₁:Shared) (sl:Expr),Rel C g₁ σ₄ s₁.heap -> VR g₁ s₁.heap ov uo -> OVR g₁ s₁.heap a ul -> OVR g₁ s₁.heap b uh -> OVR g₁ s₁.heap c us ->
     s₁.heap.get? ad = some { cls:=.type "slice",data:=.fields #[ul,uh,us] } -> EvV C A (subscriptTail e sl uo (.ref ad)) g₁ σ₄ s₁ v) :
   EvV C A (eval (.Subscript e (.Slice lo hi st p) pos) env) g σ₄ s v:=by
 have ot:∀ {o:Option V} {u:Value} {g₁ g₂:Gh} {s₁ s₂:Shared} {σ₁:Store},OVR g₁ s₁.heap o u -> Rel C g₁ σ₁ s₁.heap -> Tr (fun w0 => False) g₁ s₁ g₂ s₂ -> OVR g₂ s₂.heap o u:=by
   intro o u g₁ g₂ s₁ s₂ σ₁ h R t
   cases o with
   | none => exact h
   | some v => exact VR.tr' h R t
 have eq:eval (.Subscript e (.Slice lo hi st p) pos) env = (eval e env >>= fun o => holding [o] (eval (.Slice lo hi st p) env) >>= fun i => standAt pos >>= fun w0 => subscriptTail e (.Slice lo hi st p) o i):=rfl
 refine Ev.of_eq eq (Ev.bind (ih.ev sc fr e env g σ σ₁ s ov S F R e1) fun uo s₁ g₁ t₁ R₁ huo => ?_)
 have sl:Ev C A (eval (.Slice lo hi st p) env) g₁ σ₄ s₁ (fun g' h' i => ∃ ul uh us ad,i = .ref ad ∧ h'.get? ad = some { cls:=.type "slice",data:=.fields #[ul,uh,us] } ∧ VR g' h' ov uo ∧ OVR g' h' a ul ∧ OVR g' h' b uh ∧ OVR g' h' c us):=by
   have eq2:eval (.Slice lo hi st p) env = (evalPart lo env >>= fun l => holding [l] (evalPart hi env) >>= fun u => holding [l,u] (evalPart st env) >>= fun x => newFields "slice" [l,u,x]):=by
     rw [arm_eval_Slice]; cases lo <;> cases hi <;> cases st <;> rfl
   refine Ev.of_eq eq2 (Ev.bind (ih.opt sc fr lo env g₁ σ₁ σ₂ s₁ a S (F.tr R t₁) R₁ e2) fun ul s₂ g₂ t₂ R₂ hul => ?_)
   have F₂:=(F.tr R t₁).tr R₁ t₂
   refine Ev.bind (Ev.hold (ih.opt sc fr hi env g₂ σ₂ σ₃ s₂ b S F₂ R₂ e3)) fun uh s₃ g₃ t₃ R₃ huh => ?_
   refine Ev.bind (Ev.hold (hst g₃ s₃ (t₁.trans (t₂.trans t₃)) R₃)) fun us s₄ g₄ t₄ R₄ hus => ?_
   refine Ev.up R₄ fun Q E q => wpAny_newObj_type ?_
   have k:∀ b o,s₄.heap.get? b = some o -> (s₄.heap.push { cls:=.type "slice",data:=.fields [ul,uh,us].toArray }).get? b = some o:=fun b o e => Heap.get?_push_of_some _ e
   have tt:Tr (fun w0 => False) g₄ s₄ g₄ { s₄ with heap:=s₄.heap.push { cls:=.type "slice",data:=.fields [ul,uh,us].toArray } }:=Tr.grown k rfl rfl
   exact q _ _ k rfl rfl ⟨ul,uh,us,_,rfl,Heap.get?_push_size _ rfl,(((huo.tr' R₁ t₂).tr' R₂ t₃).tr' R₃ t₄).tr' R₄ tt,ot (ot (ot hul R₂ t₃) R₃ t₄) R₄ tt,ot (ot huh R₃ t₄) R₄ tt,ot hus R₄ tt⟩
 refine Ev.bind (Ev.hold sl) fun i s₂ g₂ t₂ R₂ hi => ?_
 refine xEEEEAAAAAA hi fun ul uh us ad qz1 ha h1 h2 h3 h4 => ?_; subst qz1
 exact Ev.at_ (fin uo ul uh us ad g₂ s₂ _ R₂ h1 h2 h3 h4 ha)
theorem Umf {x:Expr} {a:Str} (e:cstS x = some a):∃ k p,x = .Constant (.str a) k p:=by
 cases x with
 | Constant c k p => cases c with
   | str b => cases e; exact ⟨_,_,rfl⟩
   | _ => cases e
 | _ => cases e
theorem replE {ov:V} {args:List Expr} {r:V × Store} {P:Prop} (e:replV ov args σ = some r) (k:∀ z k1 p1 k2 p2 a b,strO ov = some z -> args = [.Constant (.str a) k1 p1,.Constant (.str b) k2 p2] ->
   (if b.length <= 14 ∧ (a == b) = false ∧ (Txt.replace z a b).cps.all (· < 0x110000) = true ∧ (Txt.replace z a b).length <= lim then ret (V.str (Txt.replace z a b)) else fail) σ = some r -> P):P :=
 obM e fun z hz e => obM e fun w hw e => obM e fun a ha e => obM e fun b hb e => xEEA (Umf ha) fun k1 p1 h1 => xEEA (Umf hb) fun k2 p2 h2 => k z k1 p1 k2 p2 a b hz (by rw [twoE hw,h1,h2]) e
theorem Uq7 {x:Str} {ov:V} {uo:Value} {args:List Expr} {pos:Pos} {v:V} (R:Rel C g σ s.heap) (ho:VR g s.heap ov uo) (e:replV ov args σ = some (v,σ')) :
   EvV C A (callWith pos (.builtin "str.replace") [uo] (backTo pos (starEach args env)) []) g σ' s v:=replE e fun z k1 p1 k2 p2 a b hz e2 e => iteM e fun hc e => by
 cases e; cases e2
 refine str1 (T:=fun uo => EvV C A (callWith pos (.builtin "str.replace") [uo] _ []) g σ s (.str (Txt.replace z a b))) hz ho fun t w0 l1 => ?_
 intro p Q E q
 have hlim:lim <= 1048576:=by decide
 refine callWith_of (P:=fun w0 => True) rfl (fun w0 w0 => ⟨.machine,.inr (.inl rfl),.now⟩) (evalArgs_plain (spliced_cons (Constant_str (k:=k1) (pos:=p1) (spliced_cons (Constant_str (k:=k2) (pos:=p2) (spliced_nil ⟨trivial,?_⟩))))))
 exact SC.replaceW (by show s.toks ≠ 0; omega) (Nat.succ_ne_zero _) (Nat.ne_of_lt (Nat.lt_succ_self _)) hc.2.1 (Nat.le_trans l1 hlim) hc.1 fun t' k => q _ _ g (Tr.tok k) R (VR.mkStr hc.2.2.1 hc.2.2.2)
theorem kwNil (pos:Pos):backToKw pos (keywordEach [] env) = []:=rfl
theorem Ugh {ov:V} {args:List Expr} {r:V × Store} {pos:Pos} (e:replV ov args σ = some r):(backTo pos (starEach args env)).all (!·.1) = true:=replE e fun w0 w0 w0 w0 w0 w0 w0 w0 q w0 => by cases q; rfl
theorem Unh {o:Expr} {x:Str} {ap pos:Pos} {args:List Expr} (hc:callOk o args ap pos = true) (hall:(backTo pos (starEach args env)).all (!·.1) = true) :
   eval (.Call (.Attribute o x ap) args [] pos) env = (eval o env >>= fun ov => standAt ap.atName >>= fun w0 => holding [ov] (getMethod ov x (do return (<- importBound o env).getD true)) >>= fun p => callWith pos p.1 p.2 (backTo pos (starEach args env)) []):=by
 have hc:=Bool.and_eq_true_iff.mp hc
 have hd:=Bool.and_eq_true_iff.mp hc.1
 have few:methodCallForm (args.length + ([]:List Keyword).length) (backTo pos (starEach args env)) (backToKw pos (keywordEach [] env)) = true:=by
   have hlen:=of_decide_eq_true hd.2
   delta methodCallForm
   rw [kwNil,hall]
   simp only [List.all_nil,Bool.and_self,List.isEmpty_nil,if_true,Bool.true_and,decide_eq_true_eq,List.length_nil]
   omega
 rw [arm_eval_Call,Udi hd.1]
 delta methodCall
 rw [few]
 delta calleeOf methodCallPos
 simp only [if_true,Bool.not_true,Bool.false_or,hc.2,pure_bind,kwNil]
theorem Ury (Fa:Facts C) (cf:CF C) (Ro:Room A d) (co:CallOk C A cl) (ih:EvOk C A cl n) {o:Expr} {x:Str} {ap pos:Pos} {args:List Expr} {v:V} (S:ES sc env) (F:FR g s.heap env fr) (R:Rel C g σ s.heap)
   (e:evalE C.P cl (n + 1) sc fr (.Call (.Attribute o x ap) args [] pos) σ = some (v,σ')):EvV C A (eval (.Call (.Attribute o x ap) args [] pos) env) g σ' s v:=iteM e fun hc e => bndE e fun ov σ₁ e1 e => bndL e fun k e2 e => by
 have main:∀ (hall:(backTo pos (starEach args env)).all (!·.1) = true),(∀ (uo:Value) (s₁:Shared) (g₁:Gh),Tr (fun w0 => False) g s g₁ s₁ -> Rel C g₁ σ₁ s₁.heap -> VR g₁ s₁.heap ov uo ->
     EvV C A (callWith pos (mkVal k) [uo] (backTo pos (starEach args env)) []) g₁ σ' s₁ v) -> EvV C A (eval (.Call (.Attribute o x ap) args [] pos) env) g σ' s v:=fun hall h => by
   refine Ev.of_eq (Unh hc hall) (Ev.bind (ih.ev sc fr o env g σ σ₁ s ov S F R e1) fun uo s₁ g₁ t₁ R₁ huo => ?_)
   refine Ev.at_ (Ev.bind (Ev.hold (Upn Fa cf R₁ huo e2)) fun p s₂ g₂ t₂ R₂ hp => ?_)
   subst hp
   exact h uo s₂ g₂ (t₁.trans t₂) R₂ (huo.tr' R₁ t₂)
 rcases Ua8 e with ⟨hr,e⟩ | ⟨_,e⟩
 · cases k with
   | fn f => cases hr
   | bi id => cases id <;> first | exact main (Ugh e) fun uo s₁ g₁ t₁ R₁ huo => Uq7 (x:=x) R₁ huo e | cases hr
 · refine bndE e fun as σ₃ e3 e => main (Ulx e3) fun uo s₁ g₁ t₁ R₁ huo => ?_
   refine Ev.callWith Fa (Uas e3) ?_ (ih.evs sc fr args env g₁ _ σ₃ s₁ as pos S (F.tr R t₁) R₁ e3) fun us s₂ g₂ t₂ R₂ hus => ?_
   · cases k with
     | bi id => exact KeepsF.builtin id.id
     | fn f => exact keeps_K (co.keep f _ _ _ e)
   · have huo':=huo.tr' R₁ t₂
     cases k with
     | bi id => exact Uqm Fa Ro R₂ huo' hus e
     | fn f => exact co.fn f (ov :: as) (uo :: us) g₂ _ σ' s₂ v R₂ ⟨uo,us,rfl,huo',hus⟩ e
theorem Urq (Fa:Facts C) (cf:CF C) (Ro:Room A d) (co:CallOk C A cl) (ih:EvOk C A cl n) {f:Str} {q pos:Pos} {args:List Expr} {v:V} (S:ES sc env) (F:FR g s.heap env fr) (R:Rel C g σ s.heap)
   (e:evalE C.P cl (n + 1) sc fr (.Call (.Name f q) args [] pos) σ = some (v,σ')):EvV C A (eval (.Call (.Name f q) args [] pos) env) g σ' s v:=iteM e fun w0 e => bndE e fun fv σ₁ e1 e => bndE e fun as σ₂ e2 e => by
 have eq:eval (.Call (.Name f q) args [] pos) env = (eval (.Name f q) env >>= fun fv => callWith pos fv [] (backTo pos (starEach args env)) []):=rfl
 refine Ev.of_eq eq (Ev.bind (ih.ev sc fr _ env g σ σ₁ s fv S F R e1) fun uf s₁ g₁ t₁ R₁ huf => ?_)
 have hev:=ih.evs sc fr args env g₁ σ₁ σ₂ s₁ as pos S (F.tr R t₁) R₁ e2
 cases fv with
 | bi nm => cases (show uf = biVal nm from huf); exact Ev.callWith Fa (Uas e2) (KeepsF.bi nm) hev fun us s₂ g₂ t₂ R₂ hus => Uj1 Fa Ro R₂ hus e
 | fn a =>
   cases (show uf = .ref a from huf)
   cases hk:lkN a C.P.clss with
   | some k => exact Ev.callWith Fa (Uas e2) (keeps_K (cf a k hk).keep) hev fun us s₂ g₂ t₂ R₂ hus => co.cls a k as us g₂ σ₂ σ' s₂ v hk R₂ hus e
   | none =>
     have e':cl a as σ₂ = some (v,σ'):=by
       simp only [applyV,hk] at e
       exact e
     exact Ev.callWith Fa (Uas e2) (keeps_K (co.keep a _ _ _ e')) hev fun us s₂ g₂ t₂ R₂ hus => co.fn a as us g₂ σ₂ σ' s₂ v R₂ hus e'
 | _ => exact (Uaa e).elim
end
end Mine
end
section
open PySem PySem.Calls PyProof.Rows PySem.W
namespace Mine
noncomputable def CompH (C:Cx) (A:Around) (cl:CC) (n:Nat):Prop :=
 ∀ (sc:Scope) (fr:Fr) (elt:Expr) (gens:List Comprehension) (scope:Scope) (pos:Pos) (env:Env) (g:Gh) (σ σ':Store) (s:Shared) (v:V),ES sc env -> FR g s.heap env fr -> Rel C g σ s.heap ->
   evalE C.P cl (n + 1) sc fr (.ListComp elt gens scope pos) σ = some (v,σ') -> EvV C A (eval (.ListComp elt gens scope pos) env) g σ' s v
section
variable {C:Cx} {A:Around} {cl:CC} {g:Gh} {σ σ₁ σ':Store} {s:Shared} {n d:Nat} {sc:Scope} {fr:Fr} {env:Env}
theorem Ur1 (Fa:Facts C) (cf:CF C) (Ro:Room A d) (co:CallOk C A cl) (ih:EvOk C A cl n) (ch:CompH C A cl n) {e:Expr} {v:V} (S:ES sc env) (F:FR g s.heap env fr) (R:Rel C g σ s.heap)
   (q:evalE C.P cl (n + 1) sc fr e σ = some (v,σ')):EvV C A (eval e env) g σ' s v:=by
 cases e with
 | Constant c k p => exact Und q R
 | Name x p => exact Upc Fa F R S.gl q
 | BoolOp op es p => exact ih.bool sc fr op es env g σ σ' s v p S F R q
 | BinOp l op r p =>
   refine bndE q fun a σ₁ e1 q => ?_
   refine bndE q fun b σ₂ e2 q => ?_
   refine xAA (Uap q) fun q' qz1 => ?_; subst qz1
   refine Ev.of_eq (arm_eval_BinOp l op r p env) (Ev.bind (ih.ev sc fr l env g σ σ₁ s a S F R e1) fun ua s₁ g₁ t₁ R₁ hua => ?_)
   refine Ev.bind (Ev.hold (ih.ev sc fr r env g₁ σ₁ σ₂ s₁ b S (F.tr R t₁) R₁ e2)) fun ub s₂ g₂ t₂ R₂ hub => ?_
   exact Ev.at_ (Ev.oper (Uq5 R₂ (hua.tr' R₁ t₂) hub q'))
 | UnaryOp op x p =>
   cases op with
   | Not =>
     refine bndE q fun a σ₁ e1 q => ?_
     refine bndE q fun b σ₂ e2 q => ?_
     refine xAA (Udc e2) fun e2' qz1 => ?_; subst qz1
     cases q
     refine Ev.of_eq (arm_eval_UnaryOp .Not x p env) (Ev.bind (ih.ev sc fr x env g σ _ s a S F R e1) fun ua s₁ g₁ t₁ R₁ hua => Ev.at_ (Ev.hold ?_))
     intro p' Q E q
     exact not_of (isT_ok R₁ hua e2' p' _ E fun c s' g' t R' hc => q _ s' g' t R' (by rw [hc]; exact VR.mkBool))
   | USub =>
     refine bndE q fun a σ₁ e1 q => ?_
     refine xAA (Udc q) fun q' qz1 => ?_; subst qz1
     exact Ev.of_eq (arm_eval_UnaryOp .USub x p env) (Ev.bind (ih.ev sc fr x env g σ _ s a S F R e1) fun ua s₁ g₁ t₁ R₁ hua => Ev.at_ (Ev.hold (Uqv R₁ hua q')))
   | _ => exact (Uaa q).elim
 | IfExp t a b p =>
   refine bndE q fun c σ₁ e1 q => ?_
   refine Ev.of_eq (arm_eval_IfExp t a b p env) (Ev.bind (ih.test sc fr t env g σ σ₁ s c S F R e1) fun u s₁ g₁ t₁ R₁ hu => ?_)
   subst hu
   cases u with
   | true => exact ih.ev sc fr a env g₁ σ₁ σ' s₁ v S (F.tr R t₁) R₁ q
   | false => exact ih.ev sc fr b env g₁ σ₁ σ' s₁ v S (F.tr R t₁) R₁ q
 | Dict ks es p =>
   rcases Ua8 q with ⟨hk,q⟩ | ⟨_,q⟩
   · refine bndE q fun l σ₁ e1 q => ?_
     exact Uqz ih S F R hk e1 q
   · exact (Uaa q).elim
 | List es p =>
   refine bndE q fun vs σ₁ e1 q => ?_
   exact Ev.of_eq (arm_eval_List es p env) (Ev.at_ (Ev.bind (ih.evs sc fr es env g σ σ₁ s vs p S F R e1) fun us s₁ g₁ t₁ R₁ hus => Umu R₁ hus q))
 | Tuple es k p =>
   refine bndE q fun vs σ₁ e1 q => ?_
   rcases Ua8 q with ⟨hl,q⟩ | ⟨_,q⟩
   · cases q
     refine Ev.of_eq (arm_eval_Tuple es k p env) (Ev.at_ (Ev.bind (ih.evs sc fr es env g σ _ s vs p S F R e1) fun us s₁ g₁ t₁ R₁ hus => ?_))
     have hlen:=hus.len
     exact Ev.up R₁ fun Q E q => wpAny_newTuple (q _ _ (fun b o e => Heap.get?_push_of_some _ e) rfl rfl (VR.newTup (us:=us.toArray) (k:=0) R₁ (by simpa using hus) hl)) (Uah (by omega))
   · exact (Uaa q).elim
 | ListComp elt gens scope p => exact ch sc fr elt gens scope p env g σ σ' s v S F R q
 | Compare l ops rs p =>
   refine bndE q fun z σ₀ e0 q => ?_
   refine xAA (Udc e0) fun hz qz1 => ?_; subst qz1
   rcases Unq hz with ⟨op,r,rfl,rfl,rfl⟩ | ⟨op₁,op₂,r₁,r₂,rfl,rfl,rfl⟩
   · refine bndE q fun a σ₁ e1 q => ?_
     refine bndE q fun c σ₂ e2 q => ?_
     refine bndE q fun t σ₃ e3 q => ?_
     refine xAA (Uap e3) fun e3' qz1 => ?_; subst qz1
     cases q
     exact Ev.unbool (cmp1 Fa Ro ih S F R e1 e2 e3').1
   · refine bndE q fun a σ₁ e1 q => ?_
     refine bndE q fun c σ₂ e2 q => ?_
     refine bndE q fun t σ₃ e3 q => ?_
     refine xAA (Uap e3) fun e3' qz1 => ?_; subst qz1
     rcases Ua8 q with ⟨ht,q⟩ | ⟨ht,q⟩
     · rcases Ua8 q with ⟨hn,q⟩ | ⟨_,q⟩
       · refine bndE q fun w σ₄ e4 q => ?_
         refine bndE q fun b σ₅ e5 q => ?_
         refine xAA (Uap e5) fun e5' qz1 => ?_; subst qz1
         cases q
         exact Ev.unbool (cmp2 Fa Ro ih S F R hn e1 e2 e3' (by rw [if_pos ht]; exact ⟨w,e4,e5'⟩)).1
       · exact (Uaa q).elim
     · rcases Ua8 q with ⟨hn,q⟩ | ⟨_,q⟩
       · cases q
         exact Ev.unbool (cmp2 Fa Ro ih S F R hn e1 e2 e3' (by rw [if_neg ht]; exact ⟨rfl,rfl⟩)).1
       · exact (Uaa q).elim
 | Call f args kws p =>
   rcases Unm f kws with ⟨o,x,ap,rfl,rfl⟩ | ⟨h,q',rfl,rfl⟩ | hb
   · exact Ury Fa cf Ro co ih S F R q
   · exact Urq Fa cf Ro co ih S F R q
   · exact (Ure hb q).elim
 | Attribute o x p =>
   rcases Ua8 q with ⟨hb,q⟩ | ⟨_,q⟩
   · refine bndE q fun ov σ₁ e1 q => ?_
     have eq:eval (.Attribute o x p) env = (eval o env >>= fun o' => standAt p.atName >>= fun w0 => holding [o'] (getAttr o' x true) >>= fun r => letTemporaryGo o o' r >>= fun w0 => pure r):=by
       rw [arm_eval_Attribute,Udi hb]
     refine Ev.of_eq eq (Ev.bind (ih.ev sc fr o env g σ σ₁ s ov S F R e1) fun uo s₁ g₁ t₁ R₁ huo => ?_)
     exact Ev.at_ (Ev.bind (Ev.hold (Ukk Fa cf R₁ huo q)) fun u s₂ g₂ t₂ R₂ hu => Ev.letGo (Ev.ret R₂ hu))
   · exact (Uaa q).elim
 | Subscript o i p =>
   rcases Um7 i with ⟨lo,hi,st,p',rfl⟩ | hs
   · refine bndE q fun ov σ₁ e1 q => ?_
     refine bndE q fun a σ₂ e2 q => ?_
     refine bndE q fun b σ₃ e3 q => ?_
     cases st with
     | none =>
       refine xAA (Uap q) fun q' qz1 => ?_; subst qz1
       refine Uk2 (o:=none) ih (c:=none) S F R e1 e2 e3 (fun g₁ s₁ t₁ R₁ => Ev.of_eq (evalPart_none env) (Ev.ret R₁ rfl)) ?_
       intro uo ul uh us ad g₁ s₁ sl R₁ h1 h2 h3 h4 ha
       have h4':us = .none:=h4
       subst h4'
       exact Umk R₁ h1 h2 h3 ha q'
     | some st =>
       refine bndE q fun w σ₄ e4 q => ?_
       refine xAA (Uap q) fun q' qz1 => ?_; subst qz1
       refine Uk2 (o:=none) ih (c:=some w) S F R e1 e2 e3 (fun g₁ s₁ t₁ R₁ => Ev.of_eq (evalPart_some st env) (ih.ev sc fr st env g₁ σ₃ _ s₁ w S (F.tr R t₁) R₁ e4)) ?_
       intro uo ul uh us ad g₁ s₁ sl R₁ h1 h2 h3 h4 ha
       exact Upv R₁ h1 h2 h3 h4 ha q'
   · have q:=Usd hs q
     refine bndE q fun ov σ₁ e1 q => ?_
     refine bndE q fun iv σ₂ e2 q => ?_
     refine xAA (Uap q) fun q' qz1 => ?_; subst qz1
     have eq:eval (.Subscript o i p) env = (eval o env >>= fun o' => holding [o'] (eval i env) >>= fun i' => standAt p >>= fun w0 => subscriptTail o i o' i'):=rfl
     refine Ev.of_eq eq (Ev.bind (ih.ev sc fr o env g σ σ₁ s ov S F R e1) fun uo s₁ g₁ t₁ R₁ huo => ?_)
     refine Ev.bind (Ev.hold (ih.ev sc fr i env g₁ σ₁ σ₂ s₁ iv S (F.tr R t₁) R₁ e2)) fun ui s₂ g₂ t₂ R₂ hui => ?_
     exact Ev.at_ (Upl R₂ (huo.tr' R₁ t₂) hui q')
 | _ => exact (Uaa q).elim
theorem Urp:EvOk C A cl 0 :=
 ⟨fun sc fr e env g σ σ' s v S F R q => (Uaa q).elim,fun sc fr e env g σ σ' s v p S F R q => (Uaa q).elim,
  fun sc fr op e env g σ σ' s v p S F R q => (Uaa q).elim,fun sc fr e env g σ σ' s v S F R q => (Uaa q).elim,
  fun sc fr e env g σ σ' s v S F R q => (Uaa q).elim,fun sc fr op e env g σ σ' s v S F R q => (Uaa q).elim,
  fun sc fr ks e env g σ σ' s v p S F R q => (Uaa q).elim⟩
theorem Urz (Fa:Facts C) (cf:CF C) (Ro:Room A d) (co:CallOk C A cl) (ih:EvOk C A cl n) (ch:CompH C A cl n):EvOk C A cl (n + 1) :=
 ⟨fun w0 w0 w0 w0 w0 w0 w0 w0 w0 S F R q => Ur1 Fa cf Ro co ih ch S F R q,fun w0 w0 w0 w0 w0 w0 w0 w0 w0 w0 S F R q => Uqo ih _ _ _ S F R q,fun w0 w0 w0 w0 w0 w0 w0 w0 w0 w0 w0 S F R q => Unk ih S F R q,
  fun w0 w0 w0 w0 w0 w0 w0 w0 w0 S F R q => Uo4 ih S F R q,fun w0 w0 w0 w0 w0 w0 w0 w0 w0 S F R q => Ums Fa Ro ih S F R q,fun w0 w0 w0 w0 w0 w0 w0 w0 w0 w0 S F R q => Uld ih S F R q,
  fun w0 w0 w0 w0 w0 w0 w0 w0 w0 w0 w0 S F R q => Ulq ih _ _ _ _ S F R q⟩
end
end Mine
end
section
open PySem PySem.Calls PyProof.Rows PySem.W
namespace Mine
noncomputable def Ex (C:Cx) (A:Around) (W:Addr -> Prop) {α:Type} (t:Sem α) (g:Gh) (σ:Store) (s:Shared) (T:Gh -> Heap -> α -> Prop):Prop :=
 0 < s.toks -> ∀ (Q:α -> Shared -> Prop) (E:Value -> Shared -> Prop),(∀ a s' g',Tr W g s g' s' -> Rel C g' σ s'.heap -> T g' s'.heap a -> Q a s') -> wpAny (model C.prog C.w) A t Q E s
noncomputable def ItK (o:V) (uo:Value) (k:Nat) (ob:Obj):Prop:=match o with
 | .str x => ∃ t,uo = .str x t ∧ ob.cls = .type (strIterType x) ∧ ob.data = .fields #[.str x t,.int k 0]
 | .rng a b c => ob = { cls:=.type "range_iterator",dict:=none,data:=.fields #[rawInt (a + k * c),rawInt (Builtin.Range.rangeSize a b c - k),rawInt c],slots:=#[] }
 | _ => ∃ l,uo = .ref l ∧ ob.cls = .type "list_iterator" ∧ ob.data = .fields #[.ref l,.int k 0]
noncomputable def ItAt (h:Heap) (I:Addr) (o:V) (uo:Value) (k:Nat):Prop:=∃ ob,h.get? I = some ob ∧ ItK o uo k ob
theorem itL {o:V} {uo:Value} {k:Nat} {ob:Obj} (h1:strO o = none) (h2:rngO o = none):ItK o uo k ob = ∃ l,uo = .ref l ∧ ob.cls = .type "list_iterator" ∧ ob.data = .fields #[.ref l,.int k 0]:=by
 cases o <;> first | rfl | exact (Uaa h1.symm).elim | exact (Uaa h2.symm).elim
theorem Ui9 {v:V} {r:Int × Int × Int} (e:rngO v = some r):v = .rng r.1 r.2.1 r.2.2:=by cases v <;> first | exact (Uaa e).elim | exact congrArg (fun r:Int × Int × Int => V.rng r.1 r.2.1 r.2.2) (Uab e)
section
variable {C:Cx} {A:Around} {W:Addr -> Prop} {g:Gh} {σ σ₁ σ':Store} {s:Shared} {n d:Nat} {h h':Heap}
theorem Ex.of {α:Type} {t:Sem α} {T:Gh -> Heap -> α -> Prop} (h:Ev C A t g σ s T):Ex C A W t g σ s T:=fun p Q E q => h p Q E fun a s' g' t R x => q a s' g' t.none R x
theorem Ex.bind {α β:Type} {t:Sem α} {k:α -> Sem β} {T:Gh -> Heap -> α -> Prop} {T':Gh -> Heap -> β -> Prop} (h:Ex C A W t g σ₁ s T)
   (hk:∀ a s₁ g₁,Tr W g s g₁ s₁ -> Rel C g₁ σ₁ s₁.heap -> T g₁ s₁.heap a -> Ex C A W (k a) g₁ σ' s₁ T'):Ex C A W (t >>= k) g σ' s T' :=
 fun p Q E q => wpAny_bind (wpAny_mono (wpAny_toks_of p (h p (fun a s₁ => 0 < s₁.toks -> wpAny (model C.prog C.w) A (k a) Q E s₁) E fun a s₁ g₁ x R t' p' => hk a s₁ g₁ x R t' p' Q E fun b s₂ g₂ x₂ R₂ t₂ => q b s₂ g₂ (x.trans x₂) R₂ t₂))
   (fun w0 w0 x => x.2 x.1) fun w0 w0 x => x.2)
theorem Ex.bindE {α β:Type} {t:Sem α} {k:α -> Sem β} {T:Gh -> Heap -> α -> Prop} {T':Gh -> Heap -> β -> Prop} (h:Ev C A t g σ₁ s T)
   (hk:∀ a s₁ g₁,Tr (fun w0 => False) g s g₁ s₁ -> Rel C g₁ σ₁ s₁.heap -> T g₁ s₁.heap a -> Ex C A W (k a) g₁ σ' s₁ T'):Ex C A W (t >>= k) g σ' s T' :=
 fun p Q E q => wpAny_bind (wpAny_mono (wpAny_toks_of p (h p (fun a s₁ => 0 < s₁.toks -> wpAny (model C.prog C.w) A (k a) Q E s₁) E fun a s₁ g₁ x R t' p' => hk a s₁ g₁ x R t' p' Q E fun b s₂ g₂ x₂ R₂ t₂ => q b s₂ g₂ (x.none.trans x₂) R₂ t₂))
   (fun w0 w0 x => x.2 x.1) fun w0 w0 x => x.2)
theorem Ex.of_eq {α:Type} {t t':Sem α} {T:Gh -> Heap -> α -> Prop} (e:t = t') (h:Ex C A W t' g σ s T):Ex C A W t g σ s T:=e ▸ h
theorem Ex.hold {α:Type} {vs:List Value} {t:Sem α} {T:Gh -> Heap -> α -> Prop} (h:Ex C A W t g σ s T):Ex C A W (holding vs t) g σ s T:=fun p Q E q => wpAny_holding (h p Q E q)
theorem Ex.at_ {α:Type} {p:Pos} {k:Sem α} {T:Gh -> Heap -> α -> Prop} (h:Ex C A W k g σ s T):Ex C A W (standAt p >>= fun w0 => k) g σ s T:=fun p' Q E q => wpAny_bind (wpAny_standAt (h p' Q E q))
theorem Ex.rel {α:Type} {vs keep:List Value} {k:Sem α} {T:Gh -> Heap -> α -> Prop} (h:Ex C A W k g σ s T):Ex C A W (release vs keep >>= fun w0 => k) g σ s T:=fun p Q E q => wpAny_bind (wpAny_release' (h p Q E q))
theorem Ex.ret {α:Type} {a:α} {T:Gh -> Heap -> α -> Prop} (R:Rel C g σ s.heap) (h:T g s.heap a):Ex C A W (pure a) g σ s T:=Ex.of (Ev.ret R h)
theorem Ex.mono {α:Type} {t:Sem α} {T T':Gh -> Heap -> α -> Prop} (h:Ex C A W t g σ s T) (k:∀ g' h' a,T g' h' a -> T' g' h' a):Ex C A W t g σ s T':=fun p Q E q => h p Q E fun a s' g' x R t' => q a s' g' x R (k _ _ _ t')
theorem Ul0 {a b c:Int} {k:Nat} (hc:0 < c):(a + (k:Int) * c < b) ↔ 0 < Builtin.Range.rangeSize a b c - (k:Int):=by
 delta Builtin.Range.rangeSize
 rw [if_pos hc]
 have hk:0 <= (k:Int) * c:=Int.mul_nonneg (Int.natCast_nonneg _) (Int.le_of_lt hc)
 by_cases hab:a < b
 · rw [if_pos hab]
   have:=@Int.le_ediv_iff_mul_le (k:Int) (b - a - 1) c hc
   omega
 · rw [if_neg hab]
   omega
theorem fits {x:Int} (h:x.natAbs <= 4000000):Builtin.Range.rangeFitsLong x = true:=by
 delta Builtin.Range.rangeFitsLong
 simp only [Bool.and_eq_true,decide_eq_true_eq]
 omega
theorem Una {a b c:Int} (bd:a.natAbs <= lim ∧ b.natAbs <= lim ∧ 0 < c ∧ c <= lim):Builtin.Range.small a b c = true:=xAAAA bd fun h1 h2 h3 h4 => by
 have hz:0 <= Builtin.Range.rangeSize a b c ∧ Builtin.Range.rangeSize a b c <= 2000001:=by
   delta Builtin.Range.rangeSize
   rw [if_pos h3]
   by_cases hab:a < b
   · rw [if_pos hab]
     have h5:0 <= (b - a - 1) / c:=Int.ediv_nonneg (by omega) (Int.le_of_lt h3)
     have h6:(b - a - 1) / c <= b - a - 1:=Int.ediv_le_self _ (by omega)
     have hl:lim = 1000000:=rfl
     omega
   · rw [if_neg hab]; exact ⟨Int.le_refl _,by decide⟩
 have hl:lim = 1000000:=rfl
 exact Bool.and_eq_true_iff.mpr ⟨Bool.and_eq_true_iff.mpr ⟨Bool.and_eq_true_iff.mpr ⟨Bool.and_eq_true_iff.mpr ⟨fits (Nat.le_trans h1 (by decide)),fits (Nat.le_trans h2 (by decide))⟩,fits (by omega)⟩,fits (by omega)⟩,
   Bool.or_eq_true_iff.mpr (.inr ((if_pos h3).trans (fits (by omega))))⟩
theorem Uof {o:V} {uo:Value} (R:Rel C g σ s.heap) (ho:VR g s.heap o uo) (hi:(∃ k r,drawV o k σ = some r)) (Q:Value -> Shared -> Prop) (E:Value -> Shared -> Prop)
   (q:∀ ob,ItAt (s.heap.push ob) s.heap.objs.size o uo 0 -> ob.isFreed = false -> Q (.ref s.heap.objs.size) { s with heap:=s.heap.push ob }):wpAny (model C.prog C.w) A (pyIter uo) Q E s:=xEEA hi fun k r hi => obE hi
 (fun x q1 w0 => str1 (T:=fun u => (∀ ob,ItAt (s.heap.push ob) s.heap.objs.size o u 0 -> ob.isFreed = false -> Q (.ref s.heap.objs.size) { s with heap:=s.heap.push ob }) -> wpAny (model C.prog C.w) A (pyIter u) Q E s) q1 ho (fun t w0 w0 q => by
   cases Ubf q1
   exact wpAny_pyIter_strU (q _ ⟨_,Heap.get?_push_size _ rfl,t,rfl,rfl,rfl⟩ rfl)) q)
 fun h1 e => obE e (fun z q1 w0 => by
     cases Ui9 q1
     refine xEEEEAAAA ho fun r t1 t2 t3 e2 hr w0 bd => ?_
     cases e2
     refine wpAny_pyIter_range hr (Una bd) (q _ ⟨_,Heap.get?_push_size _ rfl,?_⟩ rfl)
     have e1:z.1 + ((0:Nat):Int) * z.2.2 = z.1:=by rw [Int.natCast_zero,Int.zero_mul,Int.add_zero]
     have e2:Builtin.Range.rangeSize z.1 z.2.1 z.2.2 - ((0:Nat):Int) = Builtin.Range.rangeSize z.1 z.2.1 z.2.2:=Int.sub_zero _
     show _ = _
     rw [e1,e2])
   fun h2 e => obS e fun vs hv w0 => xEEEAAAA (Ual hv R ho) fun a its m e2 hg w0 w0 => by
     cases e2
     exact wpAny_pyIter_list (VR.isList hg) (q _ ⟨_,Heap.get?_push_size _ rfl,by rw [itL h1 h2]; exact ⟨a,rfl,rfl,rfl⟩⟩ rfl)
theorem ItAt.keep {I:Addr} {o:V} {uo:Value} {k:Nat} (i:ItAt h I o uo k) (hk:∀ ob,h.get? I = some ob -> h'.get? I = some ob):ItAt h' I o uo k:=xEAA i fun ob q r => ⟨ob,hk _ q,r⟩
theorem ItAt.live {I:Addr} {o:V} {uo:Value} {k:Nat} (i:ItAt h I o uo k):h.get? I ≠ none:=xEAA i fun w0 q w0 => Uaf q
theorem Uo6 {I:Addr} {x:Str} {t:Tok} {k:Nat} {T:String} (hT:T = "str_ascii_iterator" ∨ T = "str_iterator") (hh:A.handled = none) (it:s.heap.IsStrIter I T x t k) (Q:Option Value -> Shared -> Prop) (E:Value -> Shared -> Prop)
   (q1:∀ c h',x.cps[k]? = some c -> h'.IsStrIter I T x t (k + 1) -> Heap.SameBut I s.heap h' -> Q (some (.str ⟨#[c]⟩ s.toks)) { s with heap:=h',toks:=s.toks + 1 })
   (q2:∀ h',x.cps[k]? = none -> Heap.ExtBut I s.heap h' -> Q none { s with heap:=h' }):wpAny (model C.prog C.w) A (pyNext (.ref I)) Q E s:=by
 cases hx:x.cps[k]? with
 | none => rcases hT with e | e <;> cases e
           · exact wpAny_pyNext_ascii_end hh it hx fun h' hb => q2 h' hx hb
           · exact wpAny_pyNext_wide_end hh it hx fun h' hb => q2 h' hx hb
 | some c => rcases hT with e | e <;> cases e
             · exact wpAny_pyNext_ascii_item it hx fun h' it' sb => q1 c h' hx it' sb
             · exact wpAny_pyNext_wide_item it hx fun h' it' sb => q1 c h' hx it' sb
theorem iterType (x:Str):strIterType x = "str_ascii_iterator" ∨ strIterType x = "str_iterator":=by
 delta strIterType
 by_cases h:x.cps.all (· < 128) = true
 · rw [if_pos h]; exact .inl rfl
 · rw [if_neg h]; exact .inr rfl
theorem Uot {I:Addr} {o:V} {uo:Value} {k:Nat} {r:Option V} (hh:A.handled = none) (R:Rel C g σ s.heap) (ho:VR g s.heap o uo) (i:ItAt s.heap I o uo k) (e:drawV o k σ = some r)
   (Q:Option Value -> Shared -> Prop) (E:Value -> Shared -> Prop)
   (q1:∀ v u h' tk,r = some v -> VR g s.heap v u -> ItAt h' I o uo (k + 1) -> Heap.SameBut I s.heap h' -> Q (some u) { s with heap:=h',toks:=tk })
   (q2:∀ h',r = none -> Heap.ExtBut I s.heap h' -> Q none { s with heap:=h' }):wpAny (model C.prog C.w) A (pyNext (.ref I)) Q E s:=obE e
 (fun x qx w => by
   cases Ubf qx
   refine xEAA i fun ob hob it => xEAAA it fun t e1 i1 i2 => ?_
   cases e1
   refine Uo6 (x:=x) (t:=t) (iterType x) hh ⟨ob,hob,i1,i2⟩ Q E (fun c h' hx it' sb => ?_) fun h' hx hb => ?_
   · have hk:k < x.cps.size:=(Array.getElem?_eq_some_iff.mp hx).1
     rw [if_pos hk] at w
     have hc:x.cps.getD k 0 = c:=by simp [Array.getD,hk]; exact (Array.getElem?_eq_some_iff.mp hx).2
     exact q1 _ _ h' _ ((Uab w).symm.trans (by rw [hc])) (xEAAA ho fun w0 w0 ok w0 => VR.mkStr (Uk4 ok hx) Uij) (xEAAA it' fun ob2 a b c => ⟨ob2,a,t,rfl,b,c⟩) sb
   · rw [if_neg (Nat.not_lt.mpr (Array.getElem?_eq_none_iff.mp hx))] at w
     exact q2 h' (Uab w).symm hb)
 fun h1 e => obE e (fun z qx e => iteS e fun hc w => by
     cases Ui9 qx
     refine xEEEEAAAA ho fun r' t1 t2 t3 w0 hr w0 bd => xEAA i fun ob hob it => ?_
     cases it
     have hl:=Ul0 (a:=z.1) (b:=z.2.1) (k:=k) hc
     by_cases hk:z.1 + (k:Int) * z.2.2 < z.2.1
     · rw [if_pos hk] at w
       refine wpAny_pyNext_range_item hob (hl.mp hk) fun h' it' sb => q1 _ _ h' _ (Uab w).symm VR.mkInt ⟨_,it',?_⟩ sb
       have e1:z.1 + ((k + 1:Nat):Int) * z.2.2 = z.1 + (k:Int) * z.2.2 + z.2.2:=by rw [Int.natCast_succ,Int.add_mul,Int.one_mul,Int.add_assoc]
       have e2:Builtin.Range.rangeSize z.1 z.2.1 z.2.2 - ((k + 1:Nat):Int) = Builtin.Range.rangeSize z.1 z.2.1 z.2.2 - (k:Int) - 1:=by rw [Int.natCast_succ,Int.sub_sub]
       show _ = _
       rw [e1,e2]
     · rw [if_neg hk] at w
       exact wpAny_pyNext_range_end hh hob (Int.not_lt.mp fun x => hk (hl.mpr x)) fun h' hb => q2 h' (Uab w).symm hb)
   fun h2 e => obS e fun vs hv e => xEEEAAAA (Ual hv R ho) fun a its m e2 hg hrs w0 => xEAA i fun ob hob it => by
     cases e2
     rw [itL h1 h2] at it
     refine xEAAA it fun l e3 i1 i2 => ?_
     cases e3
     have hr:=(Uab e).symm
     cases hz:vs[k]? with
     | none =>
       refine wpAny_pyNext_list_end hh ⟨ob,hob,i1,i2⟩ (VR.isList hg) ?_ fun h' hb => q2 h' (hr.trans hz) hb
       exact Array.getElem?_eq_none_iff.mpr (Nat.le_trans (Nat.le_of_eq hrs.size) (List.getElem?_eq_none_iff.mp hz))
     | some v =>
       refine xEAA (hrs.get hz) fun u hu hvu => ?_
       rw [Array.getElem?_toList] at hu
       exact wpAny_pyNext_list_item ⟨ob,hob,i1,i2⟩ (VR.isList hg) hu fun h' it' sb => q1 v u h' s.toks (hr.trans hz) hvu (xEAAA it' fun ob2 x1 x2 x3 => ⟨ob2,x1,by rw [itL h1 h2]; exact ⟨a,rfl,x2,x3⟩⟩) sb
end
end Mine
end
section
open PySem PySem.Calls PyProof.Rows PySem.W
namespace Mine
noncomputable def clOf (env:Env):List (Str × NameKind) -> List (Str × Addr) -> List (Str × Addr)
 | [],acc => acc
 | (n,k) :: r,acc => clOf env r (if k == .free then (n,(env.cells.lookup n).getD 0) :: acc else acc)
theorem Uly {env:Env} {scope:Scope} (h:∀ p ∈ scope.names,p.2 = .free -> ∃ c,env.cells.lookup p.1 = some c):closureFor scope env = pure (clOf env scope.names []):=by
 have go:∀ (l:List (Str × NameKind)) (acc:List (Str × Addr)),(∀ p ∈ l,p.2 = .free -> ∃ c,env.cells.lookup p.1 = some c) ->
     (forIn l acc fun x r => (do if (x.2 == NameKind.free) = true then do let __do_lift <- cellOf env x.1; pure (ForInStep.yield ((x.1,__do_lift) :: r)) else pure (ForInStep.yield r):Sem (ForInStep (List (Str × Addr))))) = pure (clOf env l acc):=by
   intro l
   induction l with
   | nil => intro acc _; rfl
   | cons p r ih =>
     intro acc hp
     obtain ⟨n,k⟩:=p
     rw [List.forIn_cons]
     unfold clOf
     by_cases hk:k = .free
     · subst hk
       refine xEA (hp (n,.free) List.mem_cons_self rfl) fun c hc => ?_
       have e:cellOf env n = pure c:=by unfold cellOf; rw [hc]
       simp only [beq_self_eq_true,if_true,e,pure_bind,hc,Option.getD_some]
       exact ih _ fun q hq => hp q (List.mem_cons_of_mem _ hq)
     · have:(k == NameKind.free) = false:=by simpa using hk
       simp only [this,Bool.false_eq_true,if_false,pure_bind]
       exact ih _ fun q hq => hp q (List.mem_cons_of_mem _ hq)
 delta closureFor
 have:=go scope.names [] h
 simp only [bind_pure]
 exact this
theorem Uib {α:Type} {y:Str} {v:α} {r:List (Str × α)}:((y,v) :: r).lookup y = some v:=by rw [List.lookup_cons,beq_self_eq_true]
theorem Uis {α:Type} {y n:Str} {v:α} {r:List (Str × α)} (h:y ≠ n):((n,v) :: r).lookup y = r.lookup y:=by rw [List.lookup_cons,beq_eq_false_iff_ne.mpr h]
theorem Uiv {env:Env} {y:Str}:∀ {l:List (Str × NameKind)} {acc:List (Str × Addr)} {c:Addr},(clOf env l acc).lookup y = some c -> acc.lookup y = some c ∨ ((y,NameKind.free) ∈ l ∧ (env.cells.lookup y).getD 0 = c)
 | [],_,_,h => .inl h
 | (n,k) :: r,acc,c,h => by
   rcases Uiv (l:=r) h with h | h
   · by_cases hk:(k == NameKind.free) = true
     · rw [if_pos hk] at h
       by_cases e:y = n
       · subst e
         rw [Uib] at h
         exact .inr ⟨beq_iff_eq.mp hk ▸ List.mem_cons_self,Uab h⟩
       · rw [Uis e] at h; exact .inl h
     · rw [if_neg hk] at h; exact .inl h
   · exact .inr ⟨List.mem_cons_of_mem _ h.1,h.2⟩
theorem Ulb {env:Env} {y:Str}:∀ {l:List (Str × NameKind)} {acc:List (Str × Addr)},((y,NameKind.free) ∈ l ∨ (acc.lookup y).isSome = true) -> ((clOf env l acc).lookup y).isSome = true
 | [],_,h => h.elim (fun h => nomatch h) id
 | (n,k) :: r,acc,h => by
   refine Ulb (l:=r) ?_
   rcases h with h | h
   · rcases List.mem_cons.mp h with e | h
     · cases e; right; rw [if_pos (beq_self_eq_true _),Uib]; rfl
     · exact .inl h
   · right
     by_cases hk:(k == NameKind.free) = true
     · rw [if_pos hk]
       by_cases e:y = n
       · subst e; rw [Uib]; rfl
       · rw [Uis e]; exact h
     · rw [if_neg hk]; exact h
theorem Uda {env:Env} {y:Str}:∀ {names:List (Str × NameKind)},
   (names.map fun (n,k) => if (k == NameKind.free && env.scope.kind == .function && env.kindOf n == some .cell) then (n,NameKind.cell) else (n,k)).lookup y =
     (names.lookup y).map fun k => if (k == NameKind.free && env.scope.kind == .function && env.kindOf y == some .cell) then NameKind.cell else k
 | [] => rfl
 | (n,k) :: r => by
   have ih:=@Uda env y r
   show List.lookup y ((if (k == NameKind.free && env.scope.kind == .function && env.kindOf n == some .cell) = true then (n,NameKind.cell) else (n,k)) :: _) = _
   cases hx:y == n with
   | true =>
     have:=beq_iff_eq.mp hx
     subst this
     simp only [List.lookup_cons,beq_self_eq_true,Option.map_some]
     split <;> simp
   | false =>
     simp only [List.lookup_cons,hx]
     rw [<- ih]
     split <;> simp only [List.lookup_cons,hx]
section
variable {C:Cx} {A:Around} {cl:CC} {g:Gh} {σ σ₁ σ':Store} {s:Shared} {n d:Nat} {sc:Scope} {fr:Fr} {env:Env} {h h':Heap}
theorem Um4 {I:Addr} {o:V} {uo:Value} {k:Nat} (i:ItAt s.heap I o uo k) (Q:Value -> Shared -> Prop) (E:Value -> Shared -> Prop) (q:Q (.ref I) s):wpAny (model C.prog C.w) A (pyIter (.ref I)) Q E s:=by
 refine xEAA i fun ob hob it => ?_
 cases o with
 | str x =>
   refine xEAAA it fun t w0 i1 i2 => ?_
   rcases iterType x with e | e <;> rw [e] at i1
   · exact wpAny_pyIter_striter_ascii ⟨ob,hob,i1,i2⟩ q
   · exact wpAny_pyIter_striter_wide ⟨ob,hob,i1,i2⟩ q
 | rng a b c => cases it; exact wpAny_pyIter_rangeiter hob q
 | _ => exact xEAAA it fun l w0 i1 i2 => wpAny_pyIter_listiter ⟨ob,hob,i1,i2⟩ q
structure CompS (sc scope:Scope) (x:Str):Prop where
 kind:scope.kind = .function
 dot:x ≠ ".0"
 xl:scope.names.lookup x = some .local
 dbg:∀ p ∈ scope.names,(p.1 == (Y "__debug__")) = false ∧ (p.1 == (Y "__classdict__")) = false
 loc:∀ p ∈ scope.names,p.2 = .local -> scope.names.lookup p.1 = some .local
 free:∀ p ∈ scope.names,p.2 = .free -> sc.names.lookup p.1 = some .cell ∧ p.1 ≠ x
 cell:∀ p ∈ scope.names,p.2 ≠ .cell
theorem Upg {scope:Scope} {x:Str} (e:compOk sc scope x = true):CompS sc scope x:=by
 delta compOk at e
 simp only [Bool.and_eq_true,List.all_eq_true,beq_iff_eq,bne_iff_ne,ne_eq] at e
 refine xAA e fun qz1 h4 => ?_; obtain ⟨⟨h1,h2⟩,h3⟩:=qz1
 refine ⟨h1,h2,h3,fun p hp => ?_,fun p hp hl => ?_,fun p hp hl => ?_,fun p hp hl => ?_⟩
 · exact ⟨beq_eq_false_iff_ne.mpr (h4 p hp).1.1,beq_eq_false_iff_ne.mpr (h4 p hp).1.2⟩
 · have:=(h4 p hp).2
   rw [hl] at this
   simp only [Bool.or_eq_true,beq_iff_eq,Bool.and_eq_true] at this
   rcases this with e | ⟨e,z⟩
   · rw [e]; exact h3
   · rw [e]; exact z
 · have:=(h4 p hp).2
   rw [hl] at this
   simpa using this
 · have:=(h4 p hp).2
   rw [hl] at this
   simp at this
theorem Uer {scope:Scope} {y:Str} {v:V}:∀ {fr:Fr},lk y (compFr scope fr) = some v -> lk y fr = some v ∧ scope.names.lookup y = some .free
 | [],h => (Uaa h).elim
 | (z,w) :: r,h => by
   delta compFr at h
   rw [List.filter_cons] at h
   by_cases hf:(scope.names.lookup z == some NameKind.free) = true
   · rw [if_pos hf] at h
     by_cases q:z = y
     · subst q; rw [lk_hit] at h ⊢; exact ⟨h,beq_iff_eq.mp hf⟩
     · rw [Udl q] at h ⊢; exact Uer (scope:=scope) h
   · rw [if_neg hf] at h
     have:=Uer (scope:=scope) (fr:=r) h
     by_cases q:z = y
     · subst q; exact absurd (beq_iff_eq.mpr this.2) hf
     · rw [Udl q]; exact this
theorem Ud9 {α:Type} (x y:Str) (v:α):∀ l:List (Str × α),lk y (setK x v l) = if x = y then some v else lk y l
 | [] => by
   by_cases q:x = y
   · subst q; rw [if_pos rfl]; exact lk_hit
   · rw [if_neg q]; exact Udl q
 | (z,w) :: r => by
   by_cases q:z = x
   · subst q
     rw [Ub9]
     by_cases q2:z = y
     · subst q2; rw [lk_hit,if_pos rfl]
     · rw [Udl q2,Udl q2,if_neg q2]
   · rw [Ubc q]
     by_cases q2:z = y
     · subst q2; rw [lk_hit,lk_hit,if_neg fun e => q e.symm]
     · rw [Udl q2,Udl q2,Ud9]
theorem Uch {scope:Scope} {L:Addr} (y:Str):(compEnvC scope (clOf env scope.names []) L env).kindOf y = (scope.names.lookup y).map fun k => if (k == NameKind.free && env.scope.kind == .function && env.kindOf y == some .cell) then NameKind.cell else k:=Uda
theorem Un5 {scope:Scope} {x:Str} {L:Addr} (K:CompS sc scope x):ES scope (compEnvC scope (clOf env scope.names []) L env) :=
 ⟨fun y e => by rw [Uch,e]; rfl,fun y e => by rw [Uch,e]; rfl,fun y e => absurd rfl (K.cell _ (mem_of_lookup e))⟩
theorem Umy {scope:Scope} {x:Str} (S:ES sc env) (K:CompS sc scope x) (F:FR g h env fr) {y:Str} {c:Addr} (e:(clOf env scope.names []).lookup y = some c):env.cells.lookup y = some c:=by
 rcases Uiv e with e | e
 · cases e
 · exact xEA (F.has y (S.ce y (K.free _ e.1 rfl).1)) fun c' hc' => by rw [hc',<- e.2,hc']; rfl
theorem Uq0 {scope:Scope} {x:Str} {L:Addr} {m:Str -> Option Value} {v:V} {u:Value} (S:ES sc env) (K:CompS sc scope x) (F:FR g h env fr) (hz:g.Z L) (hs:¬ g.St L) (hn:h.Ns L m) (hm:m x = some u) (hv:VR g h v u)
   (hL:L ≠ env.locals ∧ ∀ y c,env.cells.lookup y = some c -> c ≠ L) :
   FR g h (compEnvC scope (clOf env scope.names []) L env) (setK x v (compFr scope fr)):=by
 have has:∀ {y},(y,NameKind.free) ∈ scope.names -> ∃ c,(clOf env scope.names []).lookup y = some c:=fun m => Option.isSome_iff_exists.mp (Ulb (.inl m))
 have look:=fun {y c} => Umy (y:=y) (c:=c) S K F
 refine ⟨K.kind,F.glob,F.blt,fun p hp => ?_,hz,hs,⟨m,hn,fun y w hy hk => ?_⟩,fun y w hy => ?_,fun y c e => xAAAA (F.cell y c (look e)) fun a b w0 r => ⟨a,b,hL.2 y c (look e),r⟩,fun y hk => ?_,fun y z c e1 e2 => F.apart y z c (look e1) (look e2)⟩
 · have hp:p ∈ scope.names.map fun (n,k) => if (k == NameKind.free && env.scope.kind == .function && env.kindOf n == some .cell) then (n,NameKind.cell) else (n,k):=hp
   refine xEAA (List.mem_map.mp hp) fun q hq e => ?_
   have e:p.1 = q.1:=by
     rw [<- e]
     show (if _ then (q.1,NameKind.cell) else (q.1,q.2)).1 = q.1
     cases (q.2 == NameKind.free && env.scope.kind == .function && env.kindOf q.1 == some .cell) <;> rfl
   rw [e]
   exact K.dbg q hq
 · rw [Ud9] at hy
   by_cases e:x = y
   · subst e; rw [if_pos rfl] at hy; cases hy; exact ⟨u,hm,hv⟩
   · rw [if_neg e] at hy
     rw [Uch,(Uer hy).2] at hk
     have hk:(if (NameKind.free == NameKind.free && env.scope.kind == .function && env.kindOf y == some .cell) = true then NameKind.cell else .free) = .local:=Uab hk
     by_cases c:(NameKind.free == NameKind.free && env.scope.kind == .function && env.kindOf y == some .cell) = true
     · rw [if_pos c] at hk; cases hk
     · rw [if_neg c] at hk; cases hk
 · rw [Ud9] at hy
   by_cases e:x = y
   · subst e; left; rw [Uch,K.xl]; rfl
   · rw [if_neg e] at hy
     refine xAA (Uer hy) fun h1 h2 => .inr ?_
     have hc:=S.ce y (K.free _ (mem_of_lookup h2) rfl).1
     rcases F.var y w h1 with k | k
     · rw [hc] at k; cases k
     · refine xAEEAAA k fun w0 c u' a b r => xEA (has (mem_of_lookup h2)) fun c' hc' => ⟨.inl (by rw [Uch,h2,F.kind,hc]; rfl),c,u',?_,b,r⟩
       rw [Uab (a.symm.trans (look hc'))]; exact hc'
 · rw [Uch] at hk
   refine mapE hk fun k hl hk => ?_
   by_cases c:(k == NameKind.free && env.scope.kind == .function && env.kindOf y == some .cell) = true
   · have c1:=(Bool.and_eq_true_iff.mp (Bool.and_eq_true_iff.mp c).1).1
     exact has (beq_iff_eq.mp c1 ▸ mem_of_lookup hl)
   · exact absurd ((if_neg c).symm.trans hk) (K.cell _ (mem_of_lookup hl))
end
end Mine
end
section
open PySem PySem.Calls PyProof.Rows PySem.W
namespace Mine
section
variable {C:Cx} {A:Around} {cl:CC} {g:Gh} {σ σ₁ σ':Store} {s s':Shared} {n d:Nat} {sc:Scope} {fr:Fr} {env:Env} {h h':Heap}
theorem Rel.write1 {W:Addr -> Prop} (R:Rel C g σ s.heap) (hw:∀ b,W b -> g.Z b ∧ ¬ g.St b) {a:Addr} (ha:W a) (sb:Heap.SameBut a s.heap s'.heap) (live:s'.heap.get? a ≠ none) (hg:s'.gens = s.gens) (ho:s'.os = s.os) :
   Tr W g s g s' ∧ Rel C g σ s'.heap:=by
 refine xAA (R.write (W:=fun b => b = a) (s':=s') (fun b e => by subst e; exact hw _ ha) (fun b o w e => (sb.2 b w).trans e) (fun b e => by subst e; exact live) hg ho) fun t R' => ?_
 exact ⟨t.weak fun b w0 e => by subst e; exact ha,R'⟩
theorem Ev.toks {α:Type} {t:Sem α} {T:Gh -> Heap -> α -> Prop} (h:Ev C A t g σ s T) (p:0 < s.toks) {Q:α -> Shared -> Prop} {E:Value -> Shared -> Prop}
   (q:∀ a s' g',0 < s'.toks -> Tr (fun w0 => False) g s g' s' -> Rel C g' σ s'.heap -> T g' s'.heap a -> Q a s'):wpAny (model C.prog C.w) A t Q E s :=
 wpAny_mono (wpAny_toks_of p (h p (fun a s₁ => 0 < s₁.toks -> Q a s₁) E fun a s₁ g₁ x R t' p' => q a s₁ g₁ p' x R t')) (fun w0 w0 x => x.2 x.1) fun w0 w0 x => x.2
noncomputable def W3 (I D L:Addr):Addr -> Prop:=fun b => b = I ∨ b = D ∨ b = L
structure CmA (g:Gh) (h:Heap) (I D L:Addr) (o:V) (uo:Value) (k:Nat) (acc:List V) (mp:Str -> Option Value):Prop where
 own:∀ b,W3 I D L b -> g.Z b ∧ ¬ g.St b
 it:ItAt h I o uo k
 acc:∃ its cnt,h.get? D = some (lo its cnt) ∧ VRs g h acc its.toList ∧ acc.length <= lim
 ns:h.Ns L mp
structure Ap (I D L:Addr):Prop where
 id:I ≠ D
 il:I ≠ L
 dl:D ≠ L
variable {I D L:Addr} {o v:V} {uo:Value} {k:Nat} {acc:List V} {mp:Str -> Option Value}
theorem Ns.same {b:Addr} (h1:h.Ns L mp) (e:∀ ob,h.get? L = some ob -> h'.get? L = some ob):h'.Ns L mp:=xEEEAA h1 fun ol es ep q r => ⟨ol,es,ep,e _ q,r⟩
theorem CmA.tr (c:CmA g s.heap I D L o uo k acc mp) (R:Rel C g σ s.heap) {g':Gh} (t:Tr (fun w0 => False) g s g' s'):CmA g' s'.heap I D L o uo k acc mp:=by
 have nn:∀ b,W3 I D L b -> ∀ ob',s.heap.get? b = some ob' -> s'.heap.get? b = some ob':=fun b hb ob' e' => t.keep b ob' e' (c.own b hb).2 (fun f => f)
 exact ⟨fun b hb => ⟨t.zk b (c.own b hb).1,t.notSt (R.zh b (c.own b hb).1) (c.own b hb).2 (fun f => f)⟩,c.it.keep (nn I (.inl rfl)),xEEAAA c.acc fun its cnt q r l => ⟨its,cnt,nn D (.inr (.inl rfl)) _ q,VRs.tr' r R t,l⟩,Ns.same (b:=L) c.ns (nn L (.inr (.inr rfl)))⟩
theorem CmA.wr (c:CmA g s.heap I D L o uo k acc mp) (R:Rel C g σ s.heap) {a:Addr} (ha:W3 I D L a) {hn:Heap} {tk:Nat} (sb:Heap.SameBut a s.heap hn) (live:hn.get? a ≠ none) {k':Nat} {acc':List V} {mp':Str -> Option Value}
   (it:ItAt hn I o uo k') (q:(∀ {vs us},VRs g s.heap vs us -> VRs g hn vs us) -> ∃ its cnt,hn.get? D = some (lo its cnt) ∧ VRs g hn acc' its.toList ∧ acc'.length <= lim) (ns:hn.Ns L mp') :
   Tr (W3 I D L) g s g { s with heap:=hn,toks:=tk } ∧ Rel C g σ hn ∧ CmA g hn I D L o uo k' acc' mp' ∧ ∀ {w u},VR g s.heap w u -> VR g hn w u:=by
 have hz:∀ b,W3 I D L b -> g.Z b:=fun b hb => (c.own b hb).1
 exact xAA (R.write1 (s':={ s with heap:=hn,toks:=tk }) c.own ha sb live rfl rfl) fun t R' => ⟨t,R',⟨c.own,it,q fun r => VRs.tr t R.st hz _ r,ns⟩,fun r => VR.tr t R.st hz _ r⟩
theorem CmA.next (p:Ap I D L) (c:CmA g s.heap I D L o uo k acc mp) (R:Rel C g σ s.heap) {hn:Heap} {tk:Nat} (sb:Heap.SameBut I s.heap hn) (it:ItAt hn I o uo (k + 1)) :
   Tr (W3 I D L) g s g { s with heap:=hn,toks:=tk } ∧ Rel C g σ hn ∧ CmA g hn I D L o uo (k + 1) acc mp ∧ ∀ {w u},VR g s.heap w u -> VR g hn w u :=
 c.wr R (.inl rfl) sb it.live it (fun tr => xEEAAA c.acc fun its cnt q r l => ⟨its,cnt,(sb.2 D p.id.symm).trans q,tr r,l⟩) (Ns.same (b:=L) c.ns fun ob q => (sb.2 L p.il.symm).trans q)
theorem CmA.name (p:Ap I D L) (c:CmA g s.heap I D L o uo k acc mp) (R:Rel C g σ s.heap) {hn:Heap} {tk:Nat} {mp':Str -> Option Value} (sb:Heap.SameBut L s.heap hn) (ns:hn.Ns L mp') :
   Tr (W3 I D L) g s g { s with heap:=hn,toks:=tk } ∧ Rel C g σ hn ∧ CmA g hn I D L o uo k acc mp' ∧ ∀ {w u},VR g s.heap w u -> VR g hn w u :=
 c.wr R (.inr (.inr rfl)) sb (xEEEA ns fun w0 w0 w0 q => Uaf q.1) (c.it.keep fun ob q => (sb.2 I p.il).trans q) (fun tr => xEEAAA c.acc fun its cnt q r l => ⟨its,cnt,(sb.2 D p.dl).trans q,tr r,l⟩) ns
structure CmOk (C:Cx) (A:Around) (env ce:Env) (fr fr0:Fr) (x:Str) (L:Addr) (elt:Expr) (ifs:List Expr) (el:V -> M V) (ts:V -> M Bool):Prop where
 xl:ce.kindOf x = some .local
 nk:(ce.scope.kind == .class || (ce.scope.kind == .module && ce.locals != ce.globals)) = false
 loc:ce.locals = L
 fr:∀ {g h mp w u},FR g h env fr -> g.Z L -> ¬ g.St L -> h.Ns L mp -> mp x = some u -> VR g h w u -> FR g h ce (setK x w fr0)
 el:∀ {g σ σ' s w v},FR g s.heap ce (setK x w fr0) -> Rel C g σ s.heap -> el w σ = some (v,σ') -> EvV C A (eval elt ce) g σ' s v
 ts:∀ {g σ σ' s w b},FR g s.heap ce (setK x w fr0) -> Rel C g σ s.heap -> ts w σ = some (b,σ') -> Ev C A (forIn ifs true fun c r => if r = true then do let ok <- isTrue c ce (eval c ce); pure (ForInStep.yield ok) else pure (ForInStep.yield r)) g σ' s fun w0 w0 ok => ok = b
variable {ce:Env} {fr0:Fr} {x:Str} {elt iter:Expr} {ifs:List Expr} {el:V -> M V} {ts:V -> M Bool}
noncomputable def CmI (C:Cx) (I D L:Addr) (o:V) (uo:Value) (cp:Nat -> Nat -> List V -> M V) (v:V) (σ':Store) (g:Gh) (s:Shared) (m:Nat) (sk:Shared):Prop :=
 ∃ gk σk k acc mp,0 < sk.toks ∧ Tr (W3 I D L) g s gk sk ∧ Rel C gk σk sk.heap ∧ CmA gk sk.heap I D L o uo k acc mp ∧ cp m k acc σk = some (v,σ')
theorem Uro {px pos:Pos} {scope:Scope} {Rr:Result -> Shared -> Prop} (hh:A.handled = none) (p:Ap I D L) (K:CmOk C A env ce fr fr0 x L elt ifs el ts) (F:FR g s.heap env fr) (R:Rel C g σ s.heap) (ho:VR g s.heap o uo)
   (hW:∀ b,W3 I D L b -> g.Z b) (hn:∀ a,a = env.locals ∨ (∃ n,env.cells.lookup n = some a) -> ¬ W3 I D L a)
   (r:∀ gk sk k acc mp h',0 < sk.toks -> Tr (W3 I D L) g s gk sk -> Rel C gk σ' sk.heap -> CmA gk sk.heap I D L o uo k acc mp -> v = .lst acc -> Heap.ExtBut I sk.heap h' -> Rr (.ok .next) { sk with heap:=h' })
   (m:Nat) (hi:CmI C I D L o uo (compK o el ts) v σ' g s m s):codeAny (model C.prog C.w) A (.compLoop (.ListComp elt [⟨.Name x px,iter,ifs,0⟩] scope pos) 0 (.ref I) (.ref D) ce) Rr s:=by
 refine codeAny_compLoop_tests (CmI C I D L o uo (compK o el ts) v σ' g s) (fun m sk hinv => ?_) m hi
 refine xEEEEEAAAAA hinv fun gk σk k acc mp pk tk Rk ck ek => ?_
 clear hinv hi
 cases m with
 | zero => exact (Uaa ek).elim
 | succ m =>
   refine bndL ek fun r e1 ek => wpAny_mono (wpAny_toks_of pk (Uot hh Rk (VR.tr tk R.st hW o ho) ck.it e1 (fun r s₁ => 0 < s₁.toks -> _) _ (fun w u h' tk' hr hwu hit' sb p' => ?_) fun h' hr hb p' => ?_)) (fun w0 w0 x => x.2 x.1) fun w0 w0 x => x.2
   · cases hr
     refine xAAAA (ck.next p (tk:=tk') Rk sb hit') fun ta Ra ca va => bndE ek fun b σ₂ e2 ek => ?_
     dsimp only
     rw [arm_assign_Name]
     refine wpAny_bind (wpAny_standAt (wpAny_bindName (wpAny_storeName_local K.xl (K.loc.symm ▸ ca.ns) (fun h₂ ns₂ sb₂ => ?_) K.nk)))
     rw [K.loc] at ns₂ sb₂
     refine xAAAA (ca.name (s:={ sk with heap:=h',toks:=tk' }) p (tk:=tk' + 1) Ra sb₂ ns₂) fun tb Rb cb vb => ?_
     have tab:=tk.trans (ta.trans tb)
     have cL:=cb.own L (.inr (.inr rfl))
     have Fc:=K.fr (F.trW R tab hW hn) cL.1 cL.2 ns₂ (if_pos rfl) (vb (va hwu))
     have pb:0 < ({ sk with heap:=h₂,toks:=tk' + 1 }:Shared).toks:=Nat.succ_pos _
     refine Ev.toks (K.ts (s:={ sk with heap:=h₂,toks:=tk' + 1 }) Fc Rb e2) pb fun ok s₃ g₃ p₃ t₃ R₃ hok => ?_
     subst hok
     have c3:=CmA.tr (s:={ sk with heap:=h₂,toks:=tk' + 1 }) cb Rb t₃
     cases ok with
     | false => exact ⟨m,Nat.lt_succ_self _,g₃,σ₂,k + 1,acc,_,p₃,tab.trans t₃.none,R₃,c3,ek⟩
     | true =>
       refine bndE ek fun y σ₃ e3 ek => iteM ek fun hlt ek => Ev.toks (K.el (FR.tr (s:={ sk with heap:=h₂,toks:=tk' + 1 }) Fc Rb t₃) R₃ e3) p₃ fun uy s₄ g₄ p₄ t₄ R₄ huy => ?_
       have c4:=c3.tr R₃ t₄
       refine xEEAAA c4.acc fun its cnt hD ha hl => append_at hD (fun h₅ sb₅ hg₅ => ?_) (Uah (ha.size ▸ hl))
       refine xAAAA (c4.wr (tk:=s₄.toks) R₄ (.inr (.inl rfl)) sb₅ (Uaf hg₅) (acc':=acc ++ [y]) (c4.it.keep fun ob q => (sb₅.2 I p.id).trans q)
         (fun tr => ⟨_,_,hg₅,by rw [Array.toList_push]; exact VRs.app (tr ha) (tr (VRs.one huy)),by rw [List.length_append]; exact hlt⟩) (Ns.same (b:=L) c4.ns fun ob q => (sb₅.2 L p.dl.symm).trans q)) fun t₅ R₅ c5 w0 => ?_
       exact ⟨m,Nat.lt_succ_self _,g₄,σ₃,k + 1,acc ++ [y],_,p₄,tab.trans ((t₃.trans t₄).none.trans t₅),R₅,c5,ek⟩
   · cases hr
     cases ek
     exact r gk sk k acc mp h' pk tk Rk ck rfl hb
theorem Uqf {ob X:Obj} {h₁:Heap} {tk:Nat} (R:Rel C g σ s.heap) (hI:s.heap.objs.size = I) (hD:(s.heap.push ob).objs.size = D) (hL:((s.heap.push ob).push (lo #[] 0)).objs.size = L)
   (hit:ItAt (s.heap.push ob) I o uo 0) (hns:h₁.Ns L mp) (sb:Heap.SameBut L (((s.heap.push ob).push (lo #[] 0)).push X) h₁) :
   ∃ g₁ s₁,{ s with heap:=h₁,toks:=tk } = s₁ ∧ Ap I D L ∧ (∀ b,W3 I D L b -> s.heap.get? b = none) ∧ Tr (fun w0 => False) g s g₁ s₁ ∧ Rel C g₁ σ s₁.heap ∧ CmA g₁ s₁.heap I D L o uo 0 [] mp:=by
 have d1:D = I + 1:=by rw [<- hD,Heap.size_push,hI]
 have d2:L = I + 2:=by rw [<- hL,Heap.size_push,hD,d1]
 have ge:∀ b,W3 I D L b -> I <= b:=fun b w => by
   rcases w with e | e | e
   · exact e ▸ Nat.le_refl _
   · exact e ▸ d1 ▸ Nat.le_succ _
   · exact e ▸ d2 ▸ Nat.le_add_right _ _
 have lt:∀ {b ob'},s.heap.get? b = some ob' -> b < I:=fun e => hI ▸ Heap.lt_size e
 have p:Ap I D L:=⟨d1 ▸ Nat.ne_of_lt (Nat.lt_succ_self _),d2 ▸ Nat.ne_of_lt (Nat.lt_add_of_pos_right (by decide)),by rw [d1,d2]; exact Nat.ne_of_lt (Nat.lt_succ_self _)⟩
 have dead:∀ b,W3 I D L b -> s.heap.get? b = none:=fun b hb => by
   cases e':s.heap.get? b with
   | none => rfl
   | some ob' => exact absurd (ge b hb) (Nat.not_le.mpr (lt e'))
 have up:∀ b ob',b ≠ L -> (s.heap.push ob).get? b = some ob' -> h₁.get? b = some ob':=fun b ob' n e => sb.extBut b ob' n (Heap.get?_push_of_some _ (Heap.get?_push_of_some _ e))
 have it:ItAt h₁ I o uo 0:=hit.keep fun ob' e => up I ob' p.il e
 have ac:h₁.get? D = some (lo #[] 0):=sb.extBut _ _ p.dl (Heap.get?_push_of_some _ (by rw [<- hD]; exact Heap.get?_push_size _ rfl))
 refine xAA (R.zadd (s':={ s with heap:=h₁,toks:=tk }) (W3 I D L) (fun b o e => up b o (Nat.ne_of_lt (Nat.lt_of_lt_of_le (lt e) (ge L (.inr (.inr rfl))))) (Heap.get?_push_of_some _ e)) (fun b hb => ⟨dead b hb,?_,Nat.lt_of_lt_of_le (hI ▸ R.low) (ge b hb)⟩) rfl rfl) fun t R' => ?_
 · rcases hb with e | e | e
   · exact e ▸ it.live
   · exact e ▸ Uaf ac
   · exact e ▸ xEEEA hns fun w0 w0 w0 q => Uaf q.1
 · exact ⟨_,_,rfl,p,dead,t,R',fun b hb => ⟨.inr hb,fun q => R.zh b (R.st b q) (dead b hb)⟩,it,⟨#[],0,ac,rfl,Nat.zero_le _⟩,hns⟩
theorem Um2 (hh:A.handled = none) {scope:Scope} {px pos:Pos} (S:ES sc env) (K:CompS sc scope x) (F:FR g s.heap env fr) (R:Rel C g σ s.heap) (ho:VR g s.heap o uo) (pt:0 < s.toks)
   (hK:∀ L,(∀ y c,env.cells.lookup y = some c -> c ≠ L) -> L ≠ env.locals -> CmOk C A env (compEnvC scope (clOf env scope.names []) L env) fr (compFr scope fr) x L elt ifs el ts)
   (e:compK o el ts 200 0 [] σ = some (v,σ')) {RR:Value -> Addr -> Result -> Shared -> Prop} {E:Value -> Shared -> Prop}
   (fin:∀ D L s' g',Tr (fun w0 => False) g s g' s' -> Rel C g' σ' s'.heap -> g'.Z L -> ¬ g'.St L -> s.heap.get? L = none -> VR g' s'.heap v (.ref D) -> (∃ m,s'.heap.Ns L m) -> D ≠ L -> 0 < s'.toks -> RR (.ref D) L (.ok .next) s') :
   wpAny (model C.prog C.w) A (pyIter uo) (fun it s₂ => wpAny (model C.prog C.w) A (newList []) (fun acc s₃ => wpAny (model C.prog C.w) A (newFunctionEnv scope env.globals (clOf env scope.names []) [] env.qual none .none (some env)) (fun cenv s₄ =>
     codeAny (model C.prog C.w) A (.compStart (.ListComp elt [⟨.Name x px,iter,ifs,0⟩] scope pos) 0 it acc { cenv with scope:=relabel scope env }) (RR acc cenv.locals) s₄) E s₃) E s₂) E s:=by
 have hdraw:∃ k r,drawV o k σ = some r:=bndL e fun r e1 w0 => ⟨0,r,e1⟩
 refine Uof R ho hdraw _ _ fun ob hit w0 => wpAny_newObj_type (wpAny_newFunctionEnv K.cell (fun w0 h => nomatch h) (fun h₁ hns sb => ?_) K.kind)
 refine xEEAAAAAA (Uqf (tk:=s.toks + ([]:List (Str × Value)).length) R rfl rfl rfl hit hns sb) fun g₁ s₁ e1 p dead t R₁ c => ?_
 dsimp only
 rw [e1]
 generalize s.heap.objs.size = I at *
 generalize (s.heap.push ob).objs.size = D at *
 generalize ((s.heap.push ob).push _).objs.size = L at *
 have hn:∀ a,a = env.locals ∨ (∃ n,env.cells.lookup n = some a) -> ¬ W3 I D L a:=fun a q w => R.zh a (q.elim (fun e => e ▸ F.zl) fun q => xEA q fun n q => (F.cell n a q).1) (dead a w)
 have loop:codeAny (model C.prog C.w) A (.compLoop (.ListComp elt [⟨.Name x px,iter,ifs,0⟩] scope pos) 0 (.ref I) (.ref D) (compEnvC scope (clOf env scope.names []) L env)) (RR (.ref D) L) s₁ :=
   Uro hh p (hK L (fun y c q e => hn c (.inr ⟨y,q⟩) (.inr (.inr e))) fun e => hn L (.inl e) (.inr (.inr rfl))) (F.tr R t) R₁ (VR.tr' ho R t) (fun b w => (c.own b w).1) hn (fun gk sk k acc mp h' pk tk Rk ck ev hb => by
     have kk:∀ b ob',¬ (b = I ∨ b = D) -> sk.heap.get? b = some ob' -> h'.get? b = some ob':=fun b ob' nb e' => hb b ob' (fun q => nb (.inl q)) e'
     refine xAA (Rk.giveUp (W:=fun b => b = I ∨ b = D) (h':=h') (fun b w => ck.own b (w.elim .inl fun q => .inr (.inl q))) kk) fun kp Rf => ?_
     have tf:Tr (fun w0 => False) g s (gk.zdel fun b => b = I ∨ b = D) { sk with heap:=h' }:=Tr.giveUp (t.none.trans tk) R dead (fun b w => dead b (w.elim .inl fun q => .inr (.inl q))) kk rfl rfl
     have cL:=ck.own L (.inr (.inr rfl))
     refine xEEAAA ck.acc fun its cnt q r l => fin D L _ _ tf Rf ⟨cL.1,fun q => q.elim p.il.symm p.dl.symm⟩ cL.2 (dead L (.inr (.inr rfl))) ?_ ⟨mp,Ns.same (b:=L) ck.ns fun ob q => hb L _ p.il.symm q⟩ p.dl pk
     exact ev ▸ ⟨D,its,cnt,rfl,hb D _ p.id.symm q,fun z => z.2 (.inr rfl),VRs.kp kp acc r,l⟩)
     200 ⟨g₁,σ,0,[],_,e1 ▸ pt,Tr.refl _ _ _,R₁,c,e⟩
 exact codeAny_compStart_list loop (Um4 c.it _ _ loop)
end
end Mine
end
section
open PySem PySem.Calls PyProof.Rows PySem.W
namespace Mine
section
variable {C:Cx} {A:Around} {cl:CC} {g g':Gh} {σ σ₁ σ':Store} {s s':Shared} {n d:Nat} {sc:Scope} {fr:Fr} {env:Env} {h h':Heap}
theorem Tr.dead {W:Addr -> Prop} (x:Tr W g s g' s') {b:Addr} (w:¬ W b) (e:s'.heap.get? b = Option.none):s.heap.get? b = Option.none:=by
 cases q:s.heap.get? b with
 | none => rfl
 | some o => exact absurd e (x.live b (by rw [q]; exact Option.some_ne_none _) w)
theorem cmOk (ih:EvOk C A cl n) {elt:Expr} {x:Str} {ifs:List Expr} {scope:Scope} (S:ES sc env) (K:CompS sc scope x) (L:Addr) (h1:∀ y c,env.cells.lookup y = some c -> c ≠ L) (h2:L ≠ env.locals) :
   CmOk C A env (compEnvC scope (clOf env scope.names []) L env) fr (compFr scope fr) x L elt ifs (fun v => evalE C.P cl n scope (setK x v (compFr scope fr)) elt) (fun v => ifsE (fun fr' c => testE C.P cl n scope fr' c) ifs (setK x v (compFr scope fr))) where
 xl:=lookup_relabel_local K.xl
 nk:=by show (scope.kind == _ || (scope.kind == _ && _)) = false; rw [K.kind]; rfl
 loc:=rfl
 fr:=fun F z s ns e hv => Uq0 S K F z s ns e hv ⟨h2,h1⟩
 el:=fun {g σ σ' s w v} F R q => ih.ev scope _ elt _ g σ σ' s v (Un5 K) F R q
 ts:=fun {g σ σ' s w b} F R q => by
   rcases ifs with _ | ⟨c,_ | _⟩
   · cases q; exact Ev.same R fun Q E q => wpAny_tests_nil (q _ _ rfl)
   · exact fun p Q E qq => wpAny_tests_one (ih.test scope _ c _ g σ σ' s b (Un5 K) F R q p Q E qq)
   · exact (Uaa q).elim
theorem Uha (hh:A.handled = none) (ih:EvOk C A cl n) {elt iter:Expr} {x:Str} {px:Pos} {ifs:List Expr} {scope:Scope} {pos p:Pos} {o v:V} (S:ES sc env) (F:FR g s.heap env fr) (R:Rel C g σ s.heap)
   (ns:notSet iter = true) (K:CompS sc scope x) (e1:evalE C.P cl n sc fr iter σ = some (o,σ₁))
   (e2:compK o (fun v => evalE C.P cl n scope (setK x v (compFr scope fr)) elt) (fun v => ifsE (fun fr' c => testE C.P cl n scope fr' c) ifs (setK x v (compFr scope fr))) 200 0 [] σ₁ = some (v,σ'))
   (use:Option (Value -> Sem Unit)) (pt:0 < s.toks) {Q E:Value -> Shared -> Prop}
   (fin:∀ D L s' g',Tr (fun w0 => False) g s g' s' -> Rel C g' σ' s'.heap -> g'.Z L -> ¬ g'.St L -> s.heap.get? L = none -> VR g' s'.heap v (.ref D) -> (∃ m,s'.heap.Ns L m) -> D ≠ L -> 0 < s'.toks ->
     compPost (model C.prog C.w) A E use Q (.ref D) L (.ok .next) s') :
   wpAny (model C.prog C.w) A (comprehension (.ListComp elt [⟨.Name x px,iter,ifs,0⟩] scope pos) scope env p (newList []) false (eval iter env) use) Q E s:=by
 have hs:∀ y,foldedSetIterable iter env y = pure y:=fun y => by cases iter <;> first | rfl | cases ns
 refine wpAny_comprehension_free rfl hs (Uly fun q hq hf => F.has _ (S.ce _ (K.free q hq hf).1)) K.kind (fun y hy hl => K.loc y hy hl) ?_
 refine Ev.toks (ih.ev sc fr iter env g σ σ₁ s o S F R e1) pt fun u s₁ g₁ p₁ t₁ R₁ hu => ?_
 exact Um2 (RR:=fun acc L => compPost (model C.prog C.w) A E use Q acc L) hh S K (F.tr R t₁) R₁ hu p₁ (cmOk ih S K) e2 fun D L s' g' t' R' zL sL dL hv hn hne p' =>
   fin D L s' g' (t₁.trans t') R' zL sL (t₁.dead (fun f => f) dL) hv hn hne p'
theorem Uh6 {W:Addr -> Prop} {L:Addr} {hh:Heap} {k:Nat} (x:Tr W g s g' s') (R₀:Rel C g σ s.heap) (R:Rel C g' σ' s'.heap) (zL:g'.Z L) (sL:¬ g'.St L) (dL:s.heap.get? L = none) (wL:¬ W L)
   (sb:∀ b o,b ≠ L -> s'.heap.get? b = some o -> hh.get? b = some o) :
   Tr W g s (g'.zdel (· = L)) { s' with heap:=hh,toks:=k } ∧ Rel C (g'.zdel (· = L)) σ' hh ∧ Kp g' s'.heap (g'.zdel (· = L)) hh:=by
 have kk:∀ b o,¬ (b = L) -> s'.heap.get? b = some o -> hh.get? b = some o:=fun b o n e => sb b o n e
 refine xAA (R.giveUp (W:=(· = L)) (h':=hh) (fun b e => by subst e; exact ⟨zL,sL⟩) kk) fun kp R' => ?_
 refine ⟨?_,R',kp⟩
 have np:∀ b,s.heap.get? b ≠ none -> ¬ b = L:=fun b l e => by subst e; exact l dL
 refine ⟨fun r i p e => x.grow r i p e,fun b o e n w => kk b o (np b (Uaf e)) (x.keep b o e n w),fun a l w z => x.zz a l w z.1,fun a z => ⟨x.zk a z,np a (R₀.zh a z)⟩,fun a l w => ?_,fun b p q => ?_,x.gens,x.os⟩
 · have l2:=x.live a l w
   cases e:s'.heap.get? a with
   | none => exact absurd e l2
   | some o =>
     have:hh.get? a = some o:=kk a o (np a l) e
     show hh.get? a ≠ none
     rw [this]; exact Option.some_ne_none _
 · exact x.fresh b p q
theorem Ugz {elt:Expr} {gens:List Comprehension} {scope:Scope} {pos:Pos} {v:V} {P:Prop} (q:evalE C.P cl (n + 1) sc fr (.ListComp elt gens scope pos) σ = some (v,σ'))
   (k:∀ x px iter ifs o σ₁,gens = [⟨.Name x px,iter,ifs,0⟩] -> notSet iter = true -> CompS sc scope x -> evalE C.P cl n sc fr iter σ = some (o,σ₁) ->
     compK o (fun v => evalE C.P cl n scope (setK x v (compFr scope fr)) elt) (fun v => ifsE (fun fr' c => testE C.P cl n scope fr' c) ifs (setK x v (compFr scope fr))) 200 0 [] σ₁ = some (v,σ') -> P):P :=
 bndO q fun d hd q => xEA (Upp hd) fun px e => iteM q fun hc q => bndE q fun o σ₁ e1 q => k d.1 px d.2.1 d.2.2 o σ₁ e (Bool.and_eq_true_iff.mp hc).1 (Upg (Bool.and_eq_true_iff.mp hc).2) e1 q
theorem Urh (hh:A.handled = none) (ih:EvOk C A cl n):CompH C A cl n:=by
 intro sc fr elt gens scope pos env g σ σ' s v S F R q
 refine Ugz q fun x px iter ifs o σ₁ qz1 ns K e1 e2 => ?_; subst qz1
 intro pt Q E qq
 rw [eval_ListComp]
 refine Uha hh ih S F R ns K e1 e2 none pt fun D L s' g' t' R' zL sL dL hv hn hne p' => ?_
 refine xEA hn fun m hm => ?_
 refine ⟨m,hm,fun h'' sb => ?_⟩
 refine xAAA (Uh6 (k:=s'.toks) t' R R' zL sL dL (fun f => f) sb.extBut) fun t R'' kp => ?_
 exact qq _ _ _ t R'' (VR.kp kp v hv)
end
end Mine
end
section
open PySem PySem.Calls PyProof.Rows PySem.W
namespace Mine
noncomputable def Wf (env:Env):Addr -> Prop:=fun b => b = env.locals ∨ ∃ n,env.cells.lookup n = some b
section
variable {C:Cx} {A:Around} {cl:CC} {g g':Gh} {σ σ₁ σ':Store} {s s':Shared} {n d:Nat} {sc:Scope} {fr:Fr} {env:Env} {h h':Heap} {W:Addr -> Prop}
theorem FR.own (F:FR g h env fr):∀ b,Wf env b -> g.Z b ∧ ¬ g.St b:=fun b w => by
 rcases w with rfl | ⟨n,w⟩
 · exact ⟨F.zl,F.sl⟩
 · exact ⟨(F.cell n b w).1,(F.cell n b w).2.1⟩
theorem Ex.frame {α:Type} {t:Sem α} {T T':Gh -> Heap -> α -> Prop} (h:Ex C A W t g σ s T) (k:∀ g' s' a,Tr W g s g' s' -> T g' s'.heap a -> T' g' s'.heap a):Ex C A W t g σ s T' :=
 fun p Q E q => h p Q E fun a s' g' x R t' => q a s' g' x R (k _ _ _ x t')
theorem Ex.oper {vs:List Value} {t:Sem Value} {T:Gh -> Heap -> Value -> Prop} (h:Ex C A W t g σ s T):Ex C A W (operate vs t) g σ s T:=fun p Q E q => wpAny_operate' (h p Q E q)
theorem VR.trW {v:V} {u:Value} (hv:VR g s.heap v u) (R:Rel C g σ s.heap) (F:FR g s.heap env fr) (x:Tr (Wf env) g s g' s'):VR g' s'.heap v u:=VR.tr x R.st (fun b w => (F.own b w).1) v hv
theorem VRs.trW {v:List V} {u:List Value} (hv:VRs g s.heap v u) (R:Rel C g σ s.heap) (F:FR g s.heap env fr) (x:Tr (Wf env) g s g' s'):VRs g' s'.heap v u:=VRs.tr x R.st (fun b w => (F.own b w).1) v hv
theorem Uf8 {x:Str} {v:V} {u:Value} {fr':Fr} (S:ES sc env) (F:FR g s.heap env fr) (R:Rel C g σ s.heap) (hv:VR g s.heap v u) (e:setVar sc x v fr σ = some (fr',σ')) :
   Ex C A (Wf env) (storeName env x u) g σ' s fun g' h' w0 => FR g' h' env fr':=by
 refine xAA (Ugn e) fun hx e => ?_
 cases e
 have nk:(env.scope.kind == .class || (env.scope.kind == .module && env.locals != env.globals)) = false:=by rw [F.kind]; rfl
 have zs:∀ b,Wf env b -> s.heap.get? b ≠ none:=fun b w => R.zh b (F.own b w).1
 rcases hx with hx | hx
 · have kx:=S.lo x hx
   refine xEAA F.ns fun m hns hm => ?_
   intro p Q E q
   refine wpAny_storeName_local kx hns (fun h' hns' sb => ?_) nk
   refine xAA (R.write1 (W:=Wf env) (s':={ s with heap:=h',toks:=s.toks + 1 }) F.own (a:=env.locals) (.inl rfl) sb (by obtain ⟨_,_,_,q,_⟩:=hns'; exact Uaf q) rfl rfl) fun t R' => ?_
   refine q _ _ g t R' ?_
   have kv:∀ {v:V} {u:Value},VR g s.heap v u -> VR g h' v u:=fun {v u} h => VR.trW (s':={ s with heap:=h',toks:=s.toks + 1 }) h R F t
   refine ⟨F.kind,F.glob,F.blt,F.dbg,F.zl,F.sl,⟨_,hns',fun y w hy hk => ?_⟩,fun y w hy => ?_,fun y c e => ?_,F.has,F.apart⟩
   · rw [Ud9] at hy
     dsimp only
     split at hy
     · rename_i z; subst z; cases hy; exact ⟨u,if_pos rfl,kv hv⟩
     · rename_i z
       refine xEAA (hm y w hy hk) fun u' a b => ?_
       exact ⟨u',by rw [if_neg (fun q => z q.symm)]; exact a,kv b⟩
   · rw [Ud9] at hy
     split at hy
     · rename_i z; subst z; exact .inl kx
     · rcases F.var y w hy with k | ⟨k,c,u',a,b,r⟩
       · exact .inl k
       · exact .inr ⟨k,c,u',a,b.sameBut sb (F.cell y c a).2.2.1,kv r⟩
   · refine xAAAEA (F.cell y c e) fun a b c' u' r => ?_
     exact ⟨a,b,c',u',r.sameBut sb c'⟩
 · have kx:=S.ce x hx
   refine xEA (F.has x kx) fun c hc => ?_
   refine xAAAEA (F.cell x c hc) fun zc sc' ncl u₀ hcell => ?_
   refine xEAA F.ns fun m hns hm => ?_
   intro p Q E q
   refine wpAny_storeName_cell F.kind kx hc hcell fun h' hc' sb => ?_
   refine xAA (R.write1 (W:=Wf env) (s':={ s with heap:=h' }) F.own (a:=c) (.inr ⟨x,hc⟩) sb (by obtain ⟨_,q,_⟩:=hc'; exact Uaf q) rfl rfl) fun t R' => ?_
   refine q _ _ g t R' ?_
   have kv:∀ {v:V} {u:Value},VR g s.heap v u -> VR g h' v u:=fun {v u} h => VR.trW (s':={ s with heap:=h' }) h R F t
   refine ⟨F.kind,F.glob,F.blt,F.dbg,F.zl,F.sl,⟨m,hns.sameBut sb (Ne.symm ncl),fun y w hy hk => ?_⟩,fun y w hy => ?_,fun y c' e => ?_,F.has,F.apart⟩
   · rw [Ud9] at hy
     split at hy
     · rename_i z; subst z; rw [kx] at hk; cases hk
     · refine xEAA (hm y w hy hk) fun u' a b => ?_
       exact ⟨u',a,kv b⟩
   · rw [Ud9] at hy
     split at hy
     · rename_i z; subst z; cases hy; exact .inr ⟨.inl kx,c,u,hc,hc',kv hv⟩
     · rename_i z
       rcases F.var y w hy with k | ⟨k,c',u',a,b,r⟩
       · exact .inl k
       · exact .inr ⟨k,c',u',a,b.sameBut sb (fun q => z (F.apart x y c hc (q ▸ a))),kv r⟩
   · refine xAAAEA (F.cell y c' e) fun a b c'' u' r => ?_
     by_cases z:c' = c
     · subst z; exact ⟨a,b,c'',some u,hc'⟩
     · exact ⟨a,b,c'',u',r.sameBut sb z⟩
theorem Uiu (Fa:Facts C) (cf:CF C) (ih:EvOk C A cl n) {t:Expr} {v:V} {u:Value} {fr':Fr} (S:ES sc env) (F:FR g s.heap env fr) (R:Rel C g σ s.heap) (hv:VR g s.heap v u)
   (e:assignE C.P cl sc n fr v t σ = some (fr',σ')):Ex C A (Wf env) (assign t env u) g σ' s fun g' h' w0 => FR g' h' env fr':=by
 delta assignE at e
 split at e
 · rename_i x p
   rw [arm_assign_Name]
   refine Ex.at_ ?_
   intro p' Q E q
   exact wpAny_bindName (Uf8 S F R hv e p' Q E q)
 · rename_i o x p
   refine bndE e fun ov σ₁ e1 e => ?_
   refine bndE e fun w0 σ₂ e2 e => ?_
   cases e
   rw [arm_assign_Attribute]
   refine Ex.of (Ev.bind (Ev.hold (ih.ev sc fr o env g σ σ₁ s ov S F R e1)) fun uo s₁ g₁ t₁ R₁ huo => Ev.at_ ?_)
   refine Ev.bind (Ev.hold (Ufl Fa cf R₁ huo (hv.tr' R t₁) e2)) fun w0 s₂ g₂ t₂ R₂ w0 => ?_
   intro p' Q E q
   exact wpAny_release' (q () s₂ g₂ (Tr.refl _ _ _) R₂ ((F.tr R t₁).tr R₁ t₂))
 · rename_i o i p
   refine bndE e fun ov σ₁ e1 e => ?_
   refine bndE e fun iv σ₂ e2 e => ?_
   refine bndE e fun w0 σ₃ e3 e => ?_
   cases e
   rw [arm_assign_Subscript]
   refine Ex.of (Ev.bind (Ev.hold (ih.ev sc fr o env g σ σ₁ s ov S F R e1)) fun uo s₁ g₁ t₁ R₁ huo => ?_)
   refine Ev.bind (Ev.hold (ih.ev sc fr i env g₁ σ₁ σ₂ s₁ iv S (F.tr R t₁) R₁ e2)) fun ui s₂ g₂ t₂ R₂ hui => Ev.at_ ?_
   refine Ev.bind (Ev.hold (Ujo R₂ (huo.tr' R₁ t₂) hui ((hv.tr' R t₁).tr' R₁ t₂) e3)) fun w0 s₃ g₃ t₃ R₃ w0 => ?_
   intro p' Q E q
   exact wpAny_release' (q () s₃ g₃ (Tr.refl _ _ _) R₃ (((F.tr R t₁).tr R₁ t₂).tr R₂ t₃))
 · exact (Uaa e).elim
end
end Mine
end
section
open PySem PySem.Calls PyProof.Rows PySem.W
namespace Mine
noncomputable def FlR (g:Gh) (h:Heap) (env:Env):Fl -> Flow -> Prop
 | .next fr',f => f = .next ∧ FR g h env fr'
 | .ret v,f => ∃ u,f = .ret u ∧ VR g h v u
section
variable {C:Cx} {A:Around} {cl:CC} {g g':Gh} {σ σ₁ σ':Store} {s s':Shared} {n d:Nat} {sc:Scope} {fr:Fr} {env:Env} {h h':Heap} {W:Addr -> Prop}
theorem FR.lk {fr':Fr} (F:FR g h env fr) (e:∀ x v,lk x fr' = some v -> lk x fr = some v):FR g h env fr':=by
 refine xEAA F.ns fun m hns hm => ?_
 exact ⟨F.kind,F.glob,F.blt,F.dbg,F.zl,F.sl,⟨m,hns,fun x v hx hk => hm x v (e x v hx) hk⟩,fun x v hx => F.var x v (e x v hx),F.cell,F.has,F.apart⟩
noncomputable def putAll (ps:List (Str × V)) (fr:Fr):Fr:=ps.foldl (fun fr p => setK p.1 p.2 fr) fr
theorem Ugl:∀ (ps:List (Str × V)) (fr:Fr) (x:Str),(ps.map (·.1)).Nodup -> lk x (putAll ps fr) = match lk x ps with | some v => some v | none => lk x fr
 | [],fr,x,_ => rfl
 | (y,v) :: ps,fr,x,hn => by
   rw [List.map_cons,List.nodup_cons] at hn
   have ih:=Ugl ps (setK y v fr) x hn.2
   show lk x (putAll ps (setK y v fr)) = _
   rw [ih,Ud9]
   by_cases q:y = x
   · subst q
     have:lk y ps = none:=by
       cases e:lk y ps with
       | none => rfl
       | some w => exact absurd (List.mem_map.mpr ⟨_,lk_mem e,rfl⟩) hn.1
     simp only [this,lk,beq_self_eq_true,if_true]
   · have e:(y == x) = false:=beq_eq_false_iff_ne.mpr q
     simp only [lk,e,Bool.false_eq_true,if_false,q]
theorem lk_iff:∀ {ps:List (Str × V)},(ps.map (·.1)).Nodup -> ∀ (x:Str) (v:V),lk x ps = some v ↔ (x,v) ∈ ps
 | [],_,x,v => by simp [lk]
 | (y,w) :: ps,hn,x,v => by
   rw [List.map_cons,List.nodup_cons] at hn
   constructor
   · exact lk_mem
   · intro hm
     rcases List.mem_cons.mp hm with e | hm
     · cases e; simp [lk]
     · have:¬ y = x:=fun e => hn.1 (List.mem_map.mpr ⟨_,hm,e.symm⟩)
       have e:(y == x) = false:=beq_eq_false_iff_ne.mpr this
       simp only [lk,e,Bool.false_eq_true,if_false]
       exact (lk_iff hn.2 x v).mpr hm
theorem lk_rev {ps:List (Str × V)} (hn:(ps.map (·.1)).Nodup) (x:Str):lk x ps.reverse = lk x ps:=by
 have hr:(ps.reverse.map (·.1)).Nodup:=by rw [List.map_reverse]; exact (List.reverse_perm _).nodup_iff.mpr hn
 cases e:lk x ps with
 | some v => exact (lk_iff hr x v).mpr (List.mem_reverse.mpr ((lk_iff hn x v).mp e))
 | none =>
   cases e':lk x ps.reverse with
   | none => rfl
   | some v =>
     have:=(lk_iff hn x v).mpr (List.mem_reverse.mp ((lk_iff hr x v).mp e'))
     rw [e] at this; cases this
theorem Ui0 (S:ES sc env):∀ (ps:List (Str × V)) (us:List Value) {fr:Fr} {g:Gh} {s:Shared},FR g s.heap env fr -> Rel C g σ s.heap -> VRs g s.heap (ps.map (·.2)) us ->
   (∀ p ∈ ps,sc.names.lookup p.1 = some .local) -> Ex C A (Wf env) (assignInOrder (ps.map fun p => bindName env p.1) us) g σ s fun g' h' w0 => FR g' h' env (putAll ps fr)
 | [],us,fr,g,s,F,R,hv,hl => by
   show Ex C A (Wf env) (assignInOrder [] us) g σ s _
   have:assignInOrder [] us = pure ():=by delta assignInOrder; rfl
   rw [this]
   exact Ex.ret R F
 | (x,v) :: ps,us,fr,g,s,F,R,hv,hl => by
   simp only [List.map_cons,VRs] at hv
   refine xEEAAA hv fun u r qz1 h1 h2 => ?_; subst qz1
   have hx:=hl (x,v) List.mem_cons_self
   have:assignInOrder (((x,v) :: ps).map fun p => bindName env p.1) (u :: r) = (holding r (bindName env x u) >>= fun w0 => assignInOrder (ps.map fun p => bindName env p.1) r):=by
     rw [List.map_cons]; rfl
   rw [this]
   have st:Ex C A (Wf env) (bindName env x u) g σ s (fun g' h' w0 => FR g' h' env (setK x v fr)):=fun p Q E q =>
     wpAny_bindName (Uf8 S F R h1 (by delta setVar setOk; rw [hx]; rfl) p Q E q)
   refine Ex.bind (Ex.hold (Ex.frame st (T':=fun g' h' w0 => FR g' h' env (setK x v fr) ∧ VRs g' h' (ps.map (·.2)) r) fun g' s' w0 t f => ⟨f,VRs.trW h2 R F t⟩)) fun w0 s₁ g₁ t₁ R₁ hf => ?_
   exact Ui0 S ps r hf.1 R₁ hf.2 fun p hp => hl p (List.mem_cons_of_mem _ hp)
theorem Uiy (f:Expr -> Option Str) (hf:∀ t x,f t = some x -> nameT t = true ∧ (∀ r,names (t :: r) = x :: names r) ∧ env.kindOf x = some .local):∀ {ts:List Expr},(ts.filterMap f).length = ts.length ->
   ts.filterMap f = names ts ∧ (∀ x ∈ names ts,env.kindOf x = some .local) ∧ (ts.map nameT).all id = true
 | [],_ => ⟨rfl,by simp [names],rfl⟩
 | t :: ts,h => by
   rw [List.filterMap_cons] at h ⊢
   have hle:(ts.filterMap f).length <= ts.length:=List.length_filterMap_le ..
   split at h
   · rw [List.length_cons] at h; omega
   · rename_i x hx
     simp only [List.length_cons,Nat.add_right_cancel_iff] at h
     refine xAAA (Uiy f hf h) fun a b c => ?_
     refine xAAA (hf t x hx) fun h1 h2 h3 => ?_
     refine ⟨by rw [h2,a],fun y hy => ?_,by simp only [List.map_cons,List.all_cons,h1,id,Bool.true_and]; exact c⟩
     rw [h2] at hy
     rcases List.mem_cons.mp hy with rfl | hy
     · exact h3
     · exact b y hy
theorem Uhe {ts:List Expr} {k:Nat} {p:Pos} {e:Expr} (ok:tupOk e = true):swappedStores [.Tuple ts k p] e env = pure none ∨
   (swappedStores [.Tuple ts k p] e env = pure (some (names ts)) ∧ (∀ x ∈ names ts,env.kindOf x = some .local) ∧ (ts.map nameT).all id = true):=by
 delta swappedStores
 cases e with
 | Tuple vs k2 p2 =>
   dsimp only
   simp only [tupOk,Bool.or_eq_true,Bool.not_eq_true'] at ok
   split
   · exact .inl rfl
   split
   · exact .inl rfl
   split
   · exact .inl rfl
   · rename_i h1 h2 h3
     rw [Bool.not_eq_true,Bool.or_eq_false_iff] at h3
     have hl:=h3.1
     rw [bne_eq_false_iff_eq] at hl
     obtain ⟨a,b,c⟩:=Uiy (env:=env) _ (fun t x hx => by
       split at hx
       · split at hx
         · rename_i hk
           cases hx
           rw [Bool.and_eq_true,beq_iff_eq] at hk
           exact ⟨rfl,fun w0 => rfl,hk.1⟩
         · cases hx
       · cases hx) hl
     split
     · exact .inl rfl
     · rename_i h4
       split
       · rename_i h5
         rcases ok with ok | ok
         · rw [h5] at ok; cases ok
         · exact absurd ok h4
       · exact .inr ⟨by rw [a],b,c⟩
 | _ => exact .inl rfl
end
end Mine
end
section
open PySem PySem.Calls PyProof.Rows PySem.W
namespace Mine
section
variable {C:Cx} {A:Around} {cl:CC} {g g':Gh} {σ σ₁ σ':Store} {s s':Shared} {n d:Nat} {sc:Scope} {fr:Fr} {env:Env} {h h':Heap} {W:Addr -> Prop}
theorem FR.giveUp {L:Addr} {hh:Heap} (F:FR g h env fr) (kp:Kp g h (g.zdel (· = L)) hh) (hL:¬ Wf env L) (kk:∀ b o,b ≠ L -> h.get? b = some o -> hh.get? b = some o):FR (g.zdel (· = L)) hh env fr :=
 F.kp kp fun a q => ⟨⟨(F.own a q).1,fun e => hL (e ▸ q)⟩,(F.own a q).2,fun o e => kk a o (fun e => hL (e ▸ q)) e⟩
theorem FR.dead {b:Addr} (F:FR g s.heap env fr) (R:Rel C g σ s.heap) (d:s.heap.get? b = none):¬ Wf env b:=fun w => R.zh b (F.own b w).1 d
theorem Uj0 (hh:A.handled = none) (ih:EvOk C A cl n) {elt:Expr} {gens:List Comprehension} {scope:Scope} {cpos py pos:Pos} {y:Str} {v:V} {fr':Fr} (S:ES sc env) (F:FR g s.heap env fr) (R:Rel C g σ s.heap)
   (q:evalE C.P cl (n + 1) sc fr (.ListComp elt gens scope cpos) σ = some (v,σ₁)) (e3:setVar sc y v fr σ₁ = some (fr',σ'))
   (hs:swapsWith (.ListComp elt gens scope cpos) (some (.Name y py)) pos.line env = pure true) :
   Ex C A (Wf env) (exec (.Assign [.Name y py] (.ListComp elt gens scope cpos) pos) env) g σ' s fun g' h' f => FlR g' h' env (.next fr') f:=by
 refine Ugz q fun x px iter ifs o σ₂ qz1 ns K e1 e2 => ?_; subst qz1
 intro pt Q E qq
 rw [exec_Assign_Name_used _ _ _ _ hs]
 refine wpAny_bind (wpAny_standAt (wpAny_bind ?_))
 show wpAny _ A (do let _ <- comprehension (.ListComp elt [⟨.Name x px,iter,ifs,0⟩] scope cpos) scope env _ (newList []) false (eval iter env) (some (assign (.Name y py) env))) _ _ s
 refine wpAny_bind (wpAny_mono (Uha (Q:=fun w0 s' => Q .next s') hh ih S F R ns K e1 e2 (some (assign (.Name y py) env)) pt fun D L s' g' t' R' zL sL dL hv hn hne p' => ?_) (fun w0 s' hq => wpAny_pure (wpAny_pure hq)) fun w0 w0 e => e)
 show wpAny _ A (assign (.Name y py) env (.ref D)) _ E s'
 rw [arm_assign_Name]
 refine wpAny_bind (wpAny_standAt (wpAny_bindName (Uf8 S (F.tr R t') R' hv e3 p' _ E fun w0 s'' g'' t'' R'' F'' => ?_)))
 have wL:=F.dead R dL
 refine xEEEEAA hn fun m ol es ep ho rest => ?_
 refine ⟨m,⟨ol,es,ep,t''.keep _ _ ho sL wL,rest⟩,fun h₃ sb => ?_⟩
 refine xAAA (Uh6 (k:=s''.toks) (t'.none.trans t'') R R'' (t''.zk _ zL) (t''.notSt (Uaf ho) sL wL) dL wL sb.extBut) fun t Rf kp => ?_
 exact qq _ _ _ t Rf ⟨rfl,F''.giveUp kp wL sb.extBut⟩
theorem Uau {t:Expr} {v:V} {fr':Fr} (e:assignE C.P cl sc n fr v t σ = some (fr',σ')):(∃ x p,t = .Name x p) ∨ (∃ o x p,t = .Attribute o x p) ∨ (∃ o i p,t = .Subscript o i p):=by
 delta assignE at e
 split at e
 · exact .inl ⟨_,_,rfl⟩
 · exact .inr (.inl ⟨_,_,_,rfl⟩)
 · exact .inr (.inr ⟨_,_,_,rfl⟩)
 · exact (Uaa e).elim
theorem Ugw {P:Prog} {e:Expr} {r:V × Store} (q:evalE P cl n sc fr e σ = some r):(∃ a b c d,e = .ListComp a b c d) ∨ notComp e = true:=by
 cases e with
 | ListComp a b c d => exact .inl ⟨_,_,_,_,rfl⟩
 | SetComp a b c d => cases n <;> exact (Uaa q).elim
 | DictComp a b c d => cases n <;> exact (Uaa q).elim
 | _ => exact .inr rfl
theorem Ufs {e:Expr} {t:Option Expr} {k:Nat} (h:notComp e = true):swapsWith e t k env = pure false:=by
 cases e <;> first | rfl | cases h
theorem Uk9 (Fa:Facts C) (cf:CF C) (hh:A.handled = none) (ev:∀ m,EvOk C A cl m) {t e:Expr} {pos:Pos} {v:V} {fr':Fr} (S:ES sc env) (F:FR g s.heap env fr) (R:Rel C g σ s.heap)
   (q:evalE C.P cl n sc fr e σ = some (v,σ₁)) (e3:assignE C.P cl sc n fr v t σ₁ = some (fr',σ')) :
   Ex C A (Wf env) (exec (.Assign [t] e pos) env) g σ' s fun g' h' f => FlR g' h' env (.next fr') f:=by
 have plain:swapsWithSole [t] e pos.line env = pure false -> Ex C A (Wf env) (exec (.Assign [t] e pos) env) g σ' s fun g' h' f => FlR g' h' env (.next fr') f:=fun hs => by
   have hw:swappedStores [t] e env = pure none:=by
     rcases Uau e3 with ⟨x,p,rfl⟩ | ⟨o,x,p,rfl⟩ | ⟨o,i,p,rfl⟩ <;> rfl
   have ha:∀ u,assignAll u ((assignEach [t] env).map (·.2)) = assign t env u:=fun u => by
     rcases Uau e3 with ⟨x,p,rfl⟩ | ⟨o,x,p,rfl⟩ | ⟨o,i,p,rfl⟩ <;> rfl
   intro pt Q E qq
   refine wpAny_Assign_stores ?_ hs hw
   refine wpAny_mono (wpAny_toks_of pt ((ev n).ev sc fr e env g σ σ₁ s v S F R q pt (fun u s₁ => 0 < s₁.toks -> wpAny (model C.prog C.w) A (assignAll u ((assignEach [t] env).map (·.2))) (fun w0 => Q .next) E s₁) E fun u s₁ g₁ t₁ R₁ hu p₁ => ?_)) (fun w0 w0 x => x.2 x.1) fun w0 w0 x => x.2
   rw [ha]
   exact Uiu Fa cf (ev n) S (F.tr R t₁) R₁ hu e3 p₁ (fun w0 => Q .next) E fun w0 s₂ g₂ t₂ R₂ F₂ => qq _ _ _ (t₁.none.trans t₂) R₂ ⟨rfl,F₂⟩
 rcases Ugw q with ⟨elt,gens,scope,cpos,rfl⟩ | hn
 · rcases Uau e3 with ⟨x,p,rfl⟩ | ⟨o,x,p,rfl⟩ | ⟨o,i,p,rfl⟩
   · obtain ⟨b,hb⟩:∃ b,swapsWith (.ListComp elt gens scope cpos) (some (.Name x p)) pos.line env = pure b:=⟨_,rfl⟩
     cases b with
     | false => exact plain hb
     | true =>
       cases n with
       | zero => exact (Uaa q).elim
       | succ n => exact Uj0 hh (ev n) S F R q (by delta assignE at e3; exact e3) hb
   · exact plain rfl
   · exact plain rfl
 · exact plain (Ufs hn)
theorem Ulp:∀ {ts:List Expr} {vs:List V} {fr fr':Fr} {σ:Store},assignEs C.P cl sc n fr vs ts σ = some (fr',σ') -> (∀ x ∈ assignEach ts env,x.1 = false) ∧ (assignEach ts env).length = vs.length
 | [],[],_,_,_,_ => by simp [arm_assignEach_nil]
 | t :: ts,v :: vs,fr,fr',σ,e => by
   unfold assignEs at e
   refine bndE e fun fr₂ σ₂ e1' e => ?_
   have he:assignEach (t :: ts) env = (false,assign t env) :: assignEach ts env:=by
     rcases Uau e1' with ⟨x,p,rfl⟩ | ⟨o,x,p,rfl⟩ | ⟨o,i,p,rfl⟩ <;> rfl
   refine xAA (Ulp e) fun a b => ?_
   rw [he]
   exact ⟨fun x hx => by rcases List.mem_cons.mp hx with rfl | hx; exact rfl; exact a x hx,by simp [b]⟩
 | [],_ :: _,_,_,_,e => by unfold assignEs at e; exact (Uaa e).elim
 | _ :: _,[],_,_,_,e => by unfold assignEs at e; exact (Uaa e).elim
theorem Uma (Fa:Facts C) (cf:CF C) (ev:EvOk C A cl n) (S:ES sc env):∀ (ts:List Expr) (vs:List V) (us:List Value) {fr fr':Fr} {g:Gh} {s:Shared} {σ:Store},FR g s.heap env fr -> Rel C g σ s.heap -> VRs g s.heap vs us ->
   assignEs C.P cl sc n fr vs ts σ = some (fr',σ') -> Ex C A (Wf env) (assignInOrder ((assignEach ts env).map (·.2)) us) g σ' s (fun g' h' w0 => FR g' h' env fr') ∧ (∀ x ∈ assignEach ts env,x.1 = false) ∧ (assignEach ts env).length = vs.length
 | [],[],us,fr,fr',g,s,σ,F,R,hv,e => by
   delta assignEs at e
   cases e
   refine ⟨?_,by simp [arm_assignEach_nil],by simp [arm_assignEach_nil]⟩
   have:assignInOrder ((assignEach [] env).map (·.2)) us = pure ():=by unfold assignInOrder; rfl
   rw [this]
   exact Ex.ret R F
 | t :: ts,v :: vs,us,fr,fr',g,s,σ,F,R,hv,e => by
   unfold assignEs at e
   refine bndE e fun fr₁ σ₁ e1 e => ?_
   simp only [VRs] at hv
   refine xEEAAA hv fun u r qz1 h1 h2 => ?_; subst qz1
   have he:assignEach (t :: ts) env = (false,assign t env) :: assignEach ts env:=by
     rcases Uau e1 with ⟨x,p,rfl⟩ | ⟨o,x,p,rfl⟩ | ⟨o,i,p,rfl⟩ <;> rfl
   have st:=Ex.frame (Uiu Fa cf ev S F R h1 e1) (T':=fun g' h' w0 => FR g' h' env fr₁ ∧ VRs g' h' vs r) fun g' s' w0 t f => ⟨f,VRs.trW h2 R F t⟩
   have rest:=fun (g₁:Gh) (s₁:Shared) (F₁:FR g₁ s₁.heap env fr₁) (R₁:Rel C g₁ σ₁ s₁.heap) (h₁:VRs g₁ s₁.heap vs r) => Uma Fa cf ev S ts vs r F₁ R₁ h₁ e
   rw [he]
   have len:=Ulp (env:=env) e
   refine ⟨?_,fun x hx => by rcases List.mem_cons.mp hx with rfl | hx; exact rfl; exact len.1 x hx,by simp [len.2]⟩
   show Ex C A (Wf env) (holding r (assign t env u) >>= fun w0 => assignInOrder ((assignEach ts env).map (·.2)) r) g σ' s _
   exact Ex.bind (Ex.hold st) fun w0 s₁ g₁ t₁ R₁ hf => (rest g₁ s₁ hf.1 R₁ hf.2).1
 | [],_ :: _,us,fr,fr',g,s,σ,F,R,hv,e => by delta assignEs at e; exact (Uaa e).elim
 | _ :: _,[],us,fr,fr',g,s,σ,F,R,hv,e => by delta assignEs at e; exact (Uaa e).elim
theorem Uix (S:ES sc env):∀ {ts:List Expr} {vs:List V} {fr fr':Fr},(ts.map nameT).all id = true -> (∀ x ∈ names ts,env.kindOf x = some .local) -> assignEs C.P cl sc n fr vs ts σ = some (fr',σ') ->
   σ' = σ ∧ vs.length = (names ts).length ∧ fr' = putAll ((names ts).zip vs) fr ∧ (∀ x ∈ names ts,sc.names.lookup x = some .local) ∧ ts.length = (names ts).length
 | [],[],fr,fr',_,_,e => by delta assignEs at e; cases e; exact ⟨rfl,rfl,rfl,by simp [names],rfl⟩
 | t :: ts,v :: vs,fr,fr',ha,hk,e => by
   unfold assignEs at e
   refine bndE e fun fr₁ σ₁ e1 e => ?_
   rw [List.map_cons,List.all_cons,Bool.and_eq_true] at ha
   cases t with
   | Name x p =>
     refine xAA (Ugn e1) fun ho e1 => ?_
     have kx:=hk x (by simp [names])
     have hx:sc.names.lookup x = some .local:=ho.elim id fun ho => by rw [S.ce x ho] at kx; cases kx
     cases e1
     refine xAAAAA (Uix S ha.2 (fun y hy => hk y (by simp [names,hy])) e) fun a b c d e' => ?_
     refine ⟨a,by simp [names,b],c,fun y hy => ?_,by simp [names,e']⟩
     simp only [names,List.mem_cons] at hy
     rcases hy with rfl | hy
     · exact hx
     · exact d y hy
   | _ => exact absurd ha.1 (by simp [nameT])
 | [],_ :: _,_,_,_,_,e => by delta assignEs at e; exact (Uaa e).elim
 | _ :: _,[],_,_,_,_,e => by delta assignEs at e; exact (Uaa e).elim
theorem Uh5:∀ {l:List Str},nodupB l = true -> l.Nodup
 | [],_ => List.nodup_nil
 | x :: r,h => by
   simp only [nodupB,Bool.and_eq_true,Bool.not_eq_true',List.any_eq_false,beq_iff_eq] at h
   exact List.nodup_cons.mpr ⟨fun hm => h.1 x hm rfl,Uh5 h.2⟩
theorem Ula:∀ {l:List Str} {vs:List V},vs.length = l.length -> (l.zip vs).map (·.1) = l ∧ (l.zip vs).map (·.2) = vs
 | [],[],_ => ⟨rfl,rfl⟩
 | x :: l,v :: vs,h => by
   refine xAA (Ula (l:=l) (vs:=vs) (by simpa using h)) fun a b => ?_
   exact ⟨by simp [a],by simp [b]⟩
 | [],_ :: _,h => by simp at h
 | _ :: _,[],h => by simp at h
theorem VRs.rev:∀ {vs:List V} {us:List Value},VRs g h vs us -> VRs g h vs.reverse us.reverse
 | [],_,e => by simp only [VRs] at e; subst e; simp [VRs]
 | v :: vs,_,e => by
   simp only [VRs] at e
   refine xEEAAA e fun u r qz1 a b => ?_; subst qz1
   rw [List.reverse_cons,List.reverse_cons]
   exact VRs.app (VRs.rev b) (VRs.one a)
theorem Upx (Fa:Facts C) (cf:CF C) (hh:A.handled = none) (ev:∀ m,EvOk C A cl m) {ts:List Expr} {k:Nat} {tp pos:Pos} {e:Expr} {v:V} {vs:List V} {fr':Fr} (S:ES sc env) (F:FR g s.heap env fr) (R:Rel C g σ s.heap)
   (ok:tupOk e = true) (nd:nodupB (names ts) = true) (q:evalE C.P cl n sc fr e σ = some (v,σ₁)) (hv:tupV v = some vs) (e3:assignEs C.P cl sc n fr vs ts σ₁ = some (fr',σ')) :
   Ex C A (Wf env) (exec (.Assign [.Tuple ts k tp] e pos) env) g σ' s fun g' h' f => FlR g' h' env (.next fr') f:=by
 have hs:swapsWithSole [.Tuple ts k tp] e pos.line env = pure false:=by
   cases e <;> rfl
 have vt:v = .tup vs:=by delta tupV at hv; split at hv <;> cases hv; rfl
 subst vt
 intro pt Q E qq
 have up:∀ {s₁:Shared} {g₁:Gh} {h':Heap},Rel C g₁ σ₁ s₁.heap -> Heap.ExtBut s₁.heap.objs.size s₁.heap h' -> Tr (fun w0 => False) g₁ s₁ g₁ { s₁ with heap:=h' } ∧ Rel C g₁ σ₁ h':=fun {s₁ g₁ h'} R₁ hb => by
   have kk:∀ b o,s₁.heap.get? b = some o -> h'.get? b = some o:=fun b o e => hb b o (Nat.ne_of_lt (Heap.lt_size e)) e
   exact ⟨Tr.grown kk rfl rfl,R₁.grown (s':={ s₁ with heap:=h' }) kk rfl rfl⟩
 rcases Uhe (env:=env) (ts:=ts) (k:=k) (p:=tp) ok with hw | ⟨hw,hk,ha⟩
 · refine Assign_Tuple ?_ hs hw
   refine wpAny_mono (wpAny_toks_of pt ((ev n).ev sc fr e env g σ σ₁ s _ S F R q pt (fun u s₁ => 0 < s₁.toks -> wpAny (model C.prog C.w) A (assign (.Tuple ts k tp) env u) (fun w0 => Q .next) E s₁) E fun u s₁ g₁ t₁ R₁ hu p₁ => ?_)) (fun w0 w0 x => x.2 x.1) fun w0 w0 x => x.2
   simp only [VR] at hu
   refine xEEEAAAAA hu fun a its m qz1 hg hz hr hl => ?_; subst qz1
   have eo:=Uma Fa cf (ev n) S ts vs its.toList (F.tr R t₁) R₁ hr e3
   have hlen:=hr.len
   rw [Array.length_toList] at hlen
   rw [arm_assign_Tuple]
   refine wpAny_bind (wpAny_standAt (wpAny_unpack_tuple hh (VR.isTup hg) (by rw [eo.2.2,hlen]) (by rw [List.findIdx?_eq_none_iff]; exact eo.2.1) fun h' hb => ?_))
   refine xAA (up R₁ hb) fun t₂ R₂ => ?_
   have eo2:=Uma Fa cf (ev n) S ts vs its.toList (s:={ s₁ with heap:=h' }) ((F.tr R t₁).tr R₁ t₂) R₂ (VRs.tr' hr R₁ t₂) e3
   exact eo2.1 p₁ (fun w0 => Q .next) E fun w0 s₃ g₃ t₃ R₃ F₃ => qq _ _ _ ((t₁.trans t₂).none.trans t₃) R₃ ⟨rfl,F₃⟩
 · refine Assign_Tuple_swapped ?_ hs hw
   refine wpAny_mono (wpAny_toks_of pt ((ev n).ev sc fr e env g σ σ₁ s _ S F R q pt (fun u s₁ => 0 < s₁.toks -> wpAny (model C.prog C.w) A (unpackItems u (names ts).length none) (fun items s₂ =>
     wpAny (model C.prog C.w) A (assignInOrder ((names ts).reverse.map fun n => bindName env n) items.reverse) (fun w0 => Q .next) E s₂) E s₁) E fun u s₁ g₁ t₁ R₁ hu p₁ => ?_)) (fun w0 w0 x => x.2 x.1) fun w0 w0 x => x.2
   simp only [VR] at hu
   refine xEEEAAAAA hu fun a its m qz1 hg hz hr hl => ?_; subst qz1
   refine xAAAAA (Uix S ha hk e3) fun qz1 b qz2 hsc d => ?_; subst qz1; subst qz2
   have hlen:=hr.len
   rw [Array.length_toList] at hlen
   rw [show (names ts).length = its.size by omega]
   refine wpAny_unpackItems_tuple hh (VR.isTup hg) fun h' hb => ?_
   refine xAA (up R₁ hb) fun t₂ R₂ => ?_
   refine xAA (Ula (l:=names ts) (vs:=vs) b) fun z1 z2 => ?_
   have so:=Ui0 (C:=C) (A:=A) S ((names ts).zip vs).reverse its.toList.reverse (s:={ s₁ with heap:=h' }) ((F.tr R t₁).tr R₁ t₂) R₂
     (by rw [List.map_reverse,z2]; exact VRs.rev (VRs.tr' hr R₁ t₂)) fun p hp => hsc _ (by rw [<- z1]; exact List.mem_map.mpr ⟨p,List.mem_reverse.mp hp,rfl⟩)
   have em:(((names ts).zip vs).reverse.map fun p => bindName env p.1) = (names ts).reverse.map fun n => bindName env n:=by
     rw [List.map_reverse,List.map_reverse]
     congr 1
     conv => rhs; rw [<- z1]
     rw [List.map_map]; rfl
   rw [em] at so
   refine so p₁ (fun w0 => Q .next) E fun w0 s₃ g₃ t₃ R₃ F₃ => qq _ _ _ ((t₁.trans t₂).none.trans t₃) R₃ ⟨rfl,F₃.lk fun x v hx => ?_⟩
   have n1:(((names ts).zip vs).map (·.1)).Nodup:=by rw [z1]; exact Uh5 nd
   have n2:((((names ts).zip vs).reverse).map (·.1)).Nodup:=by rw [List.map_reverse]; exact (List.reverse_perm _).nodup_iff.mpr n1
   rw [Ugl _ _ _ n2,lk_rev n1]
   rw [Ugl _ _ _ n1] at hx
   exact hx
end
end Mine
end
section
open PySem PySem.Calls PyProof.Rows PySem.W
namespace Mine
structure StOk (C:Cx) (A:Around) (cl:CC) (sc:Scope) (n:Nat):Prop where
 st:∀ (fr:Fr) (t:Stmt) (env:Env) (g:Gh) (σ σ':Store) (s:Shared) (fl:Fl),ES sc env -> FR g s.heap env fr -> Rel C g σ s.heap -> execS C.P cl sc n fr t σ = some (fl,σ') ->
   Ex C A (Wf env) (exec t env) g σ' s fun g' h' f => FlR g' h' env fl f
 sts:∀ (fr:Fr) (ts:List Stmt) (env:Env) (g:Gh) (σ σ':Store) (s:Shared) (fl:Fl),ES sc env -> FR g s.heap env fr -> Rel C g σ s.heap -> execSs C.P cl sc n fr ts σ = some (fl,σ') ->
   Ex C A (Wf env) (execs ts env) g σ' s fun g' h' f => FlR g' h' env fl f
section
variable {C:Cx} {A:Around} {cl:CC} {g g':Gh} {σ σ₁ σ':Store} {s s':Shared} {n d:Nat} {sc:Scope} {fr:Fr} {env:Env} {h h':Heap} {W:Addr -> Prop}
theorem Ex.toks {α:Type} {t:Sem α} {T:Gh -> Heap -> α -> Prop} (h:Ex C A W t g σ s T) (p:0 < s.toks) {Q:α -> Shared -> Prop} {E:Value -> Shared -> Prop}
   (q:∀ a s' g',0 < s'.toks -> Tr W g s g' s' -> Rel C g' σ s'.heap -> T g' s'.heap a -> Q a s'):wpAny (model C.prog C.w) A t Q E s :=
 wpAny_mono (wpAny_toks_of p (h p (fun a s₁ => 0 < s₁.toks -> Q a s₁) E fun a s₁ g₁ x R t' p' => q a s₁ g₁ p' x R t')) (fun w0 w0 x => x.2 x.1) fun w0 w0 x => x.2
theorem Up9 (ih:StOk C A cl sc n) {ts:List Stmt} {fl:Fl} (S:ES sc env) (F:FR g s.heap env fr) (R:Rel C g σ s.heap) (q:execSs C.P cl sc (n + 1) fr ts σ = some (fl,σ')) :
   Ex C A (Wf env) (execs ts env) g σ' s fun g' h' f => FlR g' h' env fl f:=by
 cases ts with
 | nil =>
   cases q
   rw [arm_execs_nil]
   exact Ex.ret R ⟨rfl,F⟩
 | cons t r =>
   refine bndE q fun fl₁ σ₁ e1 q => ?_
   rw [arm_execs_cons]
   refine Ex.bind (ih.st fr t env g σ σ₁ s fl₁ S F R e1) fun f s₁ g₁ t₁ R₁ hf => ?_
   cases fl₁ with
   | next fr₁ =>
     obtain ⟨rfl,F₁⟩:=hf
     exact ih.sts fr₁ r env g₁ σ₁ σ' s₁ fl S F₁ R₁ q
   | ret v =>
     obtain ⟨u,rfl,hu⟩:=hf
     cases q
     exact Ex.ret R₁ ⟨u,rfl,hu⟩
noncomputable abbrev BdOk (C:Cx) (A:Around) (env:Env) (body:List Stmt) (bd:Fr -> M Fl):Prop:=∀ {g:Gh} {σ σ':Store} {s:Shared} {fr:Fr} {fl:Fl},FR g s.heap env fr -> Rel C g σ s.heap -> bd fr σ = some (fl,σ') ->
 Ex C A (Wf env) (execs body env) g σ' s fun g' h' f => FlR g' h' env fl f
noncomputable abbrev SvOk (C:Cx) (A:Around) (env:Env) (x:Str) (sv:V -> Fr -> M Fr):Prop:=∀ {g:Gh} {σ σ':Store} {s:Shared} {fr fr':Fr} {v:V} {u:Value},FR g s.heap env fr -> Rel C g σ s.heap -> VR g s.heap v u -> sv v fr σ = some (fr',σ') ->
 Ex C A (Wf env) (storeName env x u) g σ' s fun g' h' w0 => FR g' h' env fr'
noncomputable abbrev TsOk (C:Cx) (A:Around) (env:Env) (test:Expr) (ts:Fr -> M Bool):Prop:=∀ {g:Gh} {σ σ':Store} {s:Shared} {fr:Fr} {b:Bool},FR g s.heap env fr -> Rel C g σ s.heap -> ts fr σ = some (b,σ') ->
 Ev C A (isTrue test env (eval test env)) g σ' s fun w0 w0 c => c = b
noncomputable def WhI (C:Cx) (env:Env) (lp:Nat -> Fr -> M Fl) (fl:Fl) (σ':Store) (g:Gh) (s:Shared) (m:Nat) (sk:Shared):Prop :=
 ∃ gk σk frk,0 < sk.toks ∧ Tr (Wf env) g s gk sk ∧ Rel C gk σk sk.heap ∧ FR gk sk.heap env frk ∧ lp m frk σk = some (fl,σ')
theorem Ulw {test:Expr} {body:List Stmt} {pos:Pos} {ts:Fr -> M Bool} {bd:Fr -> M Fl} {fl:Fl} {m:Nat} (hts:TsOk C A env test ts) (hbd:BdOk C A env body bd) (F:FR g s.heap env fr) (R:Rel C g σ s.heap)
   (q:loopW ts bd m fr σ = some (fl,σ')):Ex C A (Wf env) (exec (.While test body [] pos) env) g σ' s fun g' h' f => FlR g' h' env fl f:=by
 intro pt Q E qq
 refine wpAny_While (codeAny_whileLoop (WhI C env (loopW ts bd) fl σ' g s) (fun m sk hI => ?_) m ⟨g,σ,fr,pt,Tr.refl _ _ _,R,F,q⟩)
 refine xEEEAAAAA hI fun gk σk frk pk tk Rk Fk qk => ?_
 clear hI q F R
 cases m with
 | zero => exact (Uaa qk).elim
 | succ m =>
   refine bndE qk fun b σ₁ e1 qk => Ev.toks (hts Fk Rk e1) pk fun c s₁ g₁ p₁ t₁ R₁ hc => ?_
   subst hc
   have F₁:=Fk.tr Rk t₁
   cases c with
   | false => cases qk; rw [arm_execs_nil]; exact wpAny_pure (qq _ _ _ (tk.trans t₁.none) R₁ ⟨rfl,F₁⟩)
   | true =>
     refine bndE qk fun fl₁ σ₂ e2 qk => Ex.toks (hbd F₁ R₁ e2) p₁ fun f s₂ g₂ p₂ t₂ R₂ hf => ?_
     have t':=tk.trans (t₁.none.trans t₂)
     cases fl₁ with
     | next fr₂ => obtain ⟨rfl,F₂⟩:=hf; exact ⟨m,Nat.lt_succ_self _,g₂,σ₂,fr₂,p₂,t',R₂,F₂,qk⟩
     | ret v => obtain ⟨u,rfl,hu⟩:=hf; cases qk; exact qq _ _ _ t' R₂ ⟨u,rfl,hu⟩
noncomputable def Wi (env:Env) (I:Addr):Addr -> Prop:=fun b => Wf env b ∨ b = I
noncomputable def ForI (C:Cx) (env:Env) (lp:Nat -> Nat -> Fr -> M Fl) (o:V) (uo:Value) (I:Addr) (fl:Fl) (σ':Store) (g:Gh) (s:Shared) (m:Nat) (sk:Shared):Prop :=
 ∃ gk σk k frk,0 < sk.toks ∧ Tr (Wi env I) g s gk sk ∧ Rel C gk σk sk.heap ∧ FR gk sk.heap env frk ∧ gk.Z I ∧ ¬ gk.St I ∧ ItAt sk.heap I o uo k ∧ lp m k frk σk = some (fl,σ')
theorem Umr {I:Addr} {h':Heap} {tk:Nat} {w:V} {u:Value} (R:Rel C g σ s.heap) (F:FR g s.heap env fr) (zI:g.Z I) (sI:¬ g.St I) (wI:¬ Wf env I) (hwu:VR g s.heap w u) (sb:Heap.SameBut I s.heap h') (l:h'.get? I ≠ none) :
   Tr (Wi env I) g s g { s with heap:=h',toks:=tk } ∧ Rel C g σ h' ∧ FR g h' env fr ∧ VR g h' w u:=by
 have own:∀ b,b = I -> g.Z b ∧ ¬ g.St b:=fun b e => by cases e; exact ⟨zI,sI⟩
 refine xAA (R.write1 (W:=fun b => b = I) (s':={ s with heap:=h',toks:=tk }) own (a:=I) rfl sb l rfl rfl) fun ti Ri => ?_
 exact ⟨ti.weak fun b w0 e => .inr e,Ri,F.trW R ti (fun b e => (own b e).1) fun a q e => by cases e; exact wI q,VR.tr ti R.st (fun b e => (own b e).1) w hwu⟩
theorem Upr {x:Str} {px:Pos} {body:List Stmt} {sv:V -> Fr -> M Fr} {bd:Fr -> M Fl} {o:V} {uo:Value} {I:Addr} {fl:Fl} {Rr:Result -> Shared -> Prop} (hh:A.handled = none) (hsv:SvOk C A env x sv) (hbd:BdOk C A env body bd)
   (wI:¬ Wf env I) (ho:VR g s.heap o uo) (hs:∀ b,g.St b -> g.Z b) (hW:∀ b,Wi env I b -> g.Z b) (r1:∀ g' s' f,Tr (Wi env I) g s g' s' -> Rel C g' σ' s'.heap -> FlR g' s'.heap env fl f -> Rr (.ok f) s')
   (r2:∀ gk sk fr h',Tr (Wi env I) g s gk sk -> Rel C gk σ' sk.heap -> FR gk sk.heap env fr -> gk.Z I -> ¬ gk.St I -> fl = .next fr -> Heap.ExtBut I sk.heap h' -> Rr (.ok .next) { sk with heap:=h' })
   (m:Nat) (h:ForI C env (loopF o sv bd) o uo I fl σ' g s m s):codeAny (model C.prog C.w) A (.forLoop (.Name x px) (.ref I) body [] env) Rr s:=by
 refine codeAny_forLoop (ForI C env (loopF o sv bd) o uo I fl σ' g s) (fun m sk hI => ?_) m h
 refine xEEEEAAAAAAAA hI fun gk σk k frk pk tk Rk Fk zI sI hitk qk => ?_
 clear hI h
 cases m with
 | zero => exact (Uaa qk).elim
 | succ m =>
   refine bndL qk fun r e2 qk => wpAny_mono (wpAny_toks_of pk (Uot hh Rk (VR.tr tk hs hW o ho) hitk e2 (fun r s₁ => 0 < s₁.toks -> _) _ (fun w u h' tk' hr hwu hit' sb p' => ?_) fun h' hr hb p' => ?_)) (fun w0 w0 x => x.2 x.1) fun w0 w0 x => x.2
   · cases hr
     refine xAAAA (Umr (tk:=tk') Rk Fk zI sI wI hwu sb hit'.live) fun ta Ra Fa hwa => bndE qk fun fr₂ σ₂ e3 qk => bndE qk fun fl₁ σ₃ e4 qk => ?_
     dsimp only
     rw [arm_assign_Name]
     refine wpAny_bind (wpAny_standAt (wpAny_bindName (Ex.toks (hsv (s:={ sk with heap:=h',toks:=tk' }) Fa Ra hwa e3) p' fun w0 s₂ g₂ p₂ t₂' R₂' F₂' => ?_)))
     refine Ex.toks (hbd F₂' R₂' e4) p₂ fun f s₃ g₃ p₃ t₃ R₃ hf => ?_
     have tw:=t₂'.trans t₃
     have t':=tk.trans (ta.trans (tw.weak fun b w0 w => .inl w))
     cases fl₁ with
     | next fr₃ =>
       obtain ⟨rfl,F₃⟩:=hf
       exact ⟨m,Nat.lt_succ_self _,g₃,σ₃,k + 1,fr₃,p₃,t',R₃,F₃,tw.zk _ zI,tw.notSt hit'.live sI wI,hit'.keep fun ob' e => tw.keep I ob' e sI wI,qk⟩
     | ret v =>
       obtain ⟨u',rfl,hu'⟩:=hf
       cases qk
       exact r1 _ _ _ t' R₃ ⟨u',rfl,hu'⟩
   · cases hr
     cases qk
     dsimp only
     rw [arm_execs_nil]
     exact wpAny_pure (r2 gk sk frk h' tk Rk Fk zI sI rfl hb)
theorem Um5 {o:V} {uo:Value} {ob:Obj} (R:Rel C g σ s.heap) (ho:VR g s.heap o uo) (hit:ItAt (s.heap.push ob) s.heap.objs.size o uo 0):∃ g₂ s₂ I,{ s with heap:=s.heap.push ob } = s₂ ∧ s.heap.objs.size = I ∧ Tr (fun w0 => False) g s g₂ s₂ ∧ Rel C g₂ σ s₂.heap ∧
   VR g₂ s₂.heap o uo ∧ ItAt s₂.heap I o uo 0 ∧ g₂.Z I ∧ ¬ g₂.St I ∧ s.heap.get? I = none:=by
 have d:=Ube s.heap
 refine xAA (R.zadd (s':={ s with heap:=s.heap.push ob }) (fun a => a = s.heap.objs.size) (fun b o e => Heap.get?_push_of_some _ e) (fun a e => by cases e; exact ⟨d,hit.live,R.low⟩) rfl rfl) fun t₂ R₂ => ?_
 exact ⟨_,_,_,rfl,rfl,t₂,R₂,VR.tr' ho R t₂,hit,.inr rfl,fun z => R.zh _ (R.st _ z) d,d⟩
theorem for_ok (hh:A.handled = none) (ev:EvOk C A cl n) {iter:Expr} {x:Str} {px pos:Pos} {body:List Stmt} {sv:V -> Fr -> M Fr} {bd:Fr -> M Fl} {fl:Fl} {m:Nat} {o:V} (hsv:SvOk C A env x sv) (hbd:BdOk C A env body bd) (S:ES sc env) (F:FR g s.heap env fr) (R:Rel C g σ s.heap)
   (ns:notSet iter = true) (e1:evalE C.P cl n sc fr iter σ = some (o,σ₁)) (q:loopF o sv bd m 0 fr σ₁ = some (fl,σ')) :
   Ex C A (Wf env) (exec (.For (.Name x px) iter body [] pos) env) g σ' s fun g' h' f => FlR g' h' env fl f:=by
 have hs:∀ y,foldedSetIterable iter env y = pure y:=fun y => by cases iter <;> first | rfl | cases ns
 intro pt Q E qq
 refine wpAny_For (Ev.toks (ev.ev sc fr iter env g σ σ₁ s o S F R e1) pt fun uo s₁ g₁ p₁ t₁ R₁ huo => ?_) hs
 have F₁:=F.tr R t₁
 have hdraw:∃ k r,drawV o k σ₁ = some r:=by
   cases m with
   | zero => exact (Uaa q).elim
   | succ m => exact bndL q fun r e w0 => ⟨0,r,e⟩
 refine Uof R₁ huo hdraw _ _ fun ob hit w0 => xEEEAAAAAAAAA (Um5 R₁ huo hit) fun g₂ s₂ I e1 e2 t₂ R₂ ho hit zI nst dI => ?_
 rw [e1,e2]
 have F₂:=F₁.tr R₁ t₂
 have p₂:0 < s₂.toks:=e1 ▸ p₁
 have wI:¬ Wf env I:=F₁.dead R₁ dI
 have dI':s.heap.get? I = none:=t₁.dead (fun f => f) dI
 have fin:∀ {g':Gh} {s':Shared},Tr (Wi env I) g₂ s₂ g' s' -> Tr (Wf env) g s g' s':=fun {g' s'} t =>
   (t₁.none.trans (t₂.none.trans t)).weak (W':=Wf env) fun b l w => w.elim id fun e => by cases e; exact absurd dI' l
 exact Upr hh hsv hbd wI ho R₂.st (fun b w => w.elim (fun w => (F₂.own b w).1) fun e => by cases e; exact zI) (fun g' s' f t Rf hf => qq _ _ _ (fin t) Rf hf)
   (fun gk sk fr h' t Rk Fk zk sk' e hb => xAAA (Uh6 (k:=sk.toks) (hh:=h') (fin t) R Rk zk sk' dI' wI hb) fun t Rf kp => qq _ _ _ t Rf (by cases e; exact ⟨rfl,Fk.giveUp kp wI hb⟩))
   m ⟨g₂,σ₁,0,fr,p₂,Tr.refl _ _ _,R₂,F₂,zI,nst,hit,q⟩
theorem aug_ok (Fa:Facts C) (cf:CF C) (ev:EvOk C A cl n) {o e:Expr} {x:Str} {tp p:Pos} {op:Operator} {fl:Fl} (S:ES sc env) (F:FR g s.heap env fr) (R:Rel C g σ s.heap)
   (q:bnd (evalE C.P cl n sc fr o) (fun ov => bnd (attrV C.P ov x) fun a => bnd (evalE C.P cl n sc fr e) fun b => bnd (look (augV op a b)) fun v => bnd (setAttrV C.P ov x v) fun w0 => ret (.next fr)) σ = some (fl,σ')) :
   Ex C A (Wf env) (exec (.AugAssign (.Attribute o x tp) op e p) env) g σ' s fun g' h' f => FlR g' h' env fl f:=bndE q fun ov σ₁ e1 q => bndE q fun a σ₂ e2 q => bndE q fun b σ₃ e3 q => bndL q fun v e4 q => bndE q fun w0 σ₅ e5 q => by
 cases q
 rw [arm_exec_AugAssign_2]
 refine Ex.at_ (Ex.bindE (ev.ev sc fr o env g σ σ₁ s ov S F R e1) fun uo s₁ g₁ t₁ R₁ huo => ?_)
 have F₁:=F.tr R t₁
 have new:Ev C A (do standAt tp.atName; let old <- getAttr uo x true; let v <- holding [old] (eval e env); standAt p; operate [old,v] (inplaceOp op old v)) g₁ σ₃ s₁ (fun g' h' u => VR g' h' v u):=by
   refine Ev.at_ (Ev.bind (Ukk Fa cf R₁ huo e2) fun ua s₂ g₂ t₂ R₂ hua => Ev.bind (Ev.hold (ev.ev sc fr e env g₂ σ₂ σ₃ s₂ b S (F₁.tr R₁ t₂) R₂ e3)) fun ub s₃ g₃ t₃ R₃ hub => Ev.at_ (Ev.oper ?_))
   cases op with
   | Sub => exact ob2S e4 fun x y q1 q2 e => int2 (T:=fun u w => EvV C A (inplaceOp .Sub u w) g₃ σ₃ s₃ v) q1 q2 (hua.tr' R₂ t₃) hub fun t t' => Ev.same R₃ fun Q E q => PySem.P.isub_int (q _ _ (VR.oInt e))
   | _ => exact (Uaa e4).elim
 refine Ex.bindE (Ev.hold new) fun uv s₂ g₂ t₂ R₂ huv => Ex.at_ (Ex.bindE (Ev.hold (Ufl Fa cf R₂ (huo.tr' R₁ t₂) huv e5)) fun w0 s₃ g₃ t₃ R₃ w0 => ?_)
 exact Ex.rel (Ex.ret R₃ ⟨rfl,(F₁.tr R₁ t₂).tr R₂ t₃⟩)
theorem Uqt (Fa:Facts C) (cf:CF C) (hh:A.handled = none) (ev:∀ m,EvOk C A cl m) (ih:StOk C A cl sc n) {t:Stmt} {fl:Fl} (S:ES sc env) (F:FR g s.heap env fr) (R:Rel C g σ s.heap)
   (q:execS C.P cl sc (n + 1) fr t σ = some (fl,σ')):Ex C A (Wf env) (exec t env) g σ' s fun g' h' f => FlR g' h' env fl f:=by
 have hbd:∀ body,BdOk C A env body fun fr => execSs C.P cl sc n fr body:=fun body {g σ σ' s fr fl} F R q => ih.sts fr body env g σ σ' s fl S F R q
 cases t with
 | Expr e p =>
   refine iteM q fun hn q => bndE q fun v σ₁ e1 q => ?_
   cases q
   intro pt Q E qq
   refine wpAny_Expr_any ?_ (by delta interactive; rw [F.kind]; rfl) (Ufs hn)
   exact Ev.toks ((ev n).ev sc fr e env g σ _ s v S F R e1) pt fun w0 s₁ g₁ p₁ t₁ R₁ w0 => qq _ _ _ t₁.none R₁ ⟨rfl,F.tr R t₁⟩
 | Pass p =>
   cases q
   rw [arm_exec_Pass]
   exact Ex.at_ (Ex.ret R ⟨rfl,F⟩)
 | Return e p =>
   rw [arm_exec_Return]
   cases e with
   | some e =>
     refine bndE q fun v σ₁ e1 q => ?_
     cases q
     refine Ex.at_ (Ex.of_eq (t':=eval e env >>= fun x => pure (Flow.ret x)) rfl ?_)
     exact Ex.bindE ((ev n).ev sc fr e env g σ _ s v S F R e1) fun u s₁ g₁ t₁ R₁ hu => Ex.ret R₁ ⟨u,rfl,hu⟩
   | none =>
     cases q
     exact Ex.at_ (Ex.of_eq (t':=pure (Flow.ret .none)) rfl (Ex.ret R ⟨.none,rfl,rfl⟩))
 | Assign ts e p =>
   rcases Unc ts with ⟨ts,k,tp,rfl⟩ | ⟨t,rfl,ht⟩ | hb
   · refine iteM q fun hc q => bndE q fun v σ₁ e1 q => bndO q fun vs e2 q => bndE q fun fr' σ₃ e3 q => ?_
     cases q
     have hc:=Bool.and_eq_true_iff.mp hc
     have hd:=Bool.and_eq_true_iff.mp hc.1
     exact Upx Fa cf hh ev S F R hd.1 hd.2 e1 e2 e3
   · refine bndE (Uqs ht q) fun v σ₁ e1 q => bndE q fun fr' σ₂ e2 q => ?_
     cases q
     exact Uk9 Fa cf hh ev S F R e1 e2
   · exact (Ush hb q).elim
 | AugAssign t op e p =>
   refine obM q fun z hz q1 => xEA (Ups hz) fun tp e => ?_
   subst e
   exact aug_ok Fa cf (ev n) S F R q1
 | If t a b p =>
   refine bndE q fun c σ₁ e1 q => ?_
   rw [arm_exec_If]
   refine Ex.at_ (Ex.bindE ((ev n).test sc fr t env g σ σ₁ s c S F R e1) fun c' s₁ g₁ t₁ R₁ hc => ?_)
   subst hc
   cases c' with
   | true => exact hbd a (F.tr R t₁) R₁ q
   | false => exact hbd b (F.tr R t₁) R₁ q
 | While t a b p =>
   cases b with
   | nil => exact Ulw (fun {g σ σ' s fr b} F R q => (ev n).test sc fr t env g σ σ' s b S F R q) (hbd a) F R q
   | cons _ _ => exact (Uaa q).elim
 | For t it a b p =>
   refine obM q fun x hx q1 => xEAA (Uo7 hx) fun xp e e2 => iteM q1 fun hn q2 => bndE q2 fun o σ₁ e1 q3 => ?_
   subst e; subst e2
   exact for_ok hh (ev n) (fun {g σ σ' s fr fr' v u} F R hv q => Uf8 S F R hv q) (hbd a) S F R hn e1 q3
 | _ => exact (Uaa q).elim
theorem st_all (Fa:Facts C) (cf:CF C) (hh:A.handled = none) (ev:∀ m,EvOk C A cl m):∀ n,StOk C A cl sc n
 | 0 => ⟨fun fr t env g σ σ' s fl S F R q => (Uaa q).elim,fun fr t env g σ σ' s fl S F R q => (Uaa q).elim⟩
 | n + 1 => ⟨fun w0 w0 w0 w0 w0 w0 w0 w0 S F R q => Uqt Fa cf hh ev (st_all Fa cf hh ev n) S F R q,fun w0 w0 w0 w0 w0 w0 w0 w0 S F R q => Up9 (st_all Fa cf hh ev n) S F R q⟩
theorem ev_all (Fa:Facts C) (cf:CF C) (Ro:Room A d) (co:CallOk C A cl):∀ n,EvOk C A cl n
 | 0 => Urp
 | n + 1 => Urz Fa cf Ro co (ev_all Fa cf Ro co n) (Urh Ro.handled (ev_all Fa cf Ro co n))
end
end Mine
end
section
open PySem PySem.Calls PyProof.Rows PySem.W
namespace Mine
noncomputable def fdAt (K:Frag) (a:Addr):Option FuncData:=match K.lookup a with
 | some ⟨_,_,.func fd,_⟩ => some fd
 | _ => none
noncomputable def isStmts:FuncBody -> Bool
 | .stmts _ => true
 | _ => false
noncomputable def stmtsOf:FuncBody -> List Stmt
 | .stmts b => b
 | _ => []
noncomputable def argNames (fd:FuncData):List Str:=fd.params.args.map (·.arg)
noncomputable def fnAt (K:Frag) (ds:List V) (a:Addr):Fn:=match fdAt K a with
 | some fd => ⟨argNames fd,ds,stmtsOf fd.body,fd.scope⟩
 | none => ⟨[],[],[],⟨.function,[],false,false,[]⟩⟩
noncomputable def fdOk (K:Frag) (fd:FuncData):Bool :=
 isStmts fd.body && fd.closure.isEmpty && fd.globals == mainGlobals && fd.builtins == builtinsNs && codeIn K fd.code fd.qualname && fd.params.posonlyargs.isEmpty && fd.params.kwonlyargs.isEmpty && fd.params.vararg.isNone && fd.params.kwarg.isNone &&
 nodupB (argNames fd) && !fd.scope.isCoroutine && !fd.scope.isGenerator && fd.scope.kind == .function &&
 fd.scope.names.all (fun p => p.1 != (Y "__debug__") && p.1 != (Y "__classdict__")) &&
 (argNames fd).all (fun x => match fd.scope.names.lookup x with | some .local => true | some .cell => true | _ => false)
noncomputable def Binds (K:Frag) (fd:FuncData) (ds:List V):Prop:=(fd.defaults = .none ∧ ds = []) ∨
 ∃ x t,ds = [.str x] ∧ sOk x = true ∧ x.length <= lim ∧ (∀ us:List Value,us.length = (argNames fd).length -> ∀ S,peek K S (bindArgs fd ⟨us,[]⟩) = some ((argNames fd).zip us)) ∧
   (∀ us:List Value,us.length + 1 = (argNames fd).length -> ∀ S,peek K S (bindArgs fd ⟨us,[]⟩) = some ((argNames fd).zip (us ++ [.str x t])))
structure FnIn (K:Frag) (a:Addr) (f:Fn):Prop where
 ex:∃ fd,fdAt K a = some fd ∧ fdOk K fd = true ∧ fd.body = .stmts f.body ∧ fd.scope = f.scope ∧ argNames fd = f.params ∧ Binds K fd f.dflts
theorem FnIn.of {K:Frag} {a:Addr} {ds:List V} (h:(fdAt K a).any (fdOk K) = true) (hb:∀ fd,fdAt K a = some fd -> Binds K fd ds):FnIn K a (fnAt K ds a):=by
 cases e:fdAt K a with
 | none => rw [e] at h; cases h
 | some fd =>
   rw [e] at h
   have h:fdOk K fd = true:=h
   refine ⟨fd,e,h,?_,?_,?_,?_⟩
   · delta fnAt; rw [e]
     delta fdOk at h
     simp only [Bool.and_eq_true] at h
     have:isStmts fd.body = true:=by rw [h.1.1.1.1.1.1.1.1.1.1.1.1.1.1]
     cases hb:fd.body with
     | stmts b => simp [stmtsOf,hb]
     | _ => rw [hb] at this; cases this
   · delta fnAt; rw [e]
   · delta fnAt; rw [e]
   · delta fnAt; rw [e]; exact hb fd e
theorem Ug9:∀ {ps:List Str} {vs:List Value},vs.length = ps.length -> ps.Nodup -> (∀ n ∈ ps,((ps.zip vs).lookup n).isSome = true) ∧ ps.filterMap (fun n => ((ps.zip vs).lookup n).map (n,·)) = ps.zip vs
 | [],[],_,_ => by simp
 | p :: ps,v :: vs,hl,hn => by
   rw [List.nodup_cons] at hn
   refine xAA (Ug9 (ps:=ps) (vs:=vs) (by simpa using hl) hn.2) fun a b => ?_
   have ne:∀ n ∈ ps,(n == p) = false:=fun n hm => beq_eq_false_iff_ne.mpr fun e => hn.1 (e ▸ hm)
   constructor
   · intro n hm
     rw [List.zip_cons_cons,List.lookup_cons]
     rcases List.mem_cons.mp hm with rfl | hm
     · simp
     · rw [ne n hm]; exact a n hm
   · rw [List.zip_cons_cons,List.filterMap_cons]
     simp only [List.lookup_cons,beq_self_eq_true,Option.map_some]
     congr 1
     have go:∀ l:List Str,(∀ n ∈ l,(n == p) = false) -> l.filterMap (fun n => (match n == p with | true => some v | false => (ps.zip vs).lookup n).map (n,·)) = l.filterMap (fun n => ((ps.zip vs).lookup n).map (n,·)):=by
       intro l hl
       induction l with
       | nil => rfl
       | cons x l ih => rw [List.filterMap_cons,List.filterMap_cons,ih (fun n hm => hl n (List.mem_cons_of_mem _ hm)),hl x List.mem_cons_self]
     exact (go ps ne).trans b
 | [],_ :: _,hl,_ => by simp at hl
 | _ :: _,[],hl,_ => by simp at hl
theorem Uqy {α:Type} {c:Bool} {l:List Str} {X Y Z W:α} (h:c = false) (h2:l = []) (z:Z = W):(if (c && true) = true then X else if (!l.isEmpty) = true then Y else Z) = W:=by subst h h2; exact z
theorem Uk6 {fd:FuncData} {vals:List Value} (h1:fd.params.posonlyargs = []) (h2:fd.params.kwonlyargs = []) (h3:fd.params.vararg = none) (h4:fd.params.kwarg = none) (h5:fd.defaults = .none)
   (hl:vals.length = (fd.params.args.map (·.arg)).length) (hn:(fd.params.args.map (·.arg)).Nodup):bindArgs fd ⟨vals,[]⟩ = pure ((fd.params.args.map (·.arg)).zip vals):=by
 obtain ⟨nm,qn,⟨po,ar,va,ko,kd,kw,df⟩,bo,sc,gl,cl,dl,kdl,doc,pm,an,co,ct,bu⟩:=fd
 cases h1; cases h2; cases h3; cases h4; cases h5
 dsimp only at hl hn ⊢
 refine xAA (Ug9 hl hn) fun a b => ?_
 have e1:decide (vals.length > (ar.map (·.arg)).length) = false:=decide_eq_false (Nat.not_lt_of_le (Nat.le_of_eq hl))
 have e2 (k:Nat):((ar.map (·.arg)).take k).filter (fun n => (((ar.map (·.arg)).zip vals).lookup n).isNone) = []:=List.filter_eq_nil_iff.mpr fun n hm => by
   rw [Option.isNone_eq_false_iff.mpr (a n (List.mem_of_mem_take hm))]; exact Bool.false_ne_true
 refine Uqy (α:=Sem (List (Str × Value))) e1 (e2 _) ?_
 dsimp only [Option.getD_none,List.map_nil,List.nil_append]
 simp only [List.drop_nil,List.zip_nil_right,List.forIn_nil,pure_bind]
 exact congrArg Sem.pure ((congrArg (List.filterMap (fun n => Option.map (fun x => (n,x)) (List.lookup n ((ar.map (·.arg)).zip vals)))) (List.append_nil (ar.map (·.arg)))).trans b)
theorem Ueu:∀ {ps:List Str} {vs:List V} {ds:List V} {fr:Fr},bindP ps vs ds = some fr -> ds = [] ∨ (∃ d,ds = [d]) -> (vs.length = ps.length ∧ fr = ps.zip vs) ∨ ∃ d,ds = [d] ∧ vs.length + 1 = ps.length ∧ fr = ps.zip (vs ++ [d])
 | [],[],ds,fr,e,_ => by rw [bindP] at e; cases e; exact .inl ⟨rfl,rfl⟩
 | p :: ps,v :: vs,ds,fr,e,hd => by
   rw [bindP] at e
   split at e
   · rename_i fr' q
     cases e
     rcases Ueu q hd with ⟨a,rfl⟩ | ⟨d,a,b,rfl⟩
     · exact .inl ⟨by simp [a],rfl⟩
     · exact .inr ⟨d,a,by simp only [List.length_cons]; omega,rfl⟩
   · cases e
 | p :: ps,[],ds,fr,e,hd => by
   rw [bindP] at e
   rcases hd with rfl | ⟨d,rfl⟩
   · simp at e
   · have:([d]:List V).drop ([d].length - (ps.length + 1)) = [d]:=by
       have:[d].length - (ps.length + 1) = 0:=by simp
       rw [this]; rfl
     rw [this] at e
     dsimp only at e
     split at e
     · rename_i hl
       have:ps = []:=by
         cases ps with
         | nil => rfl
         | cons => simp only [List.length_cons,List.length_nil] at hl; omega
       subst this
       rw [bindP] at e
       cases e
       exact .inr ⟨d,rfl,rfl,rfl⟩
     · cases e
 | [],_ :: _,ds,fr,e,_ => by rw [bindP] at e; cases e
theorem Uff {kind:Str -> Option NameKind} {g:Gh} {h:Heap}:∀ {ps:List Str} {vs:List V} {us:List Value} {m:Str -> Option Value},VRs g h vs us -> vs.length = ps.length -> ps.Nodup -> ∀ x v,lk x (ps.zip vs) = some v ->
   ∃ u,VR g h v u ∧ (kind x = some .local -> bindL kind (ps.zip us) m x = some u) ∧ (¬ kind x = some .local -> ∀ cm,bindC kind (ps.zip us) cm x = some u)
 | [],[],us,m,hv,_,_,x,v,e => by simp [lk] at e
 | p :: ps,w :: vs,us,m,hv,hl,hn,x,v,e => by
   simp only [VRs] at hv
   refine xEEAAA hv fun u r qz1 hu hr => ?_; subst qz1
   rw [List.nodup_cons] at hn
   have stay:∀ {us:List Value} {m:Str -> Option Value} {ps:List Str},¬ p ∈ ps -> bindL kind (ps.zip us) m p = m p ∧ ∀ cm,bindC kind (ps.zip us) cm p = cm p:=by
     intro us m ps
     induction ps generalizing us m with
     | nil => intro _; exact ⟨rfl,fun w0 => rfl⟩
     | cons q ps ih =>
       intro hm
       cases us with
       | nil => exact ⟨rfl,fun w0 => rfl⟩
       | cons y us =>
         have hq:¬ p = q:=fun e => hm (e ▸ List.mem_cons_self)
         have hp:¬ p ∈ ps:=fun e => hm (List.mem_cons_of_mem _ e)
         rw [List.zip_cons_cons]
         unfold bindL bindC
         refine ⟨?_,fun cm => ?_⟩
         · rw [(ih hp).1]; split
           · exact if_neg hq
           · rfl
         · rw [(ih (m:=m) hp).2]; split
           · rfl
           · exact if_neg hq
   rw [List.zip_cons_cons] at e
   by_cases q:p = x
   · subst q
     simp only [lk,beq_self_eq_true,if_true,Option.some.injEq] at e
     subst e
     refine ⟨u,hu,fun k => ?_,fun k cm => ?_⟩
     · rw [List.zip_cons_cons]; unfold bindL; rw [(stay hn.1).1,if_pos k,if_pos rfl]
     · rw [List.zip_cons_cons]; unfold bindC; rw [(stay (m:=m) hn.1).2,if_neg k,if_pos rfl]
   · have e2:(p == x) = false:=beq_eq_false_iff_ne.mpr q
     simp only [lk,e2,Bool.false_eq_true,if_false] at e
     refine xEAAA (Uff (kind:=kind) (m:=if kind p = some .local then (fun y => if y = p then some u else m y) else m) hr (by simpa using hl) hn.2 x v e) fun u' a b c => ?_
     refine ⟨u',a,fun k => ?_,fun k cm => ?_⟩
     · rw [List.zip_cons_cons]; unfold bindL; exact b k
     · rw [List.zip_cons_cons]; unfold bindC; exact c k _
 | [],_ :: _,_,_,_,hl,_,_,_,_ => by simp at hl
 | _ :: _,[],_,_,_,hl,_,_,_,_ => by simp at hl
theorem Uaw:∀ {l:List (Str × NameKind)} {n:Nat} {acc:List (Str × Addr)} {x:Str},((x,NameKind.cell) ∈ l ∨ (acc.lookup x).isSome = true) -> ((cellsFrom n l acc).lookup x).isSome = true
 | [],n,acc,x,h => by
   rcases h with h | h
   · cases h
   · exact h
 | (y,k) :: r,n,acc,x,h => by
   unfold cellsFrom
   split
   · rename_i hk
     refine Uaw ?_
     rcases h with h | h
     · rcases List.mem_cons.mp h with e | h
       · cases e; right; simp
       · exact .inl h
     · right
       rw [List.lookup_cons]
       split
       · rfl
       · exact h
   · rename_i hk
     refine Uaw ?_
     rcases h with h | h
     · rcases List.mem_cons.mp h with e | h
       · cases e; simp at hk
       · exact .inl h
     · exact .inr h
end Mine
end
section
open PySem PySem.Calls PyProof.Rows PySem.W
namespace Mine
section
variable {C:Cx} {A:Around} {g g':Gh} {σ σ₁ σ':Store} {s s':Shared} {d:Nat}
noncomputable abbrev FF (C:Cx):Prop:=∀ a f,lkN a C.P.fns = some f -> FnIn C.K a f
theorem Ukp {h:Heap} {a:Addr} (e:h.objs.size <= a):h.get? a = none:=by
 cases q:h.get? a with
 | none => rfl
 | some o => exact absurd (Heap.lt_size q) (Nat.not_lt.mpr e)
theorem Ui7 {K:Frag} {a:Addr} {fd:FuncData} (e:fdAt K a = some fd):∃ c d sl,K.lookup a = some ⟨c,d,.func fd,sl⟩:=by
 delta fdAt at e
 split at e
 · rename_i h; cases e; exact ⟨_,_,_,h⟩
 · cases e
theorem Uno (Fa:Facts C) (cf:CF C) (ff:FF C) (hd:A.depth < recursionLimit) (hh:A.handled = none) (Ro:∀ env,Room (A.deeper env) d) (co:∀ env,CallOk C (A.deeper env) (callD C.P d))
   {a:Addr} {args:List V} {us:List Value} {v:V} (R:Rel C g σ s.heap) (hv:VRs g s.heap args us) (e:callD C.P (d + 1) a args σ = some (v,σ')) (pt:0 < s.toks) {RR:Result -> Shared -> Prop}
   (fin:∀ u s' g',Tr (fun w0 => False) g s g' s' -> Rel C g' σ' s'.heap -> VR g' s'.heap v u -> RR (.ok (.ret u)) s'):codeAny (model C.prog C.w) A (.call (.ref a) ⟨us,[]⟩) RR s:=by
 rw [callD] at e
 obtain ⟨f,hf⟩:∃ f,lkN a C.P.fns = some f:=by
   cases hf:lkN a C.P.fns with
   | none => rw [hf] at e; exact (Uaa e).elim
   | some f => exact ⟨f,rfl⟩
 rw [hf] at e
 dsimp only at e
 obtain ⟨fr,hfr⟩:∃ fr,bindP f.params args f.dflts = some fr:=by
   cases hf:bindP f.params args f.dflts with
   | none => rw [hf] at e; exact (Uaa e).elim
   | some f => exact ⟨f,rfl⟩
 rw [hfr] at e
 dsimp only at e
 refine bndE e fun fl σ₁ e1 e => ?_
 refine xEAAAAAA ((ff a f hf).ex) fun fd hfd ok hbody hsc hps hbd => ?_
 refine xEEEA (Ui7 hfd) fun oc od sl hlook => ?_
 have X:=Fa.here R
 unfold fdOk at ok
 simp only [Bool.and_eq_true,beq_iff_eq,Bool.not_eq_true',List.isEmpty_iff,Option.isNone_iff_eq_none,List.all_eq_true] at ok
 refine xAA ok fun qz1 hpa => ?_; obtain ⟨⟨⟨⟨⟨⟨⟨⟨⟨⟨⟨⟨⟨_,hclo⟩,hgl⟩,hbi⟩,hcode⟩,hpo⟩,hko⟩,hva⟩,hkw⟩,hnd⟩,hco⟩,hge⟩,hki⟩,hdb⟩:=qz1
 have hnd':(argNames fd).Nodup:=Uh5 hnd
 obtain ⟨vs',us',rfl,hvs,hlen,hbind⟩:∃ vs' us',fr = (argNames fd).zip vs' ∧ VRs g s.heap vs' us' ∧ vs'.length = (argNames fd).length ∧ BindsTo s fd ⟨us,[]⟩ ((argNames fd).zip us'):=by
   rw [<- hps] at hfr
   have hul:=hv.len
   rcases hbd with ⟨b1,b2⟩ | ⟨x,t,b2,b3,b4,b5,b6⟩
   · rw [b2] at hfr
     rcases Ueu hfr (.inl rfl) with ⟨l,rfl⟩ | ⟨d,z,_⟩
     · refine ⟨args,us,rfl,hv,l,BindsTo.of_eq (Uk6 hpo hko hva hkw b1 (by rw [hul]; exact l) hnd')⟩
     · cases z
   · rw [b2] at hfr
     rcases Ueu hfr (.inr ⟨_,rfl⟩) with ⟨l,rfl⟩ | ⟨d,z,l,rfl⟩
     · exact ⟨args,us,rfl,hv,l,fun M w0 w0 w0 q => (Looks.of_peek (M:=M) X (b5 us (by rw [hul]; exact l) _)).here q⟩
     · cases z
       exact ⟨args ++ [.str x],us ++ [.str x t],rfl,VRs.app hv (VRs.one (VR.mkStr b3 b4)),by simp [l],fun M w0 w0 w0 q => (Looks.of_peek (M:=M) X (b6 us (by rw [hul]; exact l) _)).here q⟩
 refine xAA (Ula (l:=argNames fd) (vs:=vs') hlen) fun z1 z2 => ?_
 have hlu:us'.length = (argNames fd).length:=by rw [hvs.len]; exact hlen
 have hkind:∀ x ∈ (argNames fd).zip us',fd.scope.names.lookup x.1 = some .local ∨ (fd.scope.names.lookup x.1 = some .cell ∧ ((cellsFrom (s.heap.objs.size + 1) fd.scope.names []).lookup x.1).isSome = true):=fun x hx => by
   have hm:x.1 ∈ argNames fd:=(List.of_mem_zip hx).1
   have:=hpa _ hm
   split at this
   · rename_i q; exact .inl q
   · rename_i q; exact .inr ⟨q,Uaw (.inl (mem_of_lookup q))⟩
   · cases this
 refine codeAny_call_function hd (X _ _ hlook) rfl hco hge hbody (codeRec_of X hcode) (hbind _ _ _ _ ?_)
 rw [hclo]
 refine wpAny_mono (wpAny_toks_of pt (wpAny_newFunctionEnv_cells (Q:=fun env s₂ => 0 < s₂.toks -> s₂.heap.NoLimit ∧ codeAny (model C.prog C.w) A (.func f.body env) RR s₂) hki hkind fun env he s₂ x p₂ => ?_)) (fun w0 w0 x => x.2 x.1) fun w0 w0 x => x.2
 refine ⟨(R.room Fa).keeps x.toInCall.keep,codeAny_func ?_⟩
 have hes:env.scope = fd.scope:=by rw [he]; rfl
 have heg:env.globals = mainGlobals:=by rw [he]; exact hgl
 have heb:env.builtins = builtinsNs:=by rw [he]; exact hbi
 have hec:env.cells = cellsFrom (s.heap.objs.size + 1) fd.scope.names []:=by rw [he]; rfl
 have hel:env.locals = s.heap.objs.size:=by rw [he]; rfl
 refine xEEA x.toInCall.same fun h₂ tk qz1 => ?_; subst qz1
 have dead:∀ b,Wf env b -> s.heap.get? b = none:=fun b w => by
   rcases w with rfl | ⟨n,w⟩
   · exact Ukp (Nat.le_of_eq hel.symm)
   · have:=x.above n b (mem_of_lookup w)
     rw [hel] at this
     exact Ukp (Nat.le_of_lt this)
 obtain ⟨t₀,R₀⟩:=R.zadd (s':={ s with heap:=h₂,toks:=tk }) (Wf env) x.toInCall.keep (fun b w => ⟨dead b w,by
   rcases w with rfl | ⟨n,w⟩
   · refine xEEEAA x.toInCall.ns fun w0 w0 w0 q w0 => ?_; exact Uaf q
   · refine xEAA (x.cell n b w) fun w0 q w0 => ?_; exact Uaf q,by
   rcases w with rfl | ⟨n,w⟩
   · rw [hel]; exact R.low
   · have:=x.above n b (mem_of_lookup w)
     rw [hel] at this
     exact Nat.lt_trans R.low this⟩) rfl rfl
 have nst:∀ b,Wf env b -> ¬ (g.zadd (Wf env)).St b:=fun b w z => R.zh b (R.st b z) (dead b w)
 have hvs':VRs (g.zadd (Wf env)) h₂ vs' us':=VRs.tr' hvs R t₀
 have S:ES f.scope env:=by
   rw [<- hsc,<- hes]
   exact ⟨fun w0 h => h,fun w0 h => h,fun w0 h => h⟩
 have F:FR (g.zadd (Wf env)) h₂ env ((argNames fd).zip vs'):=by
   refine ⟨by rw [hes]; exact hki,heg,heb,fun p hp => ?_,.inr (.inl rfl),nst _ (.inl rfl),⟨_,x.toInCall.ns,fun y w hy hk => ?_⟩,fun y w hy => ?_,fun y c hc => ?_,fun y hy => ?_,fun y z c h1 h2 => ?_⟩
   · rw [hes] at hp
     have:=hdb p hp
     simp only [bne_iff_ne,ne_eq] at this
     exact ⟨beq_eq_false_iff_ne.mpr this.1,beq_eq_false_iff_ne.mpr this.2⟩
   · refine xEAAA (Uff (kind:=env.kindOf) (m:=fun w0 => none) hvs' hlen hnd' y w hy) fun u a b w0 => ?_
     exact ⟨u,b hk,a⟩
   · by_cases hk:env.kindOf y = some .local
     · exact .inl hk
     · refine xEAAA (Uff (kind:=env.kindOf) (m:=fun w0 => none) hvs' hlen hnd' y w hy) fun u a w0 b => ?_
       have hm:y ∈ argNames fd:=by rw [<- z1]; exact List.mem_map.mpr ⟨_,lk_mem hy,rfl⟩
       have:=hpa _ hm
       have hk':fd.scope.names.lookup y = some .cell:=by
         have e:env.kindOf y = fd.scope.names.lookup y:=by delta Env.kindOf; rw [hes]
         split at this
         · rename_i q; rw [e,q] at hk; exact absurd rfl hk
         · rename_i q; exact q
         · cases this
       refine xEA (Option.isSome_iff_exists.mp (Uaw (n:=s.heap.objs.size + 1) (acc:=[]) (.inl (mem_of_lookup hk')))) fun c hc => ?_
       rw [<- hec] at hc
       have:=x.cell y c hc
       rw [b hk] at this
       refine .inr ⟨.inl (by delta Env.kindOf; rw [hes]; exact hk'),c,u,hc,this,a⟩
   · refine ⟨.inr (.inr ⟨y,hc⟩),nst _ (.inr ⟨y,hc⟩),Nat.ne_of_gt (x.above y c (mem_of_lookup hc)),_,x.cell y c hc⟩
   · have hk':fd.scope.names.lookup y = some .cell:=by unfold Env.kindOf at hy; rw [hes] at hy; exact hy
     rw [hec]
     exact Option.isSome_iff_exists.mp (Uaw (n:=s.heap.objs.size + 1) (acc:=[]) (.inl (mem_of_lookup hk')))
   · exact name_of_addr x.apart (mem_of_lookup h1) (mem_of_lookup h2)
 refine (st_all Fa cf (Ro env).handled (ev_all Fa cf (Ro env) (co env)) 60).sts _ f.body env _ σ σ₁ _ fl S F R₀ e1 p₂ _ _ fun fl' s' g' t R' hfl => ?_
 have tt:Tr (fun w0 => False) g s g' s':=(t₀.none.trans t).weak fun b l w => l (dead b w)
 cases fl with
 | next fr' =>
   refine xAA hfl fun qz1 w0 => ?_; subst qz1
   cases e
   exact fin .none s' g' tt R' (by simp [VR])
 | ret w =>
   refine xEAA hfl fun u qz1 hu => ?_; subst qz1
   cases e
   exact fin u s' g' tt R' hu
theorem Urg {K:Frag} {a:Addr} {f:Fn} (h:FnIn K a f):keepIn K (.ref a) = true:=by
 refine xEAA h.ex fun fd hfd w0 => ?_
 refine xEEEA (Ui7 hfd) fun oc od sl hlook => ?_
 delta keepIn
 dsimp only
 rw [hlook]
theorem Ujr (A:Around) (C:Addr) (us:List Value):(A.under (.builtin "type.__call__" ⟨.ref C :: us,[]⟩)).units <= A.units + 5 ∧ (A.under (.builtin "type.__call__" ⟨.ref C :: us,[]⟩)).handled = A.handled:=⟨Nat.add_le_add_left (by show _ <= 5; exact Nat.le_of_ble_eq_true rfl) _,rfl⟩
theorem cls_ok (Fa:Facts C) (cf:CF C) (ff:FF C) (Ro:Room A (d + 1)) (co:∀ (A':Around) (env:Env),Room (A'.deeper env) d -> CallOk C (A'.deeper env) (callD C.P d)) {a:Addr} {k:Cls} {args:List V} {us:List Value} {v:V} (hk:lkN a C.P.clss = some k) (R:Rel C g σ s.heap) (hv:VRs g s.heap args us)
   (e:applyV C.P (callD C.P (d + 1)) (.fn a) args σ = some (v,σ')):EvV C A (call (.ref a) us) g σ' s v:=by
 delta applyV at e
 dsimp only at e
 rw [hk] at e
 dsimp only at e
 split at e
 case h_2 => cases e
 rename_i l hl
 refine bndE e fun w σ₁ e1 e => ?_
 split at e
 case h_2 => exact (Uaa e).elim
 cases e
 have f:=cf a k hk
 have X:=Fa.here R
 intro pt Q E q
 refine wpAny_call ?_
 obtain ⟨hh,gg,dd,t,os⟩:=s
 refine make_core (makes_of X f.makes) (looks_findIn X f.init) (fun self => bind_fn X self f.ifn) (.inl rfl) ?_
 have hd:hh.get? hh.objs.size = none:=Ube hh
 have gx:((hh.push emptyDict).push (instObj a hh.objs.size)).get? (hh.objs.size + 1) = some (instObj a hh.objs.size):=by
   have:=Heap.get?_push_size (hh.push emptyDict) (o:=instObj a hh.objs.size) rfl
   rw [Heap.size_push] at this; exact this
 have gd:((hh.push emptyDict).push (instObj a hh.objs.size)).get? hh.objs.size = some emptyDict:=Heap.get?_push_of_some _ (Heap.get?_push_size _ rfl)
 obtain ⟨t₁,R₁⟩:=R.add (s:=⟨hh,gg,dd,t,os⟩) (s':=⟨(hh.push emptyDict).push (instObj a hh.objs.size),gg,dd,t,os⟩) (r:=k.region) (o:=.inst a []) (a:=hh.objs.size + 1) (d:=hh.objs.size) hl
   (fun b ob e => Heap.get?_push_of_some _ (Heap.get?_push_of_some _ e)) hd (Uaf gd) R.low rfl rfl fun t => by
     refine ⟨gx,fun z => ?_,[],0,gd,by simp [ER],Nat.zero_le _⟩
     rcases z with z | z
     · have:=R.zh _ z
       exact this (Ukp (Nat.le_succ _))
     · exact absurd z (Nat.succ_ne_self _)
 refine xAA (Ujr A a us) fun u1 u2 => ?_
 have u3:(A.under (.builtin "type.__call__" ⟨.ref a :: us,[]⟩)).depth = A.depth + 1:=depth_under_make A a us
 have Ro':∀ env,Room ((A.under (.builtin "type.__call__" ⟨.ref a :: us,[]⟩)).deeper env) d:=fun env => by
   have r1:=Ro.depth
   have r2:=Ro.units
   refine ⟨Ro.handled,?_,?_⟩
   · show (A.under (.builtin "type.__call__" ⟨.ref a :: us,[]⟩)).depth + 1 + 2 * d + 2 < 1000; omega
   · show (A.under (.builtin "type.__call__" ⟨.ref a :: us,[]⟩)).units + 3 + 8 * d + 200 < 9900; omega
 refine Uno (A:=A.under (.builtin "type.__call__" ⟨.ref a :: us,[]⟩)) (s:=⟨(hh.push emptyDict).push (instObj a hh.objs.size),gg,dd,t,os⟩) Fa cf ff (by have:=Ro.depth; rw [u3]; show _ < 1000; omega) Ro.handled Ro' (fun env => co _ env (Ro' env)) (args:=.ref k.region l.length :: args) (us:=.ref (hh.objs.size + 1) :: us) R₁ ?_ e1 pt fun u s' g' t' R' hu => ?_
 · simp only [VRs]
   refine ⟨_,_,rfl,?_,VRs.tr' hv R t₁⟩
   simp only [VR]
   exact ⟨_,_,rfl,by show (if _ then _ else _) = _; rw [if_pos ⟨rfl,rfl⟩]⟩
 · simp only [VR] at hu
   subst hu
   refine ⟨rfl,q _ _ _ (t₁.trans t') R' ?_⟩
   simp only [VR]
   exact ⟨_,_,rfl,t'.grow _ _ _ (by show (if _ then _ else _) = _; rw [if_pos ⟨rfl,rfl⟩])⟩
theorem Ukz (Fa:Facts C) (cf:CF C) (ff:FF C):∀ (d:Nat) (A:Around),Room A d -> CallOk C A (callD C.P d)
 | 0,A,Ro => by
   refine ⟨fun a args us g σ σ' s v R hv e => ?_,fun a k args us g σ σ' s v hk R hv e => ?_,fun a args σ r e => ?_⟩
   · rw [callD] at e; exact (Uaa e).elim
   · unfold applyV at e
     dsimp only at e
     rw [hk] at e
     dsimp only at e
     split at e
     · refine bndE e fun w σ₁ e1 e => ?_
       rw [callD] at e1; exact (Uaa e1).elim
     · cases e
   · rw [callD] at e; exact (Uaa e).elim
 | d + 1,A,Ro => by
   have co:∀ (A':Around) (env:Env),Room (A'.deeper env) d -> CallOk C (A'.deeper env) (callD C.P d):=fun A' env r => Ukz Fa cf ff d _ r
   have Ro':∀ env,Room (A.deeper env) d:=fun env => by
     have r1:=Ro.depth
     have r2:=Ro.units
     refine ⟨Ro.handled,?_,?_⟩
     · show A.depth + 1 + 2 * d + 2 < 1000; omega
     · show A.units + 3 + 8 * d + 200 < 9900; omega
   refine ⟨fun a args us g σ σ' s v R hv e pt Q E q => ?_,fun a k args us g σ σ' s v hk R hv e => cls_ok Fa cf ff Ro co hk R hv e,fun a args σ r e => ?_⟩
   · exact wpAny_call (Uno Fa cf ff (by have:=Ro.depth; show _ < 1000; omega) Ro.handled Ro' (fun env => co A env (Ro' env)) R hv e pt fun u s' g' t R' hu => q _ _ _ t R' hu)
   · rw [callD] at e
     cases hf:lkN a C.P.fns with
     | none => rw [hf] at e; exact (Uaa e).elim
     | some f => exact Urg (ff a f hf)
end
end Mine
end
section
open PySem PySem.Calls PyProof.Rows PySem.W
namespace Mine
noncomputable def globOk (K:Frag) (P:Prog):Bool:=P.globs.all (fun p => nsIn K mainGlobals p.1 == some (some (.ref p.2))) &&
 ([(Y "len"),"ord","chr","range","list","tuple"]:List Str).all fun x => nsIn K mainGlobals x == some none
theorem lk_all {α:Type} {p:Str × α -> Bool} {x:Str} {v:α} {l:List (Str × α)} (h:l.all p = true) (e:lk x l = some v):p (x,v) = true:=List.all_eq_true.mp h _ (lk_mem e)
theorem boots:bootBuiltins "len" = some (.builtin "len") ∧ bootBuiltins "ord" = some (.builtin "ord") ∧ bootBuiltins "chr" = some (.builtin "chr") ∧ bootBuiltins "range" = some (.type "range") ∧ bootBuiltins "list" = some (.type "list") ∧ bootBuiltins "tuple" = some (.type "tuple"):=by
 refine ⟨?_,?_,?_,?_,?_,?_⟩ <;> decide +kernel
theorem Upi {p:Program} {loose:List Str} {mean:ExcName -> Option Value} {mg mb:Str -> Option Value} {prog:Program} {w:World} {h:Heap} {K:Frag} {P:Prog} (big:∃ b,sysModules < b ∧ h.get? b ≠ none)
   (T:Top p loose mean mg mb h) (X:K.In h) (hg:globOk K P = true):Facts ⟨prog,w,h,K,P,big⟩:=by
 delta globOk at hg
 rw [Bool.and_eq_true] at hg
 refine xAAAAAA boots fun b1 b2 b3 b4 b5 b6 => ?_
 have nn:∀ x ∈ ([(Y "len"),"ord","chr","range","list","tuple"]:List Str),mg x = none:=fun x hx => mg_none_of X T.g (beq_iff_eq.mp (List.all_eq_true.mp hg.2 x hx))
 refine ⟨X,T.nolimit,mg,mb,T.g,T.b,fun x a e => mg_of X T.g (beq_iff_eq.mp (lk_all hg.1 e)),fun x hx w0 => ?_,fun x hx w0 => ?_⟩
 · rcases hx with rfl | rfl | rfl
   · exact ⟨nn _ (by simp),(T.builtins _ (by decide)).trans (b1.trans (by decide +kernel))⟩
   · exact ⟨nn _ (by simp),(T.builtins _ (by decide)).trans (b2.trans (by decide +kernel))⟩
   · exact ⟨nn _ (by simp),(T.builtins _ (by decide)).trans (b3.trans (by decide +kernel))⟩
 · rcases hx with rfl | rfl | rfl
   · exact ⟨nn _ (by simp),(T.builtins _ (by decide)).trans (b4.trans (by decide +kernel))⟩
   · exact ⟨nn _ (by simp),(T.builtins _ (by decide)).trans (b5.trans (by decide +kernel))⟩
   · exact ⟨nn _ (by simp),(T.builtins _ (by decide)).trans (b6.trans (by decide +kernel))⟩
theorem VRs.ints {g:Gh} {h:Heap}:∀ {vs:List Value} {ns:List Int},IntsAre vs ns -> VRs g h (ns.map .int) vs
 | _,_,.nil => by simp [VRs]
 | _,_,.cons n t r => by simp only [List.map_cons,VRs]; exact ⟨_,_,rfl,VR.mkInt,VRs.ints r⟩
theorem Upe {p:Program} {loose:List Str} {mean:ExcName -> Option Value} {mg mb:Str -> Option Value} {prog:Program} {w:World} {K:Frag} {P:Prog} {A:Around} {B:Heap} {s:Shared} {d N:Nat} {a fa:Addr} {vs:List Value} {ns:List Int} {x:Str}
   {name:Str} {scope:Scope} {faV:Addr} {cd:Value} {body:List Stmt} {m:Str -> Option Value} {E:Value -> Shared -> Prop} {Q:Flow -> Shared -> Prop} {wd:List WData}
   (T:Top p loose mean mg mb B) (X:K.In B) (hg:globOk K P = true) (cf:∀ c k,lkN c P.clss = some k -> ClsFacts K c k) (ff:∀ a f,lkN a P.fns = some f -> FnIn K a f)
   (hA:A.handled = none) (hAd:A.depth + 2 * d + 2 < 1000) (hAu:A.units + 8 * d + 200 < 9900)
   (hl:B.IsList a vs.toArray) (hwl:Well w.params B (.ref a) (.list wd)) (hI:IntsAre vs ns) (h63:¬ ((63:Nat):Int) < (ns.length:Int)) (F:PyProof.Rows.Fr B B.objs.size s.heap m) (hm:m x = some (.ref a))
   (hfn:lkN fa P.fns = some ⟨[x],[],body,scope⟩) (hkind:scope.kind = .function) (hdb:∀ q ∈ scope.names,(q.1 == (Y "__debug__")) = false ∧ (q.1 == (Y "__classdict__")) = false) (hcell:∀ q ∈ scope.names,q.2 ≠ .cell)
   (hx:scope.names.lookup x = some .local) (pt:0 < s.toks)
   (hlaw:∀ ns:List Int,ns.length <= 63 -> ∃ σ',callD P (d + 1) fa [.lst (ns.map .int)] (List.replicate N []) = some (.bool true,σ'))
   (q:∀ s',(∀ b o,B.get? b = some o -> s'.heap.get? b = some o) -> s'.os = s.os -> s'.gens = s.gens -> Q (.ret (.bool true)) s') :
   wpAny (model prog w) A (execs body (envOf name scope B.objs.size faV cd)) Q E s:=by
 refine xEA (hlaw ns (by omega)) fun σ' e => ?_
 have big:∃ b,sysModules < b ∧ B.get? b ≠ none:=⟨mainGlobals,by decide,by refine xEEEAA T.g fun w0 w0 w0 q w0 => ?_; exact Uaf q⟩
 have Fa:Facts ⟨prog,w,B,K,P,big⟩:=Upi big T X hg
 have Ro:Room A d:=⟨hA,hAd,hAu⟩
 rw [callD,hfn] at e
 dsimp only at e
 have hb:bindP [x] [V.lst (ns.map .int)] [] = some [(x,.lst (ns.map .int))]:=rfl
 rw [hb] at e
 dsimp only at e
 refine bndE e fun fl σ₁ e1 e => ?_
 have hga:∃ n,B.get? a = some (lo vs.toArray n):=by
   refine xEAAEA hl fun o ho hc n hd => ?_
   cases hwl with
   | list h1 h2 => rw [h1] at ho; cases ho; cases hd; exact ⟨0,h1⟩
 refine xEA hga fun n hga => ?_
 have dL:B.get? B.objs.size = none:=Ube B
 have ns0:=F.ns
 have R:Rel ⟨prog,w,B,K,P,big⟩ ⟨fun w0 w0 => none,fun b => b = B.objs.size⟩ (List.replicate N []) s.heap:=by
   refine ⟨F.keep,fun b z => ?_,fun b z => ?_,fun b qq => xEEEA qq fun r i a p => (nomatch p),fun r i w0 => rfl,fun r i o h => ?_,fun r i r' i' a a' d p w0 => nomatch p⟩
   · subst z; exact ⟨dL,modules_low T.nolimit⟩
   · subst z; refine xEEEAA ns0 fun w0 w0 w0 q w0 => ?_; exact Uaf q
   · unfold Store.get at h
     split at h
     · rename_i l hl
       rw [List.getElem?_replicate] at hl
       split at hl
       · cases hl; simp at h
       · cases hl
     · cases h
 have hv:VR ⟨fun w0 w0 => none,fun b => b = B.objs.size⟩ s.heap (.lst (ns.map .int)) (.ref a):=by
   simp only [VR]
   exact ⟨a,vs.toArray,n,rfl,F.keep _ _ hga,(fun z => by rw [z,dL] at hga; cases hga),VRs.ints hI,by rw [List.length_map]; delta lim; omega⟩
 have S:ES scope (envOf name scope B.objs.size faV cd):=⟨fun w0 h => h,fun w0 h => h,fun w0 h => h⟩
 have Fr:FR ⟨fun w0 w0 => none,fun b => b = B.objs.size⟩ s.heap (envOf name scope B.objs.size faV cd) [(x,.lst (ns.map .int))]:=by
   have only:∀ y v,lk y [(x,V.lst (ns.map .int))] = some v -> y = x ∧ v = .lst (ns.map .int):=fun y v h => by
     simp only [lk] at h
     split at h
     · rename_i hb; cases h; exact ⟨(beq_iff_eq.mp hb).symm,rfl⟩
     · cases h
   refine ⟨hkind,rfl,rfl,hdb,rfl,fun qq => xEEEA qq fun r i a p => (nomatch p),⟨m,ns0,fun y v h w0 => ?_⟩,fun y v h => ?_,fun y c h => (nomatch h),fun y h => absurd rfl (hcell _ (mem_of_lookup h)),fun y z c h => nomatch h⟩
   · refine xAA (only y v h) fun qz1 qz2 => ?_; subst qz1; subst qz2; exact ⟨_,hm,hv⟩
   · refine xAA (only y v h) fun qz1 qz2 => ?_; subst qz1; subst qz2; exact .inl hx
 refine (st_all Fa cf hA (ev_all Fa cf Ro (Ukz Fa cf ff d A Ro)) 60).sts _ body _ _ _ σ₁ s fl S Fr R e1 pt Q E fun f s' g' t R' hf => ?_
 cases fl with
 | next fr' => cases e
 | ret v =>
   refine xEAA hf fun u qz1 hu => ?_; subst qz1
   cases e
   simp only [VR] at hu
   subst hu
   exact q s' R'.base t.os t.gens
end Mine
end
section
open PySem PySem.Calls PyProof.Rows PySem.W
namespace Mine
noncomputable def noDflt (fd:FuncData):Bool:=match fd.defaults with
 | .none => true
 | _ => false
noncomputable def fnsOk (K:Frag) (as:List Addr):Bool:=as.all fun a => (fdAt K a).any fun fd => fdOk K fd && noDflt fd
theorem FnIn.plain {K:Frag} {a:Addr} (h:(fdAt K a).any (fun fd => fdOk K fd && noDflt fd) = true):FnIn K a (fnAt K [] a):=by
 refine FnIn.of ?_ fun fd e => ?_
 · cases e:fdAt K a with
   | none => rw [e] at h; cases h
   | some fd => rw [e] at h; exact (Bool.and_eq_true _ _ ▸ h:_ ∧ _).1
 · rw [e] at h
   have h:=(Bool.and_eq_true _ _ ▸ h:fdOk K fd = true ∧ noDflt fd = true).2
   unfold noDflt at h
   split at h
   · rename_i hd; exact .inl ⟨hd,rfl⟩
   · cases h
theorem Un8 {K:Frag} {a:Addr} {f:Fn}:∀ {as:List Addr},lkN a (as.map fun a => (a,fnAt K [] a)) = some f -> a ∈ as ∧ f = fnAt K [] a
 | [],e => by simp [lkN] at e
 | b :: as,e => by
   rw [List.map_cons,lkN] at e
   split at e
   · rename_i h; cases e
     have:b = a:=Nat.eq_of_beq_eq_true h
     subst this
     exact ⟨List.mem_cons_self,rfl⟩
   · refine xAA (Un8 e) fun x y => ?_; exact ⟨List.mem_cons_of_mem _ x,y⟩
theorem fns_in {K:Frag} {i:Addr} {fi:Fn} {as:List Addr} (h:fnsOk K as = true) (hi:FnIn K i fi):∀ a f,lkN a ((i,fi) :: as.map fun a => (a,fnAt K [] a)) = some f -> FnIn K a f:=fun a f e => by
 rw [lkN] at e
 split at e
 · rename_i q; cases e
   have:i = a:=Nat.eq_of_beq_eq_true q
   subst this; exact hi
 · refine xAA (Un8 e) fun x qz1 => ?_; subst qz1
   exact FnIn.plain (List.all_eq_true.mp h _ x)
theorem Uny {α:Type} {a:Nat} {v:α}:∀ {l:List (Nat × α)},lkN a l = some v -> (a,v) ∈ l
 | (b,w) :: r,e => by
   rw [lkN] at e
   split at e
   · rename_i q; cases e
     have:b = a:=Nat.eq_of_beq_eq_true q
     subst this; exact List.mem_cons_self
   · exact List.mem_cons_of_mem _ (Uny e)
theorem cls_in {K:Frag} {l:List (Addr × Cls)} (h:l.all (fun p => clsOk K p.1 p.2) = true):∀ c k,lkN c l = some k -> ClsFacts K c k:=fun c k e => by
 have q:clsOk K c k = true:=List.all_eq_true.mp h (c,k) (Uny e)
 exact Ujl q
theorem FnIn.last {K:Frag} {a:Addr} {x:Str} {t:Tok} {fd:FuncData} (e:fdAt K a = some fd) (h:fdOk K fd = true) (o:sOk x = true) (l:x.length <= lim)
   (h1:∀ us:List Value,us.length = (argNames fd).length -> ∀ S,peek K S (bindArgs fd ⟨us,[]⟩) = some ((argNames fd).zip us))
   (h2:∀ us:List Value,us.length + 1 = (argNames fd).length -> ∀ S,peek K S (bindArgs fd ⟨us,[]⟩) = some ((argNames fd).zip (us ++ [.str x t]))):FnIn K a (fnAt K [.str x] a):=by
 refine FnIn.of (by rw [e]; exact h) fun fd' e' => ?_
 rw [e] at e'; cases e'
 exact .inr ⟨x,t,rfl,o,l,h1,h2⟩
theorem len1 {us:List Value} {n:Nat} (h:us.length = n + 1):∃ a r,us = a :: r ∧ r.length = n:=by
 cases us with
 | nil => cases h
 | cons a r => exact ⟨a,r,rfl,Nat.succ.inj h⟩
theorem len3' {us:List Value} (h:us.length = 3):∃ a b c,us = [a,b,c]:=by
 refine xEEAA (len1 h) fun a r1 qz1 h1 => ?_; subst qz1
 refine xEEAA (len1 h1) fun b r2 qz1 h2 => ?_; subst qz1
 refine xEEAA (len1 h2) fun c r3 qz1 h3 => ?_; subst qz1
 exact ⟨a,b,c,by rw [List.eq_nil_of_length_eq_zero h3]⟩
theorem len4 {us:List Value} (h:us.length = 4):∃ a b c d,us = [a,b,c,d]:=by
 refine xEEAA (len1 h) fun a r1 qz1 h1 => ?_; subst qz1
 refine xEEEA (len3' h1) fun b c d qz1 => ?_; subst qz1
 exact ⟨a,b,c,d,rfl⟩
theorem len3 {us:List Value} (h:us.length + 1 = 4):∃ a b c,us = [a,b,c]:=len3' (Nat.succ.inj h)
theorem Up6 {r:RowW} {cl:Str -> Option Addr} {mean:ExcName -> Option Value} {args:List WData} {s₁ s':Shared} (hr:r.raises = []) (hp:r.claim.post args (.bool true) args = true)
   (hk:∀ b o,s₁.heap.get? b = some o -> s'.heap.get? b = some o) (ho:s'.os = s₁.os) (hg:s'.gens = #[]):GoodW r.claim cl mean args s₁ (.ok (.ret (.bool true))) s' :=
 ⟨.inl ⟨_,.bool true,[],rfl,raisesW_false (fun ct h => by rw [hr] at h; cases h),.bool true,hp,unshared_nil⟩,hk,ho,hg⟩
end Mine
end
section
open PySem
namespace Mine
noncomputable def constO:Const -> Option V
 | .none => some .none
 | .bool b => some (.bool b)
 | .int i => some (.int i)
 | .str s => if s.cps.all (· < 0x110000) ∧ s.length <= lim then some (.str s) else none
 | _ => none
noncomputable def unFl:Fl -> M V
 | .ret v => ret v
 | .next _ => ret .none
noncomputable def unB:Fl -> M Bool
 | .ret (.bool b) => ret b
 | _ => fail
section
variable (P:Prog) (call:CC)
mutual
noncomputable def evalK:Nat -> Scope -> Fr -> Expr -> (V -> M Fl) -> M Fl
 | 0,_,_,_,_ => fail
 | n + 1,sc,fr,e,k => match e with
   | .Constant c _ _ => ob (constO c) k fail
   | .Name x _ => ob (nameO P sc fr x) k fail
   | .BoolOp op es _ => boolK n sc fr op es k
   | .BinOp l op r _ => evalK n sc fr l fun a => evalK n sc fr r fun b => bnd (look (binV op a b)) k
   | .UnaryOp op e _ => match op with
     | .Not => evalK n sc fr e fun a => ob (isT a) (fun b => k (.bool (!b))) fail
     | .USub => evalK n sc fr e fun a => ob (negV a) k fail
     | _ => fail
   | .IfExp t a b _ => testK n sc fr t fun c => if c then evalK n sc fr a k else evalK n sc fr b k
   | .Dict ks vs pos => if ks.length <= 15 ∧ 0 < ks.length then pairsK n sc fr ks vs fun es => bnd (mkDict P pos es) k else fail
   | .List es pos => evalEsK n sc fr es fun vs => bnd (mkList P pos vs) k
   | .Tuple es _ _ => evalEsK n sc fr es fun vs => if vs.length <= lim then k (.tup vs) else fail
   | .ListComp elt gens scope _ => ob (genV gens) (fun d => if notSet d.2.1 && compOk sc scope d.1 then evalK n sc fr d.2.1 fun o =>
       bnd (compK o (fun v => bnd (evalK n scope (setK d.1 v (compFr scope fr)) elt fun w => ret (.ret w)) unFl) (fun v => ifsE (fun fr' c => bnd (testK n scope fr' c fun b => ret (.ret (.bool b))) unB) d.2.2 (setK d.1 v (compFr scope fr))) 200 0 []) k else fail) fail
   | .Compare l ops rs _ => ob (shpV ops rs) (fun s => ob s.2.2
       (fun t => if notSet t.2 then evalK n sc fr l fun a => evalK n sc fr s.2.1 fun b => bnd (look (cmpV s.1 a b)) fun c =>
         if c then evalK n sc fr t.2 fun d => bnd (look (cmpV t.1 b d)) fun e => k (.bool e) else k (.bool false) else fail)
       (evalK n sc fr l fun a => evalK n sc fr s.2.1 fun b => bnd (look (cmpV s.1 a b)) fun c => k (.bool c))) fail
   | .Call f args kws p => calB (calV f kws)
     (fun o x ap => if callOk o args ap p then
         (if x == (Y "replace") then evalK n sc fr o fun ov => bnd (look (methK P ov x)) fun k' => if isRepl k' then bnd (replV ov args) k else fail
          else evalK n sc fr o fun ov => bnd (look (methK P ov x)) fun k' => if isRepl k' then fail else evalEsK n sc fr args fun as => bnd (methodV call k' ov as) k) else fail)
     (fun f q => if decide (args.length < 20) then evalK n sc fr (.Name f q) fun fv => evalEsK n sc fr args fun as => bnd (applyV P call fv as) k else fail) fail
   | .Attribute o x _ => if plainBase o then evalK n sc fr o fun ov => bnd (attrV P ov x) k else fail
   | .Subscript o i _ => ob (slcV i) (fun s => evalK n sc fr o fun ov => optK n sc fr s.1 fun a => optK n sc fr s.2.1 fun b => ob s.2.2
       (fun st => evalK n sc fr st fun c => bnd (look (stepV ov a b c)) k) (bnd (look (sliceV ov a b)) k))
     (evalK n sc fr o fun ov => evalK n sc fr i fun iv => bnd (look (itemV ov iv)) k)
   | _ => fail

noncomputable def optK:Nat -> Scope -> Fr -> Option Expr -> (Option V -> M Fl) -> M Fl
 | 0,_,_,_,_ => fail
 | _ + 1,_,_,none,k => k none
 | n + 1,sc,fr,some e,k => evalK n sc fr e fun v => k (some v)

noncomputable def evalEsK:Nat -> Scope -> Fr -> List Expr -> (List V -> M Fl) -> M Fl
 | 0,_,_,_,_ => fail
 | _ + 1,_,_,[],k => k []
 | n + 1,sc,fr,e :: r,k => evalK n sc fr e fun v => evalEsK n sc fr r fun vs => k (v :: vs)

noncomputable def pairsK:Nat -> Scope -> Fr -> List (Option Expr) -> List Expr -> (List (Str × V) -> M Fl) -> M Fl
 | 0,_,_,_,_,_ => fail
 | _ + 1,_,_,[],[],k => k []
 | n + 1,sc,fr,some q :: ks,e :: r,k => evalK n sc fr q fun
   | .str x => evalK n sc fr e fun v => pairsK n sc fr ks r fun vs => k ((x,v) :: vs)
   | _ => fail
 | _ + 1,_,_,_,_,_ => fail

noncomputable def boolK:Nat -> Scope -> Fr -> BoolOp -> List Expr -> (V -> M Fl) -> M Fl
 | 0,_,_,_,_,_ => fail
 | n + 1,sc,fr,_,[e],k => evalK n sc fr e k
 | n + 1,sc,fr,op,e :: r,k => evalK n sc fr e fun v => ob (isT v) (fun b => match op with
     | .And => cond b (boolK n sc fr op r k) (k v)
     | .Or => cond b (k v) (boolK n sc fr op r k)) fail
 | _ + 1,_,_,_,_,_ => fail

noncomputable def testK:Nat -> Scope -> Fr -> Expr -> (Bool -> M Fl) -> M Fl
 | 0,_,_,_,_ => fail
 | n + 1,sc,fr,e,k => tstB (tstV e) (fun e => testK n sc fr e fun b => k (!b)) (fun op es => testsK n sc fr op es k)
   (fun l s => ob s.2.2
     (fun t => if notSet t.2 then evalK n sc fr l fun a => evalK n sc fr s.2.1 fun b => bnd (look (cmpV s.1 a b)) fun c =>
       if c then evalK n sc fr t.2 fun d => bnd (look (cmpV t.1 b d)) k else k false else fail)
     (evalK n sc fr l fun a => evalK n sc fr s.2.1 fun b => bnd (look (cmpV s.1 a b)) k))
   (evalK n sc fr e fun v => ob (isT v) k fail) fail

noncomputable def testsK:Nat -> Scope -> Fr -> BoolOp -> List Expr -> (Bool -> M Fl) -> M Fl
 | 0,_,_,_,_,_ => fail
 | _ + 1,_,_,op,[],k => k (op == .And)
 | n + 1,sc,fr,op,e :: r,k => testK n sc fr e fun b => match op with
   | .And => cond b (testsK n sc fr op r k) (k false)
   | .Or => cond b (k true) (testsK n sc fr op r k)
end
variable (sc:Scope)
noncomputable def storeK (n:Nat) (fr:Fr) (v:V) (t:Expr) (k:Fr -> M Fl):M Fl:=match t with
 | .Name x _ => if setOk sc x then k (setK x v fr) else fail
 | .Attribute o x _ => evalK P call n sc fr o fun ov => bnd (setAttrV P ov x v) fun w0 => k fr
 | .Subscript o i _ => evalK P call n sc fr o fun ov => evalK P call n sc fr i fun iv => bnd (setItemV ov iv v) fun w0 => k fr
 | _ => fail
noncomputable def storesK (n:Nat):Fr -> List V -> List Expr -> (Fr -> M Fl) -> M Fl
 | fr,vs,[],k => match vs with
   | [] => k fr
   | _ :: _ => fail
 | fr,vs,t :: ts,k => match vs with
   | v :: vs => storeK P call sc n fr v t fun fr' => storesK n fr' vs ts k
   | [] => fail
termination_by structural _ _ ts => ts
noncomputable def execK:Nat -> Fr -> List Stmt -> (Fr -> M Fl) -> M Fl
 | 0,_,_,_ => fail
 | _ + 1,fr,[],k => k fr
 | 1,_,_ :: _,_ => fail
 | n + 2,fr,s :: r,k => match s with
   | .Expr e _ => if notComp e then evalK P call n sc fr e fun w0 => execK (n + 1) fr r k else fail
   | .Pass _ => execK (n + 1) fr r k
   | .Return e _ => match e with
     | some e => evalK P call n sc fr e fun v => ret (.ret v)
     | none => ret (.ret .none)
   | .Assign ts e _ => tgtB (tgtV ts)
     (fun ts => if tupOk e && nodupB (names ts) && decide (ts.length < 20) then evalK P call n sc fr e fun v => ob (tupV v) (fun vs => storesK P call sc n fr vs ts fun fr' => execK (n + 1) fr' r k) fail else fail)
     (fun t => evalK P call n sc fr e fun v => storeK P call sc n fr v t fun fr' => execK (n + 1) fr' r k) fail
   | .AugAssign t op e _ => ob (augT t) (fun z => evalK P call n sc fr z.1 fun ov => bnd (attrV P ov z.2) fun a => evalK P call n sc fr e fun b =>
       bnd (look (augV op a b)) fun v => bnd (setAttrV P ov z.2 v) fun w0 => execK (n + 1) fr r k) fail
   | .If t a b _ => testK P call n sc fr t fun c => if c then execK n fr a (fun fr' => execK (n + 1) fr' r k) else execK n fr b (fun fr' => execK (n + 1) fr' r k)
   | .While t a b _ => match b with
     | [] => bnd (loopW (fun fr => bnd (testK P call n sc fr t fun b => ret (.ret (.bool b))) unB) (fun fr => execK n fr a fun fr' => ret (.next fr')) 5000 fr) (goOn fun fr' => execK (n + 1) fr' r k)
     | _ => fail
   | .For t it a b _ => ob (forV t b) (fun x => if notSet it then evalK P call n sc fr it fun o =>
       bnd (loopF o (fun v fr => setVar sc x v fr) (fun fr => execK n fr a fun fr' => ret (.next fr')) 5000 0 fr) (goOn fun fr' => execK (n + 1) fr' r k) else fail) fail
   | _ => fail
end
noncomputable def bodyK (P:Prog) (call:CC) (f:Fn) (args:List V):M Fl:=match bindP f.params args f.dflts with
 | some fr => execK P call f.scope 60 fr f.body fun fr => ret (.next fr)
 | none => fail
noncomputable def callK (P:Prog):Nat -> CC
 | 0,_,_ => fail
 | d + 1,a,args => match lkN a P.fns with
   | some f => bnd (bodyK P (callK P d) f args) unFl
   | none => fail
end Mine
end
section
open PySem
namespace Mine
noncomputable def Le {α:Type} (m m':M α):Prop:=∀ σ r,m σ = some r -> m' σ = some r
section
variable {α β γ:Type}
theorem Le.rfl {m:M α}:Le m m:=fun w0 w0 h => h
theorem Le.trans {a b c:M α} (x:Le a b) (y:Le b c):Le a c:=fun σ r h => y σ r (x σ r h)
theorem Le.bnd {m m':M α} {k k':α -> M β} (x:Le m m') (y:∀ a,Le (k a) (k' a)):Le (bnd m k) (bnd m' k'):=fun σ r h => by
 refine bndE h fun a σ₁ h1 h2 => ?_
 delta Mine.bnd
 rw [x σ _ h1]
 exact y a _ _ h2
theorem Le.fail {m:M α}:Le (fail:M α) m:=fun w0 w0 h => (Unn h).elim
theorem Uak (m:M α) (k:α -> M β) (l:β -> M γ):bnd (bnd m k) l = bnd m fun a => bnd (k a) l:=by
 funext σ
 delta bnd
 cases m σ with
 | none => simp
 | some r => simp
theorem Uil (m:M α):bnd m ret = m:=by
 funext σ
 delta bnd ret
 cases m σ with
 | none => simp
 | some r => simp
theorem Le.ite {c:Prop} [Decidable c] {a b a' b':M α} (x:Le a a') (y:Le b b'):Le (if c then a else b) (if c then a' else b'):=by split <;> assumption
end
section
variable {P:Prog} {call call':CC} (hc:∀ a args,Le (call a args) (call' a args))
include hc
theorem Umm (f:V) (args:List V):Le (applyV P call f args) (applyV P call' f args):=by
 delta applyV
 split
 · exact Le.rfl
 · split
   · intro σ r h
     dsimp only at h ⊢
     split at h
     · exact Le.bnd (hc _ _) (fun w0 => Le.rfl) _ _ h
     · cases h
   · exact hc _ _
 · exact Le.rfl
theorem Ukx (k:MK) (o:V) (args:List V):Le (methodV call k o args) (methodV call' k o args):=by
 delta methodV
 split
 · exact hc _ _
 · exact Le.rfl
end
end Mine
end
section
open PySem
namespace Mine
section
variable {α β γ:Type}
theorem Le.unFl {X:M Fl} {m:M V} (h:Le X (Mine.bnd m fun w => ret (.ret w))):Le (Mine.bnd X Mine.unFl) m:=by
 refine (Le.bnd h fun w0 => Le.rfl).trans ?_
 rw [Uak]
 have:(fun a => Mine.bnd (ret (Fl.ret a)) Mine.unFl) = (ret:V -> M V):=by funext a; rfl
 rw [this,Uil]; exact Le.rfl
theorem Le.unB {X:M Fl} {m:M Bool} (h:Le X (Mine.bnd m fun b => ret (.ret (.bool b)))):Le (Mine.bnd X Mine.unB) m:=by
 refine (Le.bnd h fun w0 => Le.rfl).trans ?_
 rw [Uak]
 have:(fun a => Mine.bnd (ret (Fl.ret (.bool a))) Mine.unB) = (ret:Bool -> M Bool):=by funext a; rfl
 rw [this,Uil]; exact Le.rfl
theorem Le.bb {m:M α} {n:α -> M γ} {k:γ -> M β} {Z:M β} {Y:α -> M β} (h:Le Z (Mine.bnd m Y)) (y:∀ a,Le (Y a) (Mine.bnd (n a) k)):Le Z (Mine.bnd (Mine.bnd m n) k):=by
 rw [Uak]; exact h.trans (Le.bnd Le.rfl y)
theorem Le.b1 {m:M α} {k k':α -> M β} (y:∀ a,Le (k a) (k' a)):Le (Mine.bnd m k) (Mine.bnd m k'):=Le.bnd Le.rfl y
theorem Le.bl {m:M α} {n:α -> M γ} {k:γ -> M β} {Y:α -> M β} (y:∀ a,Le (Y a) (Mine.bnd (n a) k)):Le (Mine.bnd m Y) (Mine.bnd (Mine.bnd m n) k):=Le.bb Le.rfl y
theorem Le.re {a:α} {k:α -> M β}:Le (k a) (Mine.bnd (ret a) k):=Le.rfl
theorem Le.it {c:Prop} [Decidable c] {a b:M β} {a' b':M α} {k:α -> M β} (x:Le a (Mine.bnd a' k)) (y:Le b (Mine.bnd b' k)):Le (if c then a else b) (Mine.bnd (if c then a' else b') k):=by split <;> assumption
theorem Le.itf {c:Prop} [Decidable c] {a:M β} {a':M α} {k:α -> M β} (x:c -> Le a (Mine.bnd a' k)):Le (if c then a else Mine.fail) (Mine.bnd (if c then a' else Mine.fail) k):=by
 split
 · exact x (by assumption)
 · exact Le.fail
theorem Le.li {x:Option α} {k:α -> M β} {Z:α -> M β} (h:∀ a,Le (Z a) (k a)):Le (ob x Z Mine.fail) (Mine.bnd (lift x) k):=by
 cases x with
 | none => exact Le.fail
 | some a => exact h a
theorem Umz (c:Const):constV c = lift (constO c):=by
 cases c <;> try rfl
 delta constV constO
 dsimp only
 split <;> rfl
theorem Ukw {o:V} {elt elt':V -> M V} {test test':V -> M Bool} (h1:∀ v,Le (elt v) (elt' v)) (h2:∀ v,Le (test v) (test' v)):∀ n k acc,Le (compK o elt test n k acc) (compK o elt' test' n k acc)
 | 0,_,_ => Le.rfl
 | n + 1,k,acc => Le.bnd Le.rfl fun r => by
   cases r with
   | none => exact Le.rfl
   | some v => exact Le.bnd (h2 _) fun b => Le.ite (Le.bnd (h1 _) fun w => Le.ite (Ukw h1 h2 n _ _) Le.rfl) (Ukw h1 h2 n _ _)
end
section
variable {P:Prog} {call call':CC}
structure EvK (P:Prog) (call call':CC) (n:Nat):Prop where
 ev:∀ sc fr e k,Le (evalK P call n sc fr e k) (bnd (evalE P call' n sc fr e) k)
 opt:∀ sc fr e k,Le (optK P call n sc fr e k) (bnd (optE P call' n sc fr e) k)
 evs:∀ sc fr e k,Le (evalEsK P call n sc fr e k) (bnd (evalEs P call' n sc fr e) k)
 pairs:∀ sc fr ks e k,Le (pairsK P call n sc fr ks e k) (bnd (pairsE P call' n sc fr ks e) k)
 bool:∀ sc fr op e k,Le (boolK P call n sc fr op e k) (bnd (boolE P call' n sc fr op e) k)
 test:∀ sc fr e k,Le (testK P call n sc fr e k) (bnd (testE P call' n sc fr e) k)
 tests:∀ sc fr op e k,Le (testsK P call n sc fr op e k) (bnd (testsE P call' n sc fr op e) k)
variable {n:Nat} {sc:Scope} {fr:Fr}
theorem Usn {c:Const} {k:V -> M Fl}:Le (ob (constO c) k Mine.fail) (bnd (constV c) k):=by
 rw [Umz]; exact Le.li fun w0 => Le.rfl
theorem k_comp (ih:EvK P call call' n) {d:Str × Expr × List Expr} {elt:Expr} {scope:Scope} {k:V -> M Fl}:Le (if notSet d.2.1 && compOk sc scope d.1 then evalK P call n sc fr d.2.1 fun o =>
       bnd (compK o (fun v => bnd (evalK P call n scope (setK d.1 v (compFr scope fr)) elt fun w => ret (.ret w)) unFl) (fun v => ifsE (fun fr' c => bnd (testK P call n scope fr' c fun b => ret (.ret (.bool b))) unB) d.2.2 (setK d.1 v (compFr scope fr))) 200 0 []) k else fail)
   (bnd (if notSet d.2.1 && compOk sc scope d.1 then bnd (evalE P call' n sc fr d.2.1) fun o =>
       compK o (fun v => evalE P call' n scope (setK d.1 v (compFr scope fr)) elt) (fun v => ifsE (fun fr' c => testE P call' n scope fr' c) d.2.2 (setK d.1 v (compFr scope fr))) 200 0 [] else fail) k):=by
 refine Le.itf fun w0 => Le.bb (ih.ev _ _ _ _) fun o => Le.bnd (Ukw (fun v => (ih.ev _ _ _ _).unFl) (fun v => ?_) _ _ _) fun w0 => Le.rfl
 delta ifsE
 rcases d.2.2 with _ | ⟨c,_ | _⟩
 · exact Le.rfl
 · exact (ih.test _ _ _ _).unB
 · exact Le.fail
theorem k_cmp (ih:EvK P call call' n) {s:Shp} {l:Expr} {k:V -> M Fl}:Le (ob s.2.2
       (fun t => if notSet t.2 then evalK P call n sc fr l fun a => evalK P call n sc fr s.2.1 fun b => bnd (look (cmpV s.1 a b)) fun c =>
         if c then evalK P call n sc fr t.2 fun d => bnd (look (cmpV t.1 b d)) fun e => k (.bool e) else k (.bool false) else fail)
       (evalK P call n sc fr l fun a => evalK P call n sc fr s.2.1 fun b => bnd (look (cmpV s.1 a b)) fun c => k (.bool c)))
   (bnd (bnd (evalE P call' n sc fr l) fun a => bnd (evalE P call' n sc fr s.2.1) fun b => bnd (look (cmpV s.1 a b)) fun c => ob s.2.2
     (fun t => if c then (if notSet t.2 then bnd (evalE P call' n sc fr t.2) fun d => bnd (look (cmpV t.1 b d)) fun e => ret (.bool e) else fail) else (if notSet t.2 then ret (.bool false) else fail)) (ret (.bool c))) k):=by
 rcases s with ⟨op,r,_ | ⟨op2,r2⟩⟩
 · exact Le.bb (ih.ev _ _ _ _) fun a => Le.bb (ih.ev _ _ _ _) fun b => Le.bl fun c => Le.rfl
 · show Le (if notSet r2 = true then _ else Mine.fail) (bnd (bnd _ fun a => bnd _ fun b => bnd _ fun c => if c = true then (if notSet r2 = true then _ else Mine.fail) else (if notSet r2 = true then _ else Mine.fail)) k)
   generalize notSet r2 = z
   cases z with
   | false => exact Le.fail
   | true => exact Le.bb (ih.ev _ _ _ _) fun a => Le.bb (ih.ev _ _ _ _) fun b => Le.bl fun c => Le.it (Le.bb (ih.ev _ _ _ _) fun d => Le.bl fun e => Le.rfl) Le.rfl
theorem k_tcmp (ih:EvK P call call' n) {s:Shp} {l:Expr} {k:Bool -> M Fl}:Le (ob s.2.2
     (fun t => if notSet t.2 then evalK P call n sc fr l fun a => evalK P call n sc fr s.2.1 fun b => bnd (look (cmpV s.1 a b)) fun c =>
       if c then evalK P call n sc fr t.2 fun d => bnd (look (cmpV t.1 b d)) k else k false else fail)
     (evalK P call n sc fr l fun a => evalK P call n sc fr s.2.1 fun b => bnd (look (cmpV s.1 a b)) k))
   (bnd (bnd (evalE P call' n sc fr l) fun a => bnd (evalE P call' n sc fr s.2.1) fun b => bnd (look (cmpV s.1 a b)) fun c => ob s.2.2
     (fun t => if c then (if notSet t.2 then bnd (evalE P call' n sc fr t.2) fun d => look (cmpV t.1 b d) else fail) else (if notSet t.2 then ret false else fail)) (ret c)) k):=by
 rcases s with ⟨op,r,_ | ⟨op2,r2⟩⟩
 · exact Le.bb (ih.ev _ _ _ _) fun a => Le.bb (ih.ev _ _ _ _) fun b => Le.bl fun c => Le.rfl
 · show Le (if notSet r2 = true then _ else Mine.fail) (bnd (bnd _ fun a => bnd _ fun b => bnd _ fun c => if c = true then (if notSet r2 = true then _ else Mine.fail) else (if notSet r2 = true then _ else Mine.fail)) k)
   generalize notSet r2 = z
   cases z with
   | false => exact Le.fail
   | true => exact Le.bb (ih.ev _ _ _ _) fun a => Le.bb (ih.ev _ _ _ _) fun b => Le.bl fun c => Le.it (Le.bb (ih.ev _ _ _ _) fun d => Le.rfl) Le.rfl
theorem k_meth (hc:∀ a args,Le (call a args) (call' a args)) (ih:EvK P call call' n) {o:Expr} {x:Str} {args:List Expr} {c:Prop} [Decidable c] {k:V -> M Fl}:Le (if c then
         (if x == (Y "replace") then evalK P call n sc fr o fun ov => bnd (look (methK P ov x)) fun k' => if isRepl k' then bnd (replV ov args) k else fail
          else evalK P call n sc fr o fun ov => bnd (look (methK P ov x)) fun k' => if isRepl k' then fail else evalEsK P call n sc fr args fun as => bnd (methodV call k' ov as) k) else fail)
   (bnd (if c then bnd (evalE P call' n sc fr o) fun ov => bnd (look (methK P ov x)) fun k => if isRepl k then replV ov args else bnd (evalEs P call' n sc fr args) fun as => methodV call' k ov as else fail) k):=by
 refine Le.itf fun w0 => ?_
 cases x == (Y "replace") with
 | true => exact Le.bb (ih.ev _ _ _ _) fun ov => Le.bl fun q => Le.it Le.rfl Le.fail
 | false => exact Le.bb (ih.ev _ _ _ _) fun ov => Le.bl fun q => Le.it Le.fail (Le.bb (ih.evs _ _ _ _) fun as => Le.bnd (Ukx hc _ _ _) fun w0 => Le.rfl)
theorem k_name (hc:∀ a args,Le (call a args) (call' a args)) (ih:EvK P call call' n) {e:Expr} {args:List Expr} {c:Prop} [Decidable c] {k:V -> M Fl}:Le (if c then evalK P call n sc fr e fun fv => evalEsK P call n sc fr args fun as => bnd (applyV P call fv as) k else fail)
   (bnd (if c then bnd (evalE P call' n sc fr e) fun fv => bnd (evalEs P call' n sc fr args) fun as => applyV P call' fv as else fail) k) :=
 Le.itf fun w0 => Le.bb (ih.ev _ _ _ _) fun fv => Le.bb (ih.evs _ _ _ _) fun as => Le.bnd (Umm hc _ _) fun w0 => Le.rfl
theorem k_slc (ih:EvK P call call' n) {o:Expr} {s:Option Expr × Option Expr × Option Expr} {k:V -> M Fl}:Le (evalK P call n sc fr o fun ov => optK P call n sc fr s.1 fun a => optK P call n sc fr s.2.1 fun b => ob s.2.2
       (fun st => evalK P call n sc fr st fun c => bnd (look (stepV ov a b c)) k) (bnd (look (sliceV ov a b)) k))
   (bnd (bnd (evalE P call' n sc fr o) fun ov => bnd (optE P call' n sc fr s.1) fun a => bnd (optE P call' n sc fr s.2.1) fun b => ob s.2.2
       (fun st => bnd (evalE P call' n sc fr st) fun c => look (stepV ov a b c)) (look (sliceV ov a b))) k):=by
 refine Le.bb (ih.ev _ _ _ _) fun ov => Le.bb (ih.opt _ _ _ _) fun a => Le.bb (ih.opt _ _ _ _) fun b => ?_
 cases s.2.2 with
 | none => exact Le.rfl
 | some st => exact Le.bb (ih.ev _ _ _ _) fun c => Le.rfl
theorem k_ev (hc:∀ a args,Le (call a args) (call' a args)) (ih:EvK P call call' n) (e:Expr) (k:V -> M Fl):Le (evalK P call (n + 1) sc fr e k) (bnd (evalE P call' (n + 1) sc fr e) k):=by
 cases e with
 | Constant c q p => exact Usn
 | Name x p => exact Le.li fun w0 => Le.rfl
 | BoolOp op es p => exact ih.bool _ _ _ _ _
 | BinOp l op r p => exact Le.bb (ih.ev _ _ _ _) fun a => Le.bb (ih.ev _ _ _ _) fun b => Le.rfl
 | UnaryOp op e p => cases op with
   | Not => exact Le.bb (ih.ev _ _ _ _) fun a => Le.bb (Le.li fun w0 => Le.rfl) fun b => Le.re
   | USub => exact Le.bb (ih.ev _ _ _ _) fun a => Le.li fun w0 => Le.rfl
   | _ => exact Le.fail
 | IfExp t a b p => exact Le.bb (ih.test _ _ _ _) fun c => Le.it (ih.ev _ _ _ _) (ih.ev _ _ _ _)
 | Dict ks vs p => exact Le.itf fun w0 => Le.bb (ih.pairs _ _ _ _ _) fun w0 => Le.rfl
 | List es p => exact Le.bb (ih.evs _ _ _ _) fun w0 => Le.rfl
 | Tuple es q p => exact Le.bb (ih.evs _ _ _ _) fun vs => Le.itf fun w0 => Le.re
 | ListComp elt gens scope p => exact Le.bb (Le.li fun w0 => Le.rfl) fun d => k_comp ih
 | Compare l ops rs p => exact Le.bb (Le.li fun w0 => Le.rfl) fun s => k_cmp ih
 | Call f args kws p =>
   show Le (calB (calV f kws) _ _ _) (bnd (calB (calV f kws) _ _ _) k)
   cases calV f kws with
   | m o x ap => exact k_meth hc ih
   | n f q => exact k_name hc ih
   | bad => exact Le.fail
 | Attribute o x p => exact Le.itf fun w0 => Le.bb (ih.ev _ _ _ _) fun w0 => Le.rfl
 | Subscript o i p =>
   show Le (ob (slcV i) _ _) (bnd (ob (slcV i) _ _) k)
   cases slcV i with
   | some s => exact k_slc ih
   | none => exact Le.bb (ih.ev _ _ _ _) fun w0 => Le.bb (ih.ev _ _ _ _) fun w0 => Le.rfl
 | _ => exact Le.fail
theorem Usf (ih:EvK P call call' n):∀ (ks:List (Option Expr)) (es:List Expr) (k:List (Str × V) -> M Fl),Le (pairsK P call (n + 1) sc fr ks es k) (bnd (pairsE P call' (n + 1) sc fr ks es) k)
 | [],[],k => Le.re
 | some q :: ks,e :: r,k => Le.bb (ih.ev _ _ _ _) fun v => match v with
   | .str x => Le.bb (ih.ev _ _ _ _) fun w0 => Le.bb (ih.pairs _ _ _ _ _) fun w0 => Le.re
   | .none => Le.fail | .bool _ => Le.fail | .int _ => Le.fail | .tup _ => Le.fail | .lst _ => Le.fail | .rng .. => Le.fail | .ref .. => Le.fail | .fn _ => Le.fail | .bi _ => Le.fail
 | [],_ :: _,k => Le.fail
 | some _ :: _,[],k => Le.fail
 | none :: _,[],k => Le.fail
 | none :: _,_ :: _,k => Le.fail
theorem k_bool (ih:EvK P call call' n) (op:BoolOp):∀ (es:List Expr) (k:V -> M Fl),Le (boolK P call (n + 1) sc fr op es k) (bnd (boolE P call' (n + 1) sc fr op es) k)
 | [],k => Le.fail
 | [e],k => ih.ev _ _ _ _
 | e :: e2 :: r,k => Le.bb (ih.ev _ _ _ _) fun v => by
   cases h:isT v with
   | none => exact Le.fail
   | some b =>
     cases op <;> cases b
     · exact Le.re
     · exact ih.bool _ _ _ _ _
     · exact ih.bool _ _ _ _ _
     · exact Le.re
theorem k_test (ih:EvK P call call' n) (e:Expr) (k:Bool -> M Fl):Le (testK P call (n + 1) sc fr e k) (bnd (testE P call' (n + 1) sc fr e) k):=by
 show Le (tstB (tstV e) _ _ _ _ _) (bnd (tstB (tstV e) _ _ _ _ _) k)
 cases tstV e with
 | no e => exact Le.bb (ih.test _ _ _ _) fun w0 => Le.re
 | bool op es => exact ih.tests _ _ _ _ _
 | bad => exact Le.fail
 | cmp l s => exact k_tcmp ih
 | plain => exact Le.bb (ih.ev _ _ _ _) fun v => Le.li fun w0 => Le.rfl
theorem Usj (ih:EvK P call call' n) (op:BoolOp):∀ (es:List Expr) (k:Bool -> M Fl),Le (testsK P call (n + 1) sc fr op es k) (bnd (testsE P call' (n + 1) sc fr op es) k)
 | [],k => Le.re
 | e :: r,k => Le.bb (ih.test _ _ _ _) fun b => by
   cases op <;> cases b
   · exact Le.re
   · exact ih.tests _ _ _ _ _
   · exact ih.tests _ _ _ _ _
   · exact Le.re
theorem evK (hc:∀ a args,Le (call a args) (call' a args)):∀ n,EvK P call call' n
 | 0 => ⟨fun w0 w0 w0 w0 => Le.fail,fun w0 w0 w0 w0 => Le.fail,fun w0 w0 w0 w0 => Le.fail,fun w0 w0 w0 w0 w0 => Le.fail,fun w0 w0 w0 w0 w0 => Le.fail,fun w0 w0 w0 w0 => Le.fail,fun w0 w0 w0 w0 w0 => Le.fail⟩
 | n + 1 => by
   have ih:=evK hc n
   refine ⟨fun sc fr e k => k_ev hc ih e k,fun sc fr e k => ?_,fun sc fr es k => ?_,fun sc fr ks es k => Usf ih ks es k,fun sc fr op es k => k_bool ih op es k,fun sc fr e k => k_test ih e k,fun sc fr op es k => Usj ih op es k⟩
   · cases e with
     | none => exact Le.re
     | some e => exact Le.bb (ih.ev _ _ _ _) fun w0 => Le.re
   · cases es with
     | nil => exact Le.re
     | cons e r => exact Le.bb (ih.ev _ _ _ _) fun w0 => Le.bb (ih.evs _ _ _ _) fun w0 => Le.re
end
end Mine
end
section
open PySem
namespace Mine
section
variable {P:Prog} {call call':CC} {sc:Scope}
theorem Ukg (hc:∀ a args,Le (call a args) (call' a args)) {n:Nat} {fr:Fr} {v:V} {t:Expr} {k:Fr -> M Fl}:Le (storeK P call sc n fr v t k) (bnd (assignE P call' sc n fr v t) k):=by
 have ih:=evK (P:=P) hc n
 cases t with
 | Name x _ => exact Le.itf fun w0 => Le.re
 | Attribute o x _ => exact Le.bb (ih.ev _ _ _ _) fun ov => Le.bl fun w0 => Le.re
 | Subscript o i _ => exact Le.bb (ih.ev _ _ _ _) fun ov => Le.bb (ih.ev _ _ _ _) fun iv => Le.bl fun w0 => Le.re
 | _ => exact Le.fail
theorem Uiw (hc:∀ a args,Le (call a args) (call' a args)) {n:Nat}:∀ {ts:List Expr} {fr:Fr} {vs:List V} {k:Fr -> M Fl},Le (storesK P call sc n fr vs ts k) (bnd (assignEs P call' sc n fr vs ts) k)
 | [],fr,[],k => Le.re
 | [],fr,_ :: _,k => Le.fail
 | t :: ts,fr,[],k => Le.fail
 | t :: ts,fr,v :: vs,k => by
   show Le (storeK P call sc n fr v t fun fr' => storesK P call sc n fr' vs ts k) _
   exact Le.bb (Ukg hc) fun fr' => Uiw hc
theorem Ukd {t t':Fr -> M Bool} {b b':Fr -> M Fl} (h1:∀ fr,Le (t fr) (t' fr)) (h2:∀ fr,Le (b fr) (b' fr)):∀ n fr,Le (loopW t b n fr) (loopW t' b' n fr)
 | 0,fr => by exact Le.fail
 | n + 1,fr => by
   show Le (bnd (t fr) fun c => if c = true then _ else _) (bnd (t' fr) fun c => if c = true then _ else _)
   refine Le.bnd (h1 _) fun c => Le.ite (Le.bnd (h2 _) fun fl => ?_) Le.rfl
   cases fl with
   | next fr' => exact Ukd h1 h2 n fr'
   | ret v => exact Le.rfl
theorem Uk1 {o:V} {s:V -> Fr -> M Fr} {b b':Fr -> M Fl} (h2:∀ fr,Le (b fr) (b' fr)):∀ n k fr,Le (loopF o s b n k fr) (loopF o s b' n k fr)
 | 0,k,fr => by exact Le.fail
 | n + 1,k,fr => by
   refine Le.bnd Le.rfl fun r => ?_
   cases r with
   | none => exact Le.rfl
   | some v =>
     refine Le.bnd Le.rfl fun fr₁ => Le.bnd (h2 _) fun fl => ?_
     cases fl with
     | next fr' => exact Uk1 h2 n _ fr'
     | ret v => exact Le.rfl
theorem Le.seq {X:M Fl} {m:M Fl} {f:Fr -> M Fl} {k:Fr -> M Fl} (h:Le X (Mine.bnd m (goOn fun fr' => Mine.bnd (f fr') (goOn k)))):Le X (Mine.bnd (Mine.bnd m (goOn f)) (goOn k)):=by
 rw [Uak]
 have:(fun a => Mine.bnd (goOn f a) (goOn k)) = goOn fun fr' => Mine.bnd (f fr') (goOn k):=by
   funext fl; cases fl <;> rfl
 rw [this]; exact h
theorem Ule:(goOn fun fr' => ret (.next fr')) = (ret:Fl -> M Fl):=by
 funext fl; cases fl <;> rfl
theorem x_stmt (hc:∀ a args,Le (call a args) (call' a args)) {n:Nat} (ex:∀ fr ss k,Le (execK P call sc n fr ss k) (bnd (execSs P call' sc n fr ss) (goOn k))) {fr:Fr} {s:Stmt} {r:List Stmt} {k:Fr -> M Fl} {G:Fr -> M Fl}
   (rest:∀ fr',Le (execK P call sc (n + 1) fr' r k) (G fr')):Le (execK P call sc (n + 2) fr (s :: r) k) (bnd (execS P call' sc (n + 1) fr s) (goOn G)):=by
 have ih:=evK (P:=P) hc n
 have goes:∀ (fl:Fl),Le (goOn (fun fr' => execK P call sc (n + 1) fr' r k) fl) (goOn G fl):=fun fl => by
   cases fl with
   | next fr' => exact rest fr'
   | ret v => exact Le.rfl
 have body:∀ fr ss,Le (execK P call sc n fr ss fun fr' => ret (.next fr')) (execSs P call' sc n fr ss):=fun fr ss => by
   have:=ex fr ss (fun fr' => ret (.next fr'))
   rw [Ule,Uil] at this
   exact this
 cases s with
 | Expr e p => exact Le.itf fun w0 => Le.bb (ih.ev _ _ _ _) fun w0 => rest fr
 | Pass p => exact rest fr
 | Return e p => cases e with
   | none => exact Le.re
   | some e => exact Le.bb (ih.ev _ _ _ _) fun w0 => Le.re
 | Assign ts e p =>
   show Le (tgtB (tgtV ts) _ _ _) (bnd (tgtB (tgtV ts) _ _ _) _)
   cases tgtV ts with
   | tup ts => exact Le.itf fun w0 => Le.bb (ih.ev _ _ _ _) fun v => Le.bb (Le.li fun w0 => Le.rfl) fun vs => Le.bb (Uiw hc) fun fr' => rest fr'
   | one t => exact Le.bb (ih.ev _ _ _ _) fun v => Le.bb (Ukg hc) fun fr' => rest fr'
   | bad => exact Le.fail
 | AugAssign t op e p =>
   show Le (ob (augT t) _ _) (bnd (ob (augT t) _ _) _)
   cases augT t with
   | none => exact Le.fail
   | some z => exact Le.bb (ih.ev _ _ _ _) fun ov => Le.bl fun a => Le.bb (ih.ev _ _ _ _) fun b => Le.bl fun v => Le.bl fun w0 => rest fr
 | If t a b p => exact Le.bb (ih.test _ _ _ _) fun c => Le.it ((ex fr a _).trans (Le.bnd Le.rfl goes)) ((ex fr b _).trans (Le.bnd Le.rfl goes))
 | While t a b p => cases b with
   | nil => exact Le.bnd (Ukd (fun fr => (ih.test _ _ _ _).unB) (fun fr => body fr a) _ _) goes
   | cons _ _ => exact Le.fail
 | For t it a b p =>
   show Le (ob (forV t b) _ _) (bnd (ob (forV t b) _ _) _)
   cases forV t b with
   | none => exact Le.fail
   | some x => exact Le.itf fun w0 => Le.bb (ih.ev _ _ _ _) fun o => Le.bnd (Uk1 (fun fr => body fr a) _ _ _) goes
 | _ => exact Le.fail
theorem Uka (hc:∀ a args,Le (call a args) (call' a args)):∀ n fr ss k,Le (execK P call sc n fr ss k) (bnd (execSs P call' sc n fr ss) (goOn k))
 | 0,fr,ss,k => Le.fail
 | 1,fr,[],k => Le.re
 | n + 2,fr,[],k => Le.re
 | 1,fr,s :: r,k => Le.fail
 | n + 2,fr,s :: r,k => Le.seq (x_stmt hc (Uka hc n) fun fr' => Uka hc (n + 1) fr' r k)
theorem Uke:∀ d a args,Le (callK P d a args) (callD P d a args)
 | 0,a,args => Le.fail
 | d + 1,a,args => by
   rw [callK,callD]
   cases lkN a P.fns with
   | none => exact Le.fail
   | some f =>
     dsimp only
     delta bodyK
     cases bindP f.params args f.dflts with
     | none => exact Le.fail
     | some fr =>
       have h:=Uka (P:=P) (sc:=f.scope) (Uke d) 60 fr f.body (fun fr => ret (.next fr))
       rw [Ule,Uil] at h
       refine Le.bnd h fun fl => ?_
       cases fl <;> exact Le.rfl
end
end Mine
end
section
open PySem PySem.W
namespace Mine
noncomputable def newL (r:Nat) (vs:List V):M V:=fun σ => match σ[r]? with
 | some l => some (.ref r l.length,σ.add r (.list vs))
 | none => none
noncomputable def newD (r:Nat) (es:List (Str × V)):M V:=fun σ => match σ[r]? with
 | some l => some (.ref r l.length,σ.add r (.dict es))
 | none => none
noncomputable def replS (o:V) (a b:Str):M V:=replV o [.Constant (.str a) 0 ⟨0,0,0,0⟩,.Constant (.str b) 0 ⟨0,0,0,0⟩]
noncomputable def stAt (ss:List Stmt) (i:Nat):Stmt:=match ss.drop i with
 | s :: _ => s
 | [] => .Pass ⟨0,0,0,0⟩
noncomputable def inner:Stmt -> List Stmt
 | .If _ a _ _ => a
 | .While _ a _ _ => a
 | .For _ _ a _ _ => a
 | _ => []
noncomputable def others:Stmt -> List Stmt
 | .If _ _ b _ => b
 | _ => []
noncomputable def testE':Stmt -> Expr
 | .While t _ _ _ => t
 | _ => .Constant .none 0 ⟨0,0,0,0⟩
noncomputable def setL (sc:Scope) (x:Str) (v:V) (fr:Fr):M Fr:=setVar sc x v fr
noncomputable def turnL (P:Prog) (c:CC) (sc:Scope) (n:Nat) (s:Stmt) (fr:Fr):M Fl:=execK P c sc n fr (inner s) fun fr' => ret (.next fr')
noncomputable def testL (P:Prog) (c:CC) (sc:Scope) (n:Nat) (s:Stmt) (fr:Fr):M Bool:=bnd (testK P c n sc fr (testE' s) fun b => ret (.ret (.bool b))) unB
end Mine
end
section
open PySem PySem.Calls PyProof.Rows PySem.W
namespace Mine
theorem Urr {tb:String -> Option Builtin} {p:Program} {w:World} {n:Nat} {ann:Option Value} (s:Shared) (c:Code) (pos q:Pos):topRun tb p w n ann 2 s ⟨doneF .next,c,pos,[topFrame q]⟩ = some s:=by
 cases s; rfl
noncomputable def bootS (w:World) (os:OsState):Shared:=⟨boot_heap w.params,#[],boot_drawn,boot_toks,os⟩
noncomputable def lookOk (p:Program) (h:Heap) (s:Shared):Bool:=staticsOk (importedModules p.main.body) h s.heap && namesBound p s.heap && gensDone s && laidKept h s.heap
noncomputable abbrev SegT:=(String -> Option Builtin) -> Program -> World -> Nat -> Option Value -> Nat -> Nat -> SharedT -> Thread -> Option (Flow × SharedT × Code × Pos)
section
variable {p q:Program} {loose:List Str} {Xt:Shared -> Bool} {α:Type} {Yf:Shared -> α} {Ya:World -> α} {N m n:Nat} {ann:Option Value} {env:Env} {c:Code} {pos pos' q0:Pos} {Sa:World -> OsState -> Shared} {Sb:World -> OsState -> SharedT}
theorem sh_eq {s:Shared} {a:Heap} {b:Array GenState} {c:Drawn} {d:Nat} (h:(s.heap,s.gens,s.drawn,s.toks) = (a,b,c,d)):s = ⟨a,b,c,d,s.os⟩:=by cases s; cases h; rfl
theorem Uqb {w:World} {os:OsState} {r:SharedT} {p1:Pos} (pre:topGo treeTable p w m ann 12 (bootS w os) (topStub p) = some (Sa w os,⟨denote treeTable (.body (behindTheImports p) env),c,pos,[topFrame q0]⟩))
   (blk:segRun treeTable p w m ann 1 1 (Sa w os) (blockOf (behindTheImports p) env c pos [topFrame q0]) = some (.next,(Sb w os).abs,c,pos'))
   (er:segRunT treeTable p w m ann 1 n (Sb w os) (piecesOf (behindTheImports p) env c pos' [topFrame q0]) = some (.next,r,c,p1)) (le:Nat.ble (12 + (1 + (n + 2))) N = true):topRun treeTable p w m ann N (bootS w os) (topStub p) = some r.abs:=by
 have a1:topRun treeTable p w m ann (n + 2) (Sb w os).abs (restOf (behindTheImports p ++ []) env c pos' [topFrame q0]) = some r.abs:=piece_app (segRun_of er) (Urr r.abs c p1 q0)
 rw [List.append_nil] at a1
 exact Nat.add_sub_cancel' (Nat.le_of_ble_eq_true le) ▸ topRun_mono (N - (12 + (1 + (n + 2)))) _ _ _ _ (go_top pre (piece_block blk a1))
theorem Usi {w:World} {s:Shared} {r:Shared} (z1:s.heap.isNs mainGlobals = true) (zg:(s.gens.size == 0) = true) (h:topRun treeTable p w s.heap.objs.size (s.heap.nsMap mainGlobals "__annotations__") N s (topStub p) = some r) (l:lookOk p s.heap r = true):topFrom treeTable p w N s = some r:=by
 delta topFrom
 rw [z1,zg,h]
 show (match lookOk p s.heap r with | true => some r | false => none) = _
 rw [l]
theorem Ur2 (o:∀ w:World,(fencedOpening treeTable p w N).map (fun s => (s.heap,s.gens,s.drawn,s.toks)) = some (boot_heap w.params,#[],boot_drawn,boot_toks))
   (sz:∀ w:World,((boot_heap w.params).isNs mainGlobals,(boot_heap w.params).objs.size,(boot_heap w.params).nsMap mainGlobals "__annotations__") = (true,m,ann))
   (pre:∀ w os,topGo treeTable p w m ann 12 (bootS w os) (topStub p) = some (Sa w os,⟨denote treeTable (.body (behindTheImports p) env),c,pos,[topFrame q0]⟩))
   (blk:∀ w os,segRun treeTable p w m ann 1 1 (Sa w os) (blockOf (behindTheImports p) env c pos [topFrame q0]) = some (.next,(Sb w os).abs,c,pos'))
   (run:∀ w os,(segRunT treeTable p w m ann 1 n (Sb w os) (piecesOf (behindTheImports p) env c pos' [topFrame q0])).map (fun r => (r.1,r.2.2.1,lookOk p (boot_heap w.params) r.2.1.abs,openSeen q loose (importedModules p.main.body) Xt true r.2.1.abs,Yf r.2.1.abs)) =
     some (.next,c,true,openGood q loose,Ya w)) (le:Nat.ble (12 + (1 + (n + 2))) N = true):LeftO p q loose Xt Yf Ya N:=fun w =>
 xEAA (Option.map_eq_some_iff.mp (o w)) fun s0 e eo => xEAA (Option.map_eq_some_iff.mp (run w s0.os)) fun r er r1 => by
   have z:=sz w
   have t:=Uqb (pre w s0.os) (blk w s0.os) (er.trans (congrArg some (Prod.ext (congrArg (·.1) r1) (Prod.ext rfl (Prod.ext (congrArg (·.2.1) r1) rfl))))) le
   have z2:(boot_heap w.params).objs.size = m:=congrArg (fun x => x.2.1) z
   have z3:(boot_heap w.params).nsMap mainGlobals "__annotations__" = ann:=congrArg (fun x => x.2.2) z
   have t:=Usi (s:=bootS w s0.os) (congrArg (fun x => x.1) z) rfl (by rw [show (bootS w s0.os).heap = boot_heap w.params from rfl,z2,z3]; exact t) (congrArg (fun x => x.2.2.1) r1)
   delta openEnds
   rw [e,sh_eq eo]
   exact (congrArg (Option.map _) t).trans (congrArg some (congrArg (fun x => x.2.2.2) r1))
noncomputable def RunS {β:Type} (gd:β) (sr:SegT) (tt:String -> Option Builtin) (osn:Program -> List Str -> List Str -> (Shared -> Bool) -> Bool -> Shared -> β) (p q:Program) (loose:List Str) (Xt:Shared -> Bool) (Yf:Shared -> α) (Ya:World -> α) (m n:Nat) (ann:Option Value) (env:Env) (c:Code) (pos q0:Pos) (Sb:World -> OsState -> SharedT):Prop :=
 ∀ w,(fun os => (sr tt p w m ann 1 n (Sb w os) (piecesOf (behindTheImports p) env c pos [topFrame q0])).map (fun r => (r.1,r.2.2.1,lookOk p (boot_heap w.params) r.2.1.abs,osn q loose (importedModules p.main.body) Xt true r.2.1.abs,Yf r.2.1.abs))) =
     fun w0 => some (Flow.next,c,true,gd,Ya w)
theorem run_of (h:RunS (openGood q loose) PySem.W.Fast.tw10110043849684766642 PySem.W.Fast.tw14364793385576792824 PySem.W.Fast.tw4187177175401517315 p q loose Xt Yf Ya m n ann env c pos q0 Sb):∀ w os,(segRunT treeTable p w m ann 1 n (Sb w os) (piecesOf (behindTheImports p) env c pos [topFrame q0])).map (fun r => (r.1,r.2.2.1,lookOk p (boot_heap w.params) r.2.1.abs,openSeen q loose (importedModules p.main.body) Xt true r.2.1.abs,Yf r.2.1.abs)) =
     some (.next,c,true,openGood q loose,Ya w):=by
 rw [<- PySem.W.Fast.te10110043849684766642,<- PySem.W.Fast.te14364793385576792824,<- PySem.W.Fast.te4187177175401517315] at h
 exact fun w os => congrFun (h w) os
end
end Mine
end
section
open PySem PySem.Calls PyProof.Rows PySem.W
namespace Mine
noncomputable section
noncomputable abbrev prg:Program:=PySem.Challenge.rw_nt0611_02.row.toRowW.1
noncomputable def tp (k:Nat):Stmt:=(prg.main.body[k]?).getD (.Pass default)
noncomputable def mt (k j:Nat):Stmt:=match tp k with
 | .ClassDef _ _ _ b _ _ _ _ _ _ _ => (b[j]?).getD (.Pass default)
 | s => s
noncomputable def vw:Program:=view prg [0,2,3,4,5,6,7,8,10,11,12,13,14,15,16,17,18,19,20,21,22,23,25,27,28,29,30,31,33,34,36,37,39,41,42,43,44,45,46,47,48,49,50,51]
noncomputable def fo (n q:String) (s:Stmt) (d:Value) (mo:String) (t c:Nat):Obj:=match s with
 | .FunctionDef _ a b _ _ _ sc _ _ _ => ⟨.type "function",none,.func ⟨Y n,Y q,a,.stmts b,sc,3,[],d,.none,.none,.str (Y mo) t,none,.ref c,.none,0⟩,#[]⟩
 | _ => default
noncomputable def co (n q:String) (t a b c d e:Nat) (l:List Value) (u:Nat):Obj:=⟨.type "code",none,.fields (([.str (Y n) t,.str (Y q) (t + 1),.str (Y "/claim/cut.py") (t + 2),.int a 0,.int b 0,.int c 0,.int d 0,.int e 0]:List Value) ++ l ++ [Value.str (Y "/claim/cut.py") u]).toArray,#[]⟩
noncomputable def ck (n q:String) (t a b r u:Nat):Obj:=co n q t a b 0 0 3 [.ref r,.bool true,.int 181 0,.ref (r + 1),.none,.ref (r + 2),.ref (r + 3),.ref (r + 4),.int u 0,.int a 0] (u + 1)
noncomputable def dc (P:Params) (c:Value) (n:Nat) (l:List (String × Nat × Value)):Obj:=⟨c,none,.dict (l.map fun e => ⟨PyData.keyHash P (Y e.1),.str (Y e.1) e.2.1,e.2.2⟩).toArray n,#[]⟩
noncomputable def K (P:Params):Frag:=[
(3,dc P (.type "dict") 53 [("__name__",165,.str (Y "law_nt0611_02") 788),("__doc__",166,.none),("__package__",167,.none),("__loader__",168,.builtin "__main__.__loader__#opaque"),("__spec__",169,.none),("__annotations__",170,.ref 6),("__builtins__",171,.ref 4),("__file__",173,.str (Y "/claim/cut.py") 172),("__cached__",174,.none),("_wall",193,.ref 21),("is_blank",202,.ref 28),("is_upper",209,.ref 35),("is_letter",216,.ref 42),("lower",223,.ref 49),("is_surrogate",230,.ref 56),("is_noncharacter",237,.ref 63),("is_control",244,.ref 70),("finish_tag",253,.ref 77),("cut_tag",260,.ref 84),("leave_name",267,.ref 91),("begin_reference",274,.ref 98),("before_attr_name_state",282,.ref 105),("attr_name_state",290,.ref 112),("after_attr_name_state",298,.ref 119),("before_attr_value_state",306,.ref 126),("quoted_value",315,.ref 133),("double_quoted_state",322,.ref 140),("single_quoted_state",329,.ref 147),("unquoted_state",337,.ref 154),("after_quoted_state",345,.ref 161),("attr_states",351,.ref 168),("Draft",433,.ref 220),("tag_open_state",443,.ref 231),("end_tag_open_state",451,.ref 238),("tag_name_state",459,.ref 245),("self_closing_state",467,.ref 252),("tag_states",473,.ref 259),("HtmlFault",504,.ref 276),("Misused",520,.ref 289),("input_error",529,.ref 298),("Stream",584,.ref 336),("Tokenizer",787,.ref 499),("_law_signs",795,.ref 508),("_law_blanks",801,.ref 515),("_law_until",810,.ref 522),("_law_taken",823,.ref 529),("_law_checked",829,.ref 534),("_law_name",841,.ref 541),("_law_value",854,.ref 548),("_law_read",866,.ref 555),("_law_token",872,.ref 560),("_law_told",879,.ref 567),("law",899,.ref 574)]),
(20,ck "_wall" "_wall" 187 1 1 15 191),
(21,fo "_wall" "_wall" (tp 0) (.none) "__main__" 164 20),
(27,ck "is_blank" "is_blank" 196 5 1 22 200),
(28,fo "is_blank" "is_blank" (tp 2) (.none) "htmltree.signs" 194 27),
(34,ck "is_upper" "is_upper" 203 7 1 29 207),
(35,fo "is_upper" "is_upper" (tp 3) (.none) "htmltree.signs" 194 34),
(41,ck "is_letter" "is_letter" 210 9 1 36 214),
(42,fo "is_letter" "is_letter" (tp 4) (.none) "htmltree.signs" 194 41),
(48,ck "lower" "lower" 217 11 1 43 221),
(49,fo "lower" "lower" (tp 5) (.none) "htmltree.signs" 194 48),
(55,ck "is_surrogate" "is_surrogate" 224 15 1 50 228),
(56,fo "is_surrogate" "is_surrogate" (tp 6) (.none) "htmltree.signs" 194 55),
(62,ck "is_noncharacter" "is_noncharacter" 231 17 1 57 235),
(63,fo "is_noncharacter" "is_noncharacter" (tp 7) (.none) "htmltree.signs" 194 62),
(69,ck "is_control" "is_control" 238 19 1 64 242),
(70,fo "is_control" "is_control" (tp 8) (.none) "htmltree.signs" 194 69),
(76,ck "finish_tag" "finish_tag" 247 22 1 71 251),
(77,fo "finish_tag" "finish_tag" (tp 10) (.none) "htmltree.attrstates" 245 76),
(83,ck "cut_tag" "cut_tag" 254 25 1 78 258),
(84,fo "cut_tag" "cut_tag" (tp 11) (.none) "htmltree.attrstates" 245 83),
(90,ck "leave_name" "leave_name" 261 28 1 85 265),
(91,fo "leave_name" "leave_name" (tp 12) (.none) "htmltree.attrstates" 245 90),
(97,ck "begin_reference" "begin_reference" 268 31 1 92 272),
(98,fo "begin_reference" "begin_reference" (tp 13) (.none) "htmltree.attrstates" 245 97),
(104,ck "before_attr_name_state" "before_attr_name_state" 275 34 1 99 280),
(105,fo "before_attr_name_state" "before_attr_name_state" (tp 14) (.none) "htmltree.attrstates" 245 104),
(111,ck "attr_name_state" "attr_name_state" 283 48 1 106 288),
(112,fo "attr_name_state" "attr_name_state" (tp 15) (.none) "htmltree.attrstates" 245 111),
(118,ck "after_attr_name_state" "after_attr_name_state" 291 63 1 113 296),
(119,fo "after_attr_name_state" "after_attr_name_state" (tp 16) (.none) "htmltree.attrstates" 245 118),
(125,ck "before_attr_value_state" "before_attr_value_state" 299 78 1 120 304),
(126,fo "before_attr_value_state" "before_attr_value_state" (tp 17) (.none) "htmltree.attrstates" 245 125),
(132,ck "quoted_value" "quoted_value" 307 91 2 127 313),
(133,fo "quoted_value" "quoted_value" (tp 18) (.none) "htmltree.attrstates" 245 132),
(139,ck "double_quoted_state" "double_quoted_state" 316 104 1 134 320),
(140,fo "double_quoted_state" "double_quoted_state" (tp 19) (.none) "htmltree.attrstates" 245 139),
(146,ck "single_quoted_state" "single_quoted_state" 323 106 1 141 327),
(147,fo "single_quoted_state" "single_quoted_state" (tp 20) (.none) "htmltree.attrstates" 245 146),
(153,ck "unquoted_state" "unquoted_state" 330 108 1 148 335),
(154,fo "unquoted_state" "unquoted_state" (tp 21) (.none) "htmltree.attrstates" 245 153),
(160,ck "after_quoted_state" "after_quoted_state" 338 125 1 155 343),
(161,fo "after_quoted_state" "after_quoted_state" (tp 22) (.none) "htmltree.attrstates" 245 160),
(167,ck "attr_states" "attr_states" 346 138 0 162 349),
(168,fo "attr_states" "attr_states" (tp 23) (.none) "htmltree.attrstates" 245 167),
(181,ck "__init__" "Draft.__init__" 366 143 3 176 372),
(182,fo "__init__" "Draft.__init__" (mt 25 0) (.none) "htmltree.tokens" 352 181),
(188,ck "begin_attr" "Draft.begin_attr" 375 153 1 183 379),
(189,fo "begin_attr" "Draft.begin_attr" (mt 25 1) (.none) "htmltree.tokens" 352 188),
(195,ck "add_name" "Draft.add_name" 382 156 2 190 388),
(196,fo "add_name" "Draft.add_name" (mt 25 2) (.none) "htmltree.tokens" 352 195),
(202,ck "add_value" "Draft.add_value" 391 160 2 197 397),
(203,fo "add_value" "Draft.add_value" (mt 25 3) (.none) "htmltree.tokens" 352 202),
(209,ck "check_attr" "Draft.check_attr" 400 164 1 204 406),
(210,fo "check_attr" "Draft.check_attr" (mt 25 4) (.none) "htmltree.tokens" 352 209),
(216,ck "token" "Draft.token" 409 172 1 211 415),
(217,fo "token" "Draft.token" (mt 25 5) (.none) "htmltree.tokens" 352 216),
(219,dc P (.type "dict") 4 [("__module__",361,.str (Y "htmltree.tokens") 352),("__firstlineno__",365,.int 141 364),("__init__",374,.ref 182),("begin_attr",381,.ref 189),("add_name",390,.ref 196),("add_value",399,.ref 203),("check_attr",408,.ref 210),("token",417,.ref 217),("__static_attributes__",426,.ref 218),("__dict__",428,.ref 221),("__weakref__",430,.ref 222),("__doc__",431,.none)]),
(220,{ cls:=.type "type",data:=.cls { name:=Y "Draft",bases:=[.type "object"],mro:=[.ref 220,.type "object"],ns:=219,qualname:=Y "Draft" },slots:=#[none,none,some (.str (Y "Draft") 354),some (.str (Y "Draft") 362),some (.builtin "object.__new__"),some (.bool true)] }),
(230,ck "tag_open_state" "tag_open_state" 436 183 1 225 441),
(231,fo "tag_open_state" "tag_open_state" (tp 27) (.none) "htmltree.tagstates" 434 230),
(237,ck "end_tag_open_state" "end_tag_open_state" 444 204 1 232 449),
(238,fo "end_tag_open_state" "end_tag_open_state" (tp 28) (.none) "htmltree.tagstates" 434 237),
(244,ck "tag_name_state" "tag_name_state" 452 220 1 239 457),
(245,fo "tag_name_state" "tag_name_state" (tp 29) (.none) "htmltree.tagstates" 434 244),
(251,ck "self_closing_state" "self_closing_state" 460 237 1 246 465),
(252,fo "self_closing_state" "self_closing_state" (tp 30) (.none) "htmltree.tagstates" 434 251),
(258,ck "tag_states" "tag_states" 468 249 0 253 471),
(259,fo "tag_states" "tag_states" (tp 31) (.none) "htmltree.tagstates" 434 258),
(272,ck "__init__" "HtmlFault.__init__" 488 254 2 267 493),
(273,fo "__init__" "HtmlFault.__init__" (mt 33 0) (.none) "htmltree.faults" 474 272),
(275,dc P (.type "dict") 3 [("__module__",483,.str (Y "htmltree.faults") 474),("__firstlineno__",487,.int 252 486),("__init__",495,.ref 273),("__static_attributes__",497,.ref 274),("__weakref__",499,.ref 277),("__doc__",500,.none)]),
(276,{ cls:=.type "type",data:=.cls { name:=Y "HtmlFault",bases:=[.type "Exception"],mro:=[.ref 276,.type "Exception",.type "BaseException",.type "object"],ns:=275,qualname:=Y "HtmlFault",subclasses:=[.ref 289] },slots:=#[some (.ref 260),none,some (.str (Y "HtmlFault") 476),some (.str (Y "HtmlFault") 484),some (.builtin "Exception.__new__"),some (.bool true)] }),
(288,dc P (.type "dict") 2 [("__module__",512,.str (Y "htmltree.faults") 474),("__firstlineno__",516,.int 257 515),("__static_attributes__",517,.ref 287),("__doc__",518,.none)]),
(289,{ cls:=.type "type",data:=.cls { name:=Y "Misused",bases:=[.ref 276],mro:=[.ref 289,.ref 276,.type "Exception",.type "BaseException",.type "object"],ns:=288,qualname:=Y "Misused" },slots:=#[some (.ref 280),none,some (.str (Y "Misused") 505),some (.str (Y "Misused") 513),some (.builtin "Exception.__new__"),some (.bool true)] }),
(297,ck "input_error" "input_error" 523 260 1 292 527),
(298,fo "input_error" "input_error" (tp 36) (.none) "htmltree.stream" 521 297),
(311,ck "__init__" "Stream.__init__" 542 270 1 306 546),
(312,fo "__init__" "Stream.__init__" (mt 37 0) (.none) "htmltree.stream" 521 311),
(318,ck "feed" "Stream.feed" 549 276 2 313 556),
(319,fo "feed" "Stream.feed" (mt 37 1) (.none) "htmltree.stream" 521 318),
(325,ck "end" "Stream.end" 559 289 1 320 563),
(326,fo "end" "Stream.end" (mt 37 2) (.none) "htmltree.stream" 521 325),
(332,ck "many" "Stream.many" 566 292 1 327 570),
(333,fo "many" "Stream.many" (mt 37 3) (.none) "htmltree.stream" 521 332),
(335,dc P (.type "dict") 4 [("__module__",537,.str (Y "htmltree.stream") 521),("__firstlineno__",541,.int 268 540),("__init__",548,.ref 312),("feed",558,.ref 319),("end",565,.ref 326),("many",572,.ref 333),("__static_attributes__",577,.ref 334),("__dict__",579,.ref 337),("__weakref__",581,.ref 338),("__doc__",582,.none)]),
(336,{ cls:=.type "type",data:=.cls { name:=Y "Stream",bases:=[.type "object"],mro:=[.ref 336,.type "object"],ns:=335,qualname:=Y "Stream" },slots:=#[none,none,some (.str (Y "Stream") 530),some (.str (Y "Stream") 538),some (.builtin "object.__new__"),some (.bool true)] }),
(348,{ cls:=.type "tuple",data:=.seq #[.str (Y "data") 599,.str (Y "") 600] }),
(354,ck "__init__" "Tokenizer.__init__" 601 297 4 349 608),
(355,fo "__init__" "Tokenizer.__init__" (mt 39 0) (.ref 348) "htmltree.tokenizer" 585 354),
(361,ck "feed" "Tokenizer.feed" 611 313 2 356 616),
(362,fo "feed" "Tokenizer.feed" (mt 39 1) (.none) "htmltree.tokenizer" 585 361),
(368,ck "end" "Tokenizer.end" 619 317 1 363 623),
(369,fo "end" "Tokenizer.end" (mt 39 2) (.none) "htmltree.tokenizer" 585 368),
(375,ck "next" "Tokenizer.next" 626 321 1 370 631),
(376,fo "next" "Tokenizer.next" (mt 39 3) (.none) "htmltree.tokenizer" 585 375),
(382,ck "to" "Tokenizer.to" 634 328 2 377 639),
(383,fo "to" "Tokenizer.to" (mt 39 4) (.none) "htmltree.tokenizer" 585 382),
(389,ck "again" "Tokenizer.again" 642 331 2 384 647),
(390,fo "again" "Tokenizer.again" (mt 39 5) (.none) "htmltree.tokenizer" 585 389),
(396,ck "error" "Tokenizer.error" 650 335 2 391 655),
(397,fo "error" "Tokenizer.error" (mt 39 6) (.none) "htmltree.tokenizer" 585 396),
(403,ck "emit" "Tokenizer.emit" 658 338 2 398 663),
(404,fo "emit" "Tokenizer.emit" (mt 39 7) (.none) "htmltree.tokenizer" 585 403),
(410,ck "emit_sign" "Tokenizer.emit_sign" 666 343 2 405 671),
(411,fo "emit_sign" "Tokenizer.emit_sign" (mt 39 8) (.none) "htmltree.tokenizer" 585 410),
(417,ck "emit_text" "Tokenizer.emit_text" 674 346 2 412 680),
(418,fo "emit_text" "Tokenizer.emit_text" (mt 39 9) (.none) "htmltree.tokenizer" 585 417),
(424,ck "emit_draft" "Tokenizer.emit_draft" 683 350 1 419 688),
(425,fo "emit_draft" "Tokenizer.emit_draft" (mt 39 10) (.none) "htmltree.tokenizer" 585 424),
(431,ck "emit_eof" "Tokenizer.emit_eof" 691 360 1 426 695),
(432,fo "emit_eof" "Tokenizer.emit_eof" (mt 39 11) (.none) "htmltree.tokenizer" 585 431),
(438,ck "is_apt" "Tokenizer.is_apt" 698 364 1 433 702),
(439,fo "is_apt" "Tokenizer.is_apt" (mt 39 12) (.none) "htmltree.tokenizer" 585 438),
(440,{ cls:=.type "tuple",data:=.seq #[.bool false] }),
(446,ck "looks" "Tokenizer.looks" 705 367 3 441 711),
(447,fo "looks" "Tokenizer.looks" (mt 39 13) (.ref 440) "htmltree.tokenizer" 585 446),
(453,ck "take" "Tokenizer.take" 714 370 2 448 719),
(454,fo "take" "Tokenizer.take" (mt 39 14) (.none) "htmltree.tokenizer" 585 453),
(460,ck "wait" "Tokenizer.wait" 722 373 1 455 726),
(461,fo "wait" "Tokenizer.wait" (mt 39 15) (.none) "htmltree.tokenizer" 585 460),
(467,ck "in_value" "Tokenizer.in_value" 729 376 1 462 733),
(468,fo "in_value" "Tokenizer.in_value" (mt 39 16) (.none) "htmltree.tokenizer" 585 467),
(474,ck "flush" "Tokenizer.flush" 736 379 1 469 740),
(475,fo "flush" "Tokenizer.flush" (mt 39 17) (.none) "htmltree.tokenizer" 585 474),
(481,ck "step" "Tokenizer.step" 743 386 1 476 749),
(482,fo "step" "Tokenizer.step" (mt 39 18) (.none) "htmltree.tokenizer" 585 481),
(488,ck "is_ready" "Tokenizer.is_ready" 752 396 1 483 756),
(489,fo "is_ready" "Tokenizer.is_ready" (mt 39 19) (.none) "htmltree.tokenizer" 585 488),
(495,ck "run" "Tokenizer.run" 759 401 1 490 763),
(496,fo "run" "Tokenizer.run" (mt 39 20) (.none) "htmltree.tokenizer" 585 495),
(498,dc P (.type "dict") 4 [("__module__",594,.str (Y "htmltree.tokenizer") 585),("__firstlineno__",598,.int 295 597),("__init__",610,.ref 355),("feed",618,.ref 362),("end",625,.ref 369),("next",633,.ref 376),("to",641,.ref 383),("again",649,.ref 390),("error",657,.ref 397),("emit",665,.ref 404),("emit_sign",673,.ref 411),("emit_text",682,.ref 418),("emit_draft",690,.ref 425),("emit_eof",697,.ref 432),("is_apt",704,.ref 439),("looks",713,.ref 447),("take",721,.ref 454),("wait",728,.ref 461),("in_value",735,.ref 468),("flush",742,.ref 475),("step",751,.ref 482),("is_ready",758,.ref 489),("run",765,.ref 496),("__static_attributes__",780,.ref 497),("__dict__",782,.ref 500),("__weakref__",784,.ref 501),("__doc__",785,.none)]),
(499,{ cls:=.type "type",data:=.cls { name:=Y "Tokenizer",bases:=[.type "object"],mro:=[.ref 499,.type "object"],ns:=498,qualname:=Y "Tokenizer" },slots:=#[none,none,some (.str (Y "Tokenizer") 587),some (.str (Y "Tokenizer") 595),some (.builtin "object.__new__"),some (.bool true)] }),
(507,co "_law_signs" "_law_signs" 790 406 1 0 0 3 [.ref 504,.bool true,.int 181 0,.ref 505,.none,.none,.none,.ref 506,.int 793 0,.int 406 0] 794),
(508,fo "_law_signs" "_law_signs" (tp 41) (.none) "law_nt0611_02" 788 507),
(514,ck "_law_blanks" "_law_blanks" 796 410 0 509 799),
(515,fo "_law_blanks" "_law_blanks" (tp 42) (.none) "law_nt0611_02" 788 514),
(521,ck "_law_until" "_law_until" 802 412 3 516 808),
(522,fo "_law_until" "_law_until" (tp 43) (.none) "law_nt0611_02" 788 521),
(528,ck "_law_taken" "_law_taken" 811 416 6 523 821),
(529,fo "_law_taken" "_law_taken" (tp 44) (.none) "law_nt0611_02" 788 528),
(533,co "_law_checked" "_law_checked" 824 423 3 0 0 3 [.ref 530,.bool true,.int 181 0,.ref 531,.none,.none,.none,.ref 532,.int 827 0,.int 423 0] 828),
(534,fo "_law_checked" "_law_checked" (tp 45) (.none) "law_nt0611_02" 788 533),
(540,ck "_law_name" "_law_name" 830 427 4 535 839),
(541,fo "_law_name" "_law_name" (tp 46) (.none) "law_nt0611_02" 788 540),
(547,ck "_law_value" "_law_value" 842 434 4 542 852),
(548,fo "_law_value" "_law_value" (tp 47) (.none) "law_nt0611_02" 788 547),
(554,ck "_law_read" "_law_read" 855 457 4 549 864),
(555,fo "_law_read" "_law_read" (tp 48) (.none) "law_nt0611_02" 788 554),
(559,co "_law_token" "_law_token" 867 481 3 0 0 3 [.ref 556,.bool true,.int 181 0,.ref 557,.none,.none,.none,.ref 558,.int 870 0,.int 481 0] 871),
(560,fo "_law_token" "_law_token" (tp 49) (.none) "law_nt0611_02" 788 559),
(566,ck "_law_told" "_law_told" 873 483 1 561 877),
(567,fo "_law_told" "_law_told" (tp 50) (.none) "law_nt0611_02" 788 566),
(573,ck "law" "law" 880 485 1 568 897),
(574,fo "law" "law" (tp 51) (.none) "law_nt0611_02" 788 573)]
noncomputable def kas:List Addr:=[3,20,21,27,28,34,35,41,42,48,49,55,56,62,63,69,70,76,77,83,84,90,91,97,98,104,105,111,112,118,119,125,126,132,133,139,140,146,147,153,154,160,161,167,168,181,182,188,189,195,196,202,203,209,210,216,217,219,220,230,231,237,238,244,245,251,252,258,259,272,273,275,276,288,289,297,298,311,312,318,319,325,326,332,333,335,336,348,354,355,361,362,368,369,375,376,382,383,389,390,396,397,403,404,410,411,417,418,424,425,431,432,438,439,440,446,447,453,454,460,461,467,468,474,475,481,482,488,489,495,496,498,499,507,508,514,515,521,522,528,529,533,534,540,541,547,548,554,555,559,560,566,567,573,574]
noncomputable def o15 (P:Params):List Obj:=[boot_o_0 P,boot_o_1 P,boot_o_2 P,boot_o_3 P,boot_o_4 P,boot_o_5 P,boot_o_6 P,boot_o_7 P,boot_o_8 P,boot_o_9 P,boot_o_10 P,⟨.type "tuple",none,.seq #[],#[]⟩,⟨.none,none,.fields #[],#[]⟩,
 ⟨.type "code",none,.fields #[.str (Y "<module>") 182,.str (Y "<module>") 183,.str (Y "/claim/cut.py") 184,.int 1 0,.int 0 0,.int 0 0,.int 0 0,.int 0 0,.ref 11,.bool false,.int 181 0,.ref 12,.none,.none,.none,.none,.int 185 0,.int 1 0,.str (Y "/claim/cut.py") 186],#[]⟩,
 ⟨.type "frame",none,.plain,#[some (.ref 13),some (.ref 3),some (.ref 3),none,some (.str (Y "__main__") 164),none,some (.ref 0)]⟩]
noncomputable def ev0:Env:={ scope:=prg.main.scope,locals:=mainNs,globals:=mainNs,cells:=[],code:=.ref 13,frame:=some 14 }
noncomputable def p0:Pos:={ line:=0,col:=0,endLine:=0,endCol:=0 }
noncomputable def sa (w:World) (os:OsState):Shared:=⟨⟨⟨o15 w.params⟩,{}⟩,#[],{},187,os⟩
noncomputable def sb (w:World) (os:OsState):SharedT:=⟨((o15 w.params).zipIdx).foldl (fun t x => t.ins x.2 x.1) .nil,15,{},#[],{},187,os⟩
noncomputable def hk:Hook:=kHook K kas (fun w0 => by kernel_rfl)
noncomputable def xt (s:Shared):Bool:=xlAt vw [] s && recOk (RowW.records PySem.Challenge.rw_nt0611_02.row.toRowW) s
theorem h_open:∀ w:World,(fencedOpening treeTable prg w 6700).map (fun s => (s.heap,s.gens,s.drawn,s.toks)) = some (boot_heap w.params,#[],boot_drawn,boot_toks):=boot_open (by kernel_rfl) (by decide) (fun w0 => by kernel_rfl)
theorem h_size:∀ w:World,((boot_heap w.params).isNs mainGlobals,(boot_heap w.params).objs.size,(boot_heap w.params).nsMap mainGlobals "__annotations__") = (true,11,some (.ref 6)):=fun w0 => by kernel_rfl
theorem h_pre:∀ w os,topGo treeTable prg w 11 (some (.ref 6)) 12 (bootS w os) (topStub prg) = some (sa w os,⟨denote treeTable (.body (behindTheImports prg) ev0),.body (behindTheImports prg) ev0,p0,[topFrame p0]⟩):=fun w0 w0 => by kernel_rfl
theorem h_blk:∀ w os,segRun treeTable prg w 11 (some (.ref 6)) 1 1 (sa w os) (blockOf (behindTheImports prg) ev0 (.body (behindTheImports prg) ev0) p0 [topFrame p0]) = some (.next,(sb w os).abs,.body (behindTheImports prg) ev0,p0):=fun w0 w0 => by kernel_rfl
theorem h_run:RunS (openGood vw []) PySem.W.Fast.tw10110043849684766642 PySem.W.Fast.tw14364793385576792824 PySem.W.Fast.tw4187177175401517315 prg vw [] xt hk.obs hk.val 11 3300 (some (.ref 6)) ev0 (.body (behindTheImports prg) ev0) p0 p0 sb:=fun w0 => by kernel_rfl
theorem left:LeftO prg vw [] xt hk.obs hk.val 6700:=Ur2 h_open h_size h_pre h_blk (run_of h_run) (by decide)
end
end Mine
end
section
open PySem PySem.Calls PyProof.Rows PySem.W
namespace Mine
noncomputable def fnAddrs:List Addr:=[28,35,42,49,56,63,70,77,84,91,98,105,112,119,126,133,140,147,154,161,168,182,189,196,203,210,217,231,238,245,252,259,298,312,319,326,362,369,376,383,390,397,404,411,418,425,432,482,489,496,508,515,522,529,534,541,548,555,560,567,574]
noncomputable def clsL:List (Addr × Cls):=[
 (220,⟨0,[(Y "__init__",182),(Y "begin_attr",189),(Y "add_name",196),(Y "add_value",203),(Y "check_attr",210),(Y "token",217)],[(Y "kind"),Y "name",Y "text",Y "public",Y "system",Y "is_quirks",Y "is_closing",Y "attrs"],182⟩),
 (336,⟨1,[(Y "__init__",312),(Y "feed",319),(Y "end",326)],[(Y "signs"),Y "is_closed",Y "is_return",Y "errors"],312⟩),
 (499,⟨2,[(Y "__init__",355),(Y "feed",362),(Y "end",369),(Y "next",376),(Y "to",383),(Y "again",390),(Y "error",397),(Y "emit",404),(Y "emit_sign",411),(Y "emit_text",418),(Y "emit_draft",425),(Y "emit_eof",432),(Y "step",482),(Y "is_ready",489),(Y "run",496)],[(Y "states"),Y "stream",Y "at",Y "state",Y "back",Y "out",Y "errors",Y "draft",Y "buffer",Y "code",Y "last",Y "is_foreign",Y "is_waiting",Y "is_done"],355⟩)]
noncomputable def globL:List (Str × Addr):=[(Y "is_blank",28),(Y "is_upper",35),(Y "is_letter",42),(Y "lower",49),(Y "is_surrogate",56),(Y "is_noncharacter",63),(Y "is_control",70),(Y "finish_tag",77),(Y "cut_tag",84),(Y "leave_name",91),(Y "begin_reference",98),(Y "before_attr_name_state",105),(Y "attr_name_state",112),(Y "after_attr_name_state",119),(Y "before_attr_value_state",126),(Y "quoted_value",133),(Y "double_quoted_state",140),(Y "single_quoted_state",147),(Y "unquoted_state",154),(Y "after_quoted_state",161),(Y "attr_states",168),(Y "tag_open_state",231),(Y "end_tag_open_state",238),(Y "tag_name_state",245),(Y "self_closing_state",252),(Y "tag_states",259),(Y "input_error",298),(Y "_law_signs",508),(Y "_law_blanks",515),(Y "_law_until",522),(Y "_law_taken",529),(Y "_law_checked",534),(Y "_law_name",541),(Y "_law_value",548),(Y "_law_read",555),(Y "_law_token",560),(Y "_law_told",567),(Y "law",574),(Y "Draft",220),(Y "Stream",336),(Y "Tokenizer",499)]
noncomputable def siteF (l c:Nat):Option Nat:=(([(139,11,3),(250,11,3),(151,21,4),(154,26,5),(177,15,6),(271,21,7),(274,22,8),(303,19,9),(304,22,10),(488,55,11),(488,59,12),(432,17,13),(513,15,14)]:List (Nat × Nat × Nat)).find? fun x => Nat.beq x.1 l && Nat.beq x.2.1 c).map (·.2.2)
noncomputable def initA:Addr:=355
noncomputable def lawA:Addr:=574
noncomputable def P (p:Params):Prog:={ fns:=(initA,fnAt (K p) [.str ""] initA) :: fnAddrs.map (fun a => (a,fnAt (K p) [] a)),clss:=clsL,globs:=globL,site:=siteF }
theorem fns_ok (p:Params):fnsOk (K p) fnAddrs = true:=by kernel_rfl
theorem cls_ok' (p:Params):clsL.all (fun q => clsOk (K p) q.1 q.2) = true:=by kernel_rfl
theorem Ur9 (p:Params):globOk (K p) (P p) = true:=by kernel_rfl
noncomputable def fdI (p:Params):FuncData:=(fdAt (K p) initA).getD default
noncomputable def dflTok (K:Frag) (fd:FuncData):Tok:=match fd.defaults with
 | .ref T => match K.lookup T with
   | some ⟨_,_,.seq its _,_⟩ => match its.toList with
     | [_,.str _ t] => t
     | _ => 0
   | _ => 0
 | _ => 0
theorem fdI_is (p:Params):fdAt (K p) initA = some (fdI p):=by kernel_rfl
theorem Un7 (p:Params):(argNames (fdI p)).length = 4:=by kernel_rfl
theorem bind4 (p:Params) (a b c d:Value) (S:Setting):peek (K p) S (bindArgs (fdI p) ⟨[a,b,c,d],[]⟩) = some ((argNames (fdI p)).zip [a,b,c,d]):=by kernel_rfl
theorem bind3 (p:Params) (a b c:Value) (S:Setting):peek (K p) S (bindArgs (fdI p) ⟨[a,b,c],[]⟩) = some ((argNames (fdI p)).zip [a,b,c,.str "" (dflTok (K p) (fdI p))]):=by kernel_rfl
theorem fdI_ok (p:Params):fdOk (K p) (fdI p) = true:=by kernel_rfl
theorem Uri (p:Params):FnIn (K p) initA (fnAt (K p) [.str ""] initA):=by
 refine FnIn.last (t:=dflTok (K p) (fdI p)) (fdI_is p) (fdI_ok p) (by decide +kernel) (by decide +kernel) (fun us h S => ?_) fun us h S => ?_
 · obtain ⟨a,b,c,d,rfl⟩:=len4 (h.trans (Un7 p))
   exact bind4 p a b c d S
 · obtain ⟨a,b,c,rfl⟩:=len3 (h.trans (Un7 p))
   exact bind3 p a b c S
noncomputable def LawOk:Prop:=∀ (p:Params) (ns:List Int),ns.length <= 63 -> ∃ σ',callD (P p) 20 lawA [.lst (ns.map .int)] (List.replicate 24 []) = some (.bool true,σ')
theorem all_ff (p:Params):∀ a f,lkN a (P p).fns = some f -> FnIn (K p) a f:=fns_in (fns_ok p) (Uri p)
theorem all_cf (p:Params):∀ c k,lkN c (P p).clss = some k -> ClsFacts (K p) c k:=cls_in (cls_ok' p)
end Mine
end
section
open PySem PySem.Calls PyProof.Rows PySem.W
namespace Mine
theorem h_said:OpenLaw.wellSaid PySem.Challenge.rw_nt0611_02 = true:=by first | decide +kernel | k_qdec
set_option maxHeartbeats 8000000 in
theorem h_walk (hlaw:LawOk):PySem.Challenge.rw_nt0611_02.Holds:=by
 w_on
 refine holds_law h_said fun said => ?_
 refine holds_open (q:=vw) (loose:=[]) (Xt:=xt) (XP:=XL vw []) (Yf:=hk.obs) (Ya:=hk.val) (YP:=hk.says) (N:=6700) left hk.of hk.keeps (fun s e => xl_of s (Bool.and_eq_true_iff.mp e).1) XL.keeps (by rfl) (by rfl) (by rfl) (fun s e => recFacts_of (Bool.and_eq_true_iff.mp e).2) (by rfl) (by first | assumption | decide +kernel) (by decide +kernel) ⟨rfl,rfl,rfl,rfl,rfl,by decide +kernel⟩ ?hw ?hc
 case hw => w_witness2
 w_strict (
   intro w s₀ s₁ mg mb G Y fa o pm cd doc dV kV ho hd hcd hD hmg hg args vals as hpre hlay hrd hwl hlo
   have KX:(K w.params).In s₁.heap:=Y
   have X:=(Ground.X G).1
   have V:=(Ground.X G).2
   refine Ground.open G ?_
   intro T B D TE TW
   try (refine guard_noD D (by decide +kernel) ?_; clear D)
   obtain ⟨_,_,M⟩:=bmod_of_top T
   have TA:=at_of_top T
   try (obtain ⟨_,_,he,B0⟩:=based_of_top T rfl hmg ho hd; have he':cd = _:=he; subst he'; clear he)
   clear hmg
   wrow_args hpre hlay hrd hwl hlo
   refine enter_call ?_
   w_top on
   try refine codeAny_mono ?_ (fun w0 w0 g => GoodW.toG g)
   have K0:=below_caller (Top.heap T)
   w_call any ho hd hcd hD T F
   clear hd TA
   k_drop
   rename Top _ _ _ _ _ _ => hT
   rename IntsAre _ _ => hI
   rename Frag.In _ _ => hX
   rename Well _ _ _ _ => hW
   rename Heap.IsList _ _ _ => hL
   rename ¬ _ < _ => h63
   rename Shared.gens _ = #[] => hgens
   rename PyProof.Rows.Fr _ _ _ _ => F
   refine Upe (d:=19) (N:=24) (fa:=lawA) (x:="script") (P:=P w.params) hT (show (K w.params).In _ from hX) (Ur9 _) (all_cf _) (all_ff _) ?k1 ?k2 ?k3 hL hW hI h63 F ?k4 ?k5 ?k6 ?k7 ?k8 ?k9 ?k10 (hlaw _) ?k11
   case k1 => exact rfl
   case k2 => (show callerA.depth + 1 + 2 * 19 + 2 < 1000; decide)
   case k3 => (show callerA.units + 3 + 8 * 19 + 200 < 9900; decide)
   case k4 => kernel_rfl
   case k5 => kernel_rfl
   case k6 => exact rfl
   case k7 => decide +kernel
   case k8 => decide +kernel
   case k9 => kernel_rfl
   case k10 => exact Nat.succ_pos _
   case k11 =>
     intro s' hk ho hg
     exact Up6 rfl (by kernel_rfl) hk ho (hg.trans hgens))
theorem fin (hlaw:LawOk):PySem.Challenge.rw_nt0611_02.Holds:=h_walk hlaw
end Mine
end
section
open PySem PySem.W
namespace Mine
noncomputable abbrev mc (p:Params) (c:CC) (o:V) (x:Str) (l:List V) (k:V -> M Fl):M Fl:=bnd (look (methK (P p) o x)) fun m => if isRepl m then fail else bnd (methodV c m o l) k
noncomputable abbrev a_is_blank:Addr:=28
noncomputable abbrev a_is_upper:Addr:=35
noncomputable abbrev a_is_letter:Addr:=42
noncomputable abbrev a_lower:Addr:=49
noncomputable abbrev a_finish_tag:Addr:=77
noncomputable abbrev a_cut_tag:Addr:=84
noncomputable abbrev a_leave_name:Addr:=91
noncomputable abbrev a_begin_reference:Addr:=98
noncomputable abbrev a_before_attr_name_state:Addr:=105
noncomputable abbrev a_attr_name_state:Addr:=112
noncomputable abbrev a_after_attr_name_state:Addr:=119
noncomputable abbrev a_before_attr_value_state:Addr:=126
noncomputable abbrev a_quoted_value:Addr:=133
noncomputable abbrev a_double_quoted_state:Addr:=140
noncomputable abbrev a_single_quoted_state:Addr:=147
noncomputable abbrev a_unquoted_state:Addr:=154
noncomputable abbrev a_after_quoted_state:Addr:=161
noncomputable abbrev a_attr_states:Addr:=168
noncomputable abbrev a_Draft_init:Addr:=182
noncomputable abbrev a_Draft_begin_attr:Addr:=189
noncomputable abbrev a_Draft_add_name:Addr:=196
noncomputable abbrev a_Draft_add_value:Addr:=203
noncomputable abbrev a_Draft_check_attr:Addr:=210
noncomputable abbrev a_Draft_token:Addr:=217
noncomputable abbrev a_tag_open_state:Addr:=231
noncomputable abbrev a_end_tag_open_state:Addr:=238
noncomputable abbrev a_tag_name_state:Addr:=245
noncomputable abbrev a_self_closing_state:Addr:=252
noncomputable abbrev a_tag_states:Addr:=259
noncomputable abbrev a_input_error:Addr:=298
noncomputable abbrev a_Stream_init:Addr:=312
noncomputable abbrev a_Stream_feed:Addr:=319
noncomputable abbrev a_Stream_end:Addr:=326
noncomputable abbrev a_Tokenizer_init:Addr:=355
noncomputable abbrev a_Tokenizer_feed:Addr:=362
noncomputable abbrev a_Tokenizer_end:Addr:=369
noncomputable abbrev a_Tokenizer_next:Addr:=376
noncomputable abbrev a_Tokenizer_to:Addr:=383
noncomputable abbrev a_Tokenizer_again:Addr:=390
noncomputable abbrev a_Tokenizer_error:Addr:=397
noncomputable abbrev a_Tokenizer_emit:Addr:=404
noncomputable abbrev a_Tokenizer_emit_sign:Addr:=411
noncomputable abbrev a_Tokenizer_emit_text:Addr:=418
noncomputable abbrev a_Tokenizer_emit_draft:Addr:=425
noncomputable abbrev a_Tokenizer_emit_eof:Addr:=432
noncomputable abbrev a_Tokenizer_step:Addr:=482
noncomputable abbrev a_Tokenizer_is_ready:Addr:=489
noncomputable abbrev a_Tokenizer_run:Addr:=496
noncomputable abbrev a__law_signs:Addr:=508
noncomputable abbrev a__law_blanks:Addr:=515
noncomputable abbrev a__law_until:Addr:=522
noncomputable abbrev a__law_taken:Addr:=529
noncomputable abbrev a__law_checked:Addr:=534
noncomputable abbrev a__law_name:Addr:=541
noncomputable abbrev a__law_value:Addr:=548
noncomputable abbrev a__law_read:Addr:=555
noncomputable abbrev a__law_token:Addr:=560
noncomputable abbrev a__law_told:Addr:=567
noncomputable abbrev a_law:Addr:=574
noncomputable abbrev c_Draft:Addr:=220
noncomputable abbrev c_Stream:Addr:=336
noncomputable abbrev c_Tokenizer:Addr:=499
noncomputable def F_is_blank (p:Params) (c:CC) (vc:V):M Fl :=
bnd (look (cmpV .In vc (.tup [(.str (Y "\x09")),(.str (Y "\x0a")),(.str (Y "\x0c")),(.str (Y " "))]))) fun x1 =>
ret (.ret (.bool x1))
theorem Ul8 (p:Params) (d:Nat) (vc:V):callK (P p) (d + 1) a_is_blank [vc] = bnd (F_is_blank p (callK (P p) d) vc) unFl:=by kernel_rfl
noncomputable def F_is_upper (p:Params) (c:CC) (vc:V):M Fl :=
bnd (look (cmpV .LtE (.str (Y "A")) vc)) fun x1 =>
(if x1 then
bnd (look (cmpV .LtE vc (.str (Y "Z")))) fun x2 =>
ret (.ret (.bool x2))
else
ret (.ret (.bool false)))
theorem Ukq (p:Params) (d:Nat) (vc:V):callK (P p) (d + 1) a_is_upper [vc] = bnd (F_is_upper p (callK (P p) d) vc) unFl:=by kernel_rfl
noncomputable def F_is_letter (p:Params) (c:CC) (vc:V):M Fl :=
bnd (look (cmpV .LtE (.str (Y "a")) vc)) fun x1 =>
(if x1 then
bnd (look (cmpV .LtE vc (.str (Y "z")))) fun x2 =>
(cond x2
(ret (.ret (.bool x2)))
(bnd (look (cmpV .LtE (.str (Y "A")) vc)) fun x3 =>
(if x3 then
bnd (look (cmpV .LtE vc (.str (Y "Z")))) fun x4 =>
ret (.ret (.bool x4))
else
ret (.ret (.bool false)))))
else
bnd (look (cmpV .LtE (.str (Y "A")) vc)) fun x5 =>
(if x5 then
bnd (look (cmpV .LtE vc (.str (Y "Z")))) fun x6 =>
ret (.ret (.bool x6))
else
ret (.ret (.bool false))))
theorem Uj2 (p:Params) (d:Nat) (vc:V):callK (P p) (d + 1) a_is_letter [vc] = bnd (F_is_letter p (callK (P p) d) vc) unFl:=by kernel_rfl
noncomputable def fd_lower (p:Params):Fn:=fnAt (K p) [] a_lower
noncomputable def sc_lower (p:Params):Scope:=(fd_lower p).scope
noncomputable def bo_lower (p:Params):List Stmt:=(fd_lower p).body
noncomputable def J_lower_0 (p:Params) (c:CC) (fr:Fr):M Fl:=execK (P p) c (sc_lower p) 59 fr ((bo_lower p).drop 1) (fun fr => ret (.next fr))
noncomputable def J_lower_0_T0 (p:Params) (c:CC) (vc:V):M Fl :=
ret (.ret vc)
theorem Ug8 (p:Params) (c:CC) (vc:V):J_lower_0 p c [(Y "c",vc)] = J_lower_0_T0 p c vc:=by kernel_rfl
noncomputable def F_lower (p:Params) (c:CC) (vc:V):M Fl :=
bnd (c a_is_upper [vc]) fun x1 =>
(match isT x1 with
| some x2 => (if x2 then
bnd (builtinV .ord [vc]) fun x3 =>
bnd (look (binV .Add x3 (.int 32))) fun x4 =>
bnd (builtinV .chr [x4]) fun x5 =>
ret (.ret x5)
else
J_lower_0 p c [(Y "c",vc)])
| none => fail)
theorem Usb (p:Params) (d:Nat) (vc:V):callK (P p) (d + 1) a_lower [vc] = bnd (F_lower p (callK (P p) d) vc) unFl:=by kernel_rfl
noncomputable def F_finish_tag (p:Params) (c:CC) (vt:V):M Fl :=
mc p c vt (Y "to") [(.str (Y "data"))] fun x2 =>
mc p c vt (Y "emit_draft") [] fun x4 =>
ret (.next [(Y "t",vt)])
theorem Uig (p:Params) (d:Nat) (vt:V):callK (P p) (d + 1) a_finish_tag [vt] = bnd (F_finish_tag p (callK (P p) d) vt) unFl:=by kernel_rfl
noncomputable def F_cut_tag (p:Params) (c:CC) (vt:V):M Fl :=
mc p c vt (Y "error") [(.str (Y "eof-in-tag"))] fun x2 =>
mc p c vt (Y "emit_eof") [] fun x4 =>
ret (.next [(Y "t",vt)])
theorem Umq (p:Params) (d:Nat) (vt:V):callK (P p) (d + 1) a_cut_tag [vt] = bnd (F_cut_tag p (callK (P p) d) vt) unFl:=by kernel_rfl
noncomputable def F_leave_name (p:Params) (c:CC) (vt:V):M Fl :=
bnd (attrV (P p) vt (Y "draft")) fun x1 =>
mc p c x1 (Y "check_attr") [] fun x3 =>
(match isT x3 with
| some x4 => (if (!x4) then
mc p c vt (Y "error") [(.str (Y "duplicate-attribute"))] fun x6 =>
ret (.next [(Y "t",vt)])
else
ret (.next [(Y "t",vt)]))
| none => fail)
theorem Uho (p:Params) (d:Nat) (vt:V):callK (P p) (d + 1) a_leave_name [vt] = bnd (F_leave_name p (callK (P p) d) vt) unFl:=by kernel_rfl
noncomputable def F_begin_reference (p:Params) (c:CC) (vt:V):M Fl :=
bnd (attrV (P p) vt (Y "state")) fun x1 =>
bnd (setAttrV (P p) vt (Y "back") x1) fun w0 =>
mc p c vt (Y "to") [(.str (Y "character reference"))] fun x3 =>
ret (.next [(Y "t",vt)])
theorem Ueg (p:Params) (d:Nat) (vt:V):callK (P p) (d + 1) a_begin_reference [vt] = bnd (F_begin_reference p (callK (P p) d) vt) unFl:=by kernel_rfl
noncomputable def fd_before_attr_name_state (p:Params):Fn:=fnAt (K p) [] a_before_attr_name_state
noncomputable def sc_before_attr_name_state (p:Params):Scope:=(fd_before_attr_name_state p).scope
noncomputable def bo_before_attr_name_state (p:Params):List Stmt:=(fd_before_attr_name_state p).body
noncomputable def J_before_attr_name_state_0 (p:Params) (c:CC) (fr:Fr):M Fl:=execK (P p) c (sc_before_attr_name_state p) 58 fr ((bo_before_attr_name_state p).drop 2) (fun fr => ret (.next fr))
noncomputable def J_before_attr_name_state_0_T0 (p:Params) (c:CC) (vt vc:V):M Fl :=
bnd (look (cmpV .In vc (.tup [(.str (Y "/")),(.str (Y ">")),(.str (Y ""))]))) fun x5 =>
(if x5 then
mc p c vt (Y "again") [(.str (Y "after attribute name"))] fun x7 =>
ret (.next [(Y "t",vt),(Y "c",vc)])
else
bnd (look (cmpV .Eq vc (.str (Y "=")))) fun x8 =>
(if x8 then
mc p c vt (Y "error") [(.str (Y "unexpected-equals-sign-before-attribute-name"))] fun x10 =>
bnd (attrV (P p) vt (Y "draft")) fun x11 =>
mc p c x11 (Y "begin_attr") [] fun x13 =>
bnd (attrV (P p) vt (Y "draft")) fun x14 =>
mc p c x14 (Y "add_name") [vc] fun x16 =>
mc p c vt (Y "to") [(.str (Y "attribute name"))] fun x18 =>
ret (.next [(Y "t",vt),(Y "c",vc)])
else
bnd (attrV (P p) vt (Y "draft")) fun x19 =>
mc p c x19 (Y "begin_attr") [] fun x21 =>
mc p c vt (Y "again") [(.str (Y "attribute name"))] fun x23 =>
ret (.next [(Y "t",vt),(Y "c",vc)])))
theorem Uaz (p:Params) (c:CC) (vt vc:V):J_before_attr_name_state_0 p c [(Y "t",vt),(Y "c",vc)] = J_before_attr_name_state_0_T0 p c vt vc:=by kernel_rfl
noncomputable def F_before_attr_name_state (p:Params) (c:CC) (vt:V):M Fl :=
mc p c vt (Y "next") [] fun x2 =>
bnd (c a_is_blank [x2]) fun x3 =>
(match isT x3 with
| some x4 => (if x4 then
ret (.ret .none)
else
J_before_attr_name_state_0 p c [(Y "t",vt),(Y "c",x2)])
| none => fail)
theorem Ubw (p:Params) (d:Nat) (vt:V):callK (P p) (d + 1) a_before_attr_name_state [vt] = bnd (F_before_attr_name_state p (callK (P p) d) vt) unFl:=by kernel_rfl
noncomputable def fd_attr_name_state (p:Params):Fn:=fnAt (K p) [] a_attr_name_state
noncomputable def sc_attr_name_state (p:Params):Scope:=(fd_attr_name_state p).scope
noncomputable def bo_attr_name_state (p:Params):List Stmt:=(fd_attr_name_state p).body
noncomputable def J_attr_name_state_0 (p:Params) (c:CC) (fr:Fr):M Fl:=execK (P p) c (sc_attr_name_state p) 52 fr ((others (stAt (others (stAt (others (stAt (bo_attr_name_state p) 1)) 0)) 0)).drop 1) (fun fr => ret (.next fr))
noncomputable def J_attr_name_state_0_T0 (p:Params) (c:CC) (vt vc:V):M Fl :=
bnd (attrV (P p) vt (Y "draft")) fun x25 =>
bnd (look (methK (P p) x25 (Y "add_name"))) fun x26 =>
if isRepl x26 then fail else bnd (c a_lower [vc]) fun x27 =>
bnd (methodV c x26 x25 [x27]) fun x28 =>
ret (.next [(Y "t",vt),(Y "c",vc)])
theorem Ub4 (p:Params) (c:CC) (vt vc:V):J_attr_name_state_0 p c [(Y "t",vt),(Y "c",vc)] = J_attr_name_state_0_T0 p c vt vc:=by kernel_rfl
noncomputable def F_attr_name_state (p:Params) (c:CC) (vt:V):M Fl :=
mc p c vt (Y "next") [] fun x2 =>
bnd (c a_is_blank [x2]) fun x3 =>
(match isT x3 with
| some x4 => (cond x4
(bnd (c a_leave_name [vt]) fun x5 =>
mc p c vt (Y "again") [(.str (Y "after attribute name"))] fun x7 =>
ret (.next [(Y "t",vt),(Y "c",x2)]))
(bnd (look (cmpV .In x2 (.tup [(.str (Y "/")),(.str (Y ">")),(.str (Y ""))]))) fun x8 =>
(cond x8
(bnd (c a_leave_name [vt]) fun x9 =>
mc p c vt (Y "again") [(.str (Y "after attribute name"))] fun x11 =>
ret (.next [(Y "t",vt),(Y "c",x2)]))
(bnd (look (cmpV .Eq x2 (.str (Y "=")))) fun x12 =>
(if x12 then
bnd (c a_leave_name [vt]) fun x13 =>
mc p c vt (Y "to") [(.str (Y "before attribute value"))] fun x15 =>
ret (.next [(Y "t",vt),(Y "c",x2)])
else
bnd (look (cmpV .Eq x2 (.str (Y "\x00")))) fun x16 =>
(if x16 then
mc p c vt (Y "error") [(.str (Y "unexpected-null-character"))] fun x18 =>
bnd (attrV (P p) vt (Y "draft")) fun x19 =>
mc p c x19 (Y "add_name") [(.str (Y "�"))] fun x21 =>
ret (.next [(Y "t",vt),(Y "c",x2)])
else
bnd (look (cmpV .In x2 (.tup [(.str (Y "\"")),(.str (Y "'")),(.str (Y "<"))]))) fun x22 =>
(if x22 then
mc p c vt (Y "error") [(.str (Y "unexpected-character-in-attribute-name"))] fun x24 =>
J_attr_name_state_0 p c [(Y "t",vt),(Y "c",x2)]
else
J_attr_name_state_0 p c [(Y "t",vt),(Y "c",x2)])))))))
| none => fail)
theorem Ueh (p:Params) (d:Nat) (vt:V):callK (P p) (d + 1) a_attr_name_state [vt] = bnd (F_attr_name_state p (callK (P p) d) vt) unFl:=by kernel_rfl
noncomputable def fd_after_attr_name_state (p:Params):Fn:=fnAt (K p) [] a_after_attr_name_state
noncomputable def sc_after_attr_name_state (p:Params):Scope:=(fd_after_attr_name_state p).scope
noncomputable def bo_after_attr_name_state (p:Params):List Stmt:=(fd_after_attr_name_state p).body
noncomputable def J_after_attr_name_state_0 (p:Params) (c:CC) (fr:Fr):M Fl:=execK (P p) c (sc_after_attr_name_state p) 58 fr ((bo_after_attr_name_state p).drop 2) (fun fr => ret (.next fr))
noncomputable def J_after_attr_name_state_0_T0 (p:Params) (c:CC) (vt vc:V):M Fl :=
bnd (look (cmpV .Eq vc (.str (Y "/")))) fun x5 =>
(if x5 then
mc p c vt (Y "to") [(.str (Y "self-closing start tag"))] fun x7 =>
ret (.next [(Y "t",vt),(Y "c",vc)])
else
bnd (look (cmpV .Eq vc (.str (Y "=")))) fun x8 =>
(if x8 then
mc p c vt (Y "to") [(.str (Y "before attribute value"))] fun x10 =>
ret (.next [(Y "t",vt),(Y "c",vc)])
else
bnd (look (cmpV .Eq vc (.str (Y ">")))) fun x11 =>
(if x11 then
bnd (c a_finish_tag [vt]) fun x12 =>
ret (.next [(Y "t",vt),(Y "c",vc)])
else
bnd (look (cmpV .Eq vc (.str (Y "")))) fun x13 =>
(if x13 then
bnd (c a_cut_tag [vt]) fun x14 =>
ret (.next [(Y "t",vt),(Y "c",vc)])
else
bnd (attrV (P p) vt (Y "draft")) fun x15 =>
mc p c x15 (Y "begin_attr") [] fun x17 =>
mc p c vt (Y "again") [(.str (Y "attribute name"))] fun x19 =>
ret (.next [(Y "t",vt),(Y "c",vc)])))))
theorem Ua2 (p:Params) (c:CC) (vt vc:V):J_after_attr_name_state_0 p c [(Y "t",vt),(Y "c",vc)] = J_after_attr_name_state_0_T0 p c vt vc:=by kernel_rfl
noncomputable def F_after_attr_name_state (p:Params) (c:CC) (vt:V):M Fl :=
mc p c vt (Y "next") [] fun x2 =>
bnd (c a_is_blank [x2]) fun x3 =>
(match isT x3 with
| some x4 => (if x4 then
ret (.ret .none)
else
J_after_attr_name_state_0 p c [(Y "t",vt),(Y "c",x2)])
| none => fail)
theorem Ub6 (p:Params) (d:Nat) (vt:V):callK (P p) (d + 1) a_after_attr_name_state [vt] = bnd (F_after_attr_name_state p (callK (P p) d) vt) unFl:=by kernel_rfl
noncomputable def fd_before_attr_value_state (p:Params):Fn:=fnAt (K p) [] a_before_attr_value_state
noncomputable def sc_before_attr_value_state (p:Params):Scope:=(fd_before_attr_value_state p).scope
noncomputable def bo_before_attr_value_state (p:Params):List Stmt:=(fd_before_attr_value_state p).body
noncomputable def J_before_attr_value_state_0 (p:Params) (c:CC) (fr:Fr):M Fl:=execK (P p) c (sc_before_attr_value_state p) 58 fr ((bo_before_attr_value_state p).drop 2) (fun fr => ret (.next fr))
noncomputable def J_before_attr_value_state_0_T0 (p:Params) (c:CC) (vt vc:V):M Fl :=
bnd (look (cmpV .Eq vc (.str (Y "\"")))) fun x5 =>
(if x5 then
mc p c vt (Y "to") [(.str (Y "attribute value (double-quoted)"))] fun x7 =>
ret (.next [(Y "t",vt),(Y "c",vc)])
else
bnd (look (cmpV .Eq vc (.str (Y "'")))) fun x8 =>
(if x8 then
mc p c vt (Y "to") [(.str (Y "attribute value (single-quoted)"))] fun x10 =>
ret (.next [(Y "t",vt),(Y "c",vc)])
else
bnd (look (cmpV .Eq vc (.str (Y ">")))) fun x11 =>
(if x11 then
mc p c vt (Y "error") [(.str (Y "missing-attribute-value"))] fun x13 =>
bnd (c a_finish_tag [vt]) fun x14 =>
ret (.next [(Y "t",vt),(Y "c",vc)])
else
mc p c vt (Y "again") [(.str (Y "attribute value (unquoted)"))] fun x16 =>
ret (.next [(Y "t",vt),(Y "c",vc)]))))
theorem Uat (p:Params) (c:CC) (vt vc:V):J_before_attr_value_state_0 p c [(Y "t",vt),(Y "c",vc)] = J_before_attr_value_state_0_T0 p c vt vc:=by kernel_rfl
noncomputable def F_before_attr_value_state (p:Params) (c:CC) (vt:V):M Fl :=
mc p c vt (Y "next") [] fun x2 =>
bnd (c a_is_blank [x2]) fun x3 =>
(match isT x3 with
| some x4 => (if x4 then
ret (.ret .none)
else
J_before_attr_value_state_0 p c [(Y "t",vt),(Y "c",x2)])
| none => fail)
theorem Ubo (p:Params) (d:Nat) (vt:V):callK (P p) (d + 1) a_before_attr_value_state [vt] = bnd (F_before_attr_value_state p (callK (P p) d) vt) unFl:=by kernel_rfl
noncomputable def F_quoted_value (p:Params) (c:CC) (vt vquote:V):M Fl :=
mc p c vt (Y "next") [] fun x2 =>
bnd (look (cmpV .Eq x2 vquote)) fun x3 =>
(if x3 then
mc p c vt (Y "to") [(.str (Y "after attribute value (quoted)"))] fun x5 =>
ret (.next [(Y "t",vt),(Y "quote",vquote),(Y "c",x2)])
else
bnd (look (cmpV .Eq x2 (.str (Y "&")))) fun x6 =>
(if x6 then
bnd (c a_begin_reference [vt]) fun x7 =>
ret (.next [(Y "t",vt),(Y "quote",vquote),(Y "c",x2)])
else
bnd (look (cmpV .Eq x2 (.str (Y "\x00")))) fun x8 =>
(if x8 then
mc p c vt (Y "error") [(.str (Y "unexpected-null-character"))] fun x10 =>
bnd (attrV (P p) vt (Y "draft")) fun x11 =>
mc p c x11 (Y "add_value") [(.str (Y "�"))] fun x13 =>
ret (.next [(Y "t",vt),(Y "quote",vquote),(Y "c",x2)])
else
bnd (look (cmpV .Eq x2 (.str (Y "")))) fun x14 =>
(if x14 then
bnd (c a_cut_tag [vt]) fun x15 =>
ret (.next [(Y "t",vt),(Y "quote",vquote),(Y "c",x2)])
else
bnd (attrV (P p) vt (Y "draft")) fun x16 =>
mc p c x16 (Y "add_value") [x2] fun x18 =>
ret (.next [(Y "t",vt),(Y "quote",vquote),(Y "c",x2)])))))
theorem Uf4 (p:Params) (d:Nat) (vt vquote:V):callK (P p) (d + 1) a_quoted_value [vt,vquote] = bnd (F_quoted_value p (callK (P p) d) vt vquote) unFl:=by kernel_rfl
noncomputable def F_double_quoted_state (p:Params) (c:CC) (vt:V):M Fl :=
bnd (c a_quoted_value [vt,(.str (Y "\""))]) fun x1 =>
ret (.next [(Y "t",vt)])
theorem Uco (p:Params) (d:Nat) (vt:V):callK (P p) (d + 1) a_double_quoted_state [vt] = bnd (F_double_quoted_state p (callK (P p) d) vt) unFl:=by kernel_rfl
noncomputable def F_single_quoted_state (p:Params) (c:CC) (vt:V):M Fl :=
bnd (c a_quoted_value [vt,(.str (Y "'"))]) fun x1 =>
ret (.next [(Y "t",vt)])
theorem Ucm (p:Params) (d:Nat) (vt:V):callK (P p) (d + 1) a_single_quoted_state [vt] = bnd (F_single_quoted_state p (callK (P p) d) vt) unFl:=by kernel_rfl
noncomputable def fd_unquoted_state (p:Params):Fn:=fnAt (K p) [] a_unquoted_state
noncomputable def sc_unquoted_state (p:Params):Scope:=(fd_unquoted_state p).scope
noncomputable def bo_unquoted_state (p:Params):List Stmt:=(fd_unquoted_state p).body
noncomputable def J_unquoted_state_0 (p:Params) (c:CC) (fr:Fr):M Fl:=execK (P p) c (sc_unquoted_state p) 48 fr ((others (stAt (others (stAt (others (stAt (others (stAt (others (stAt (bo_unquoted_state p) 1)) 0)) 0)) 0)) 0)).drop 1) (fun fr => ret (.next fr))
noncomputable def J_unquoted_state_0_T0 (p:Params) (c:CC) (vt vc:V):M Fl :=
bnd (attrV (P p) vt (Y "draft")) fun x22 =>
mc p c x22 (Y "add_value") [vc] fun x24 =>
ret (.next [(Y "t",vt),(Y "c",vc)])
theorem Uca (p:Params) (c:CC) (vt vc:V):J_unquoted_state_0 p c [(Y "t",vt),(Y "c",vc)] = J_unquoted_state_0_T0 p c vt vc:=by kernel_rfl
noncomputable def F_unquoted_state (p:Params) (c:CC) (vt:V):M Fl :=
mc p c vt (Y "next") [] fun x2 =>
bnd (c a_is_blank [x2]) fun x3 =>
(match isT x3 with
| some x4 => (if x4 then
mc p c vt (Y "to") [(.str (Y "before attribute name"))] fun x6 =>
ret (.next [(Y "t",vt),(Y "c",x2)])
else
bnd (look (cmpV .Eq x2 (.str (Y "&")))) fun x7 =>
(if x7 then
bnd (c a_begin_reference [vt]) fun x8 =>
ret (.next [(Y "t",vt),(Y "c",x2)])
else
bnd (look (cmpV .Eq x2 (.str (Y ">")))) fun x9 =>
(if x9 then
bnd (c a_finish_tag [vt]) fun x10 =>
ret (.next [(Y "t",vt),(Y "c",x2)])
else
bnd (look (cmpV .Eq x2 (.str (Y "\x00")))) fun x11 =>
(if x11 then
mc p c vt (Y "error") [(.str (Y "unexpected-null-character"))] fun x13 =>
bnd (attrV (P p) vt (Y "draft")) fun x14 =>
mc p c x14 (Y "add_value") [(.str (Y "�"))] fun x16 =>
ret (.next [(Y "t",vt),(Y "c",x2)])
else
bnd (look (cmpV .Eq x2 (.str (Y "")))) fun x17 =>
(if x17 then
bnd (c a_cut_tag [vt]) fun x18 =>
ret (.next [(Y "t",vt),(Y "c",x2)])
else
bnd (look (cmpV .In x2 (.tup [(.str (Y "\"")),(.str (Y "'")),(.str (Y "<")),(.str (Y "=")),(.str (Y "`"))]))) fun x19 =>
(if x19 then
mc p c vt (Y "error") [(.str (Y "unexpected-character-in-unquoted-attribute-value"))] fun x21 =>
J_unquoted_state_0 p c [(Y "t",vt),(Y "c",x2)]
else
J_unquoted_state_0 p c [(Y "t",vt),(Y "c",x2)]))))))
| none => fail)
theorem Uez (p:Params) (d:Nat) (vt:V):callK (P p) (d + 1) a_unquoted_state [vt] = bnd (F_unquoted_state p (callK (P p) d) vt) unFl:=by kernel_rfl
noncomputable def F_after_quoted_state (p:Params) (c:CC) (vt:V):M Fl :=
mc p c vt (Y "next") [] fun x2 =>
bnd (c a_is_blank [x2]) fun x3 =>
(match isT x3 with
| some x4 => (if x4 then
mc p c vt (Y "to") [(.str (Y "before attribute name"))] fun x6 =>
ret (.next [(Y "t",vt),(Y "c",x2)])
else
bnd (look (cmpV .Eq x2 (.str (Y "/")))) fun x7 =>
(if x7 then
mc p c vt (Y "to") [(.str (Y "self-closing start tag"))] fun x9 =>
ret (.next [(Y "t",vt),(Y "c",x2)])
else
bnd (look (cmpV .Eq x2 (.str (Y ">")))) fun x10 =>
(if x10 then
bnd (c a_finish_tag [vt]) fun x11 =>
ret (.next [(Y "t",vt),(Y "c",x2)])
else
bnd (look (cmpV .Eq x2 (.str (Y "")))) fun x12 =>
(if x12 then
bnd (c a_cut_tag [vt]) fun x13 =>
ret (.next [(Y "t",vt),(Y "c",x2)])
else
mc p c vt (Y "error") [(.str (Y "missing-whitespace-between-attributes"))] fun x15 =>
mc p c vt (Y "again") [(.str (Y "before attribute name"))] fun x17 =>
ret (.next [(Y "t",vt),(Y "c",x2)])))))
| none => fail)
theorem Ucq (p:Params) (d:Nat) (vt:V):callK (P p) (d + 1) a_after_quoted_state [vt] = bnd (F_after_quoted_state p (callK (P p) d) vt) unFl:=by kernel_rfl
noncomputable def F_attr_states (p:Params) (c:CC):M Fl :=
bnd (newD 3 [(Y "before attribute name",(.fn a_before_attr_name_state)),(Y "attribute name",(.fn a_attr_name_state)),(Y "after attribute name",(.fn a_after_attr_name_state)),(Y "before attribute value",(.fn a_before_attr_value_state)),(Y "attribute value (double-quoted)",(.fn a_double_quoted_state)),(Y "attribute value (single-quoted)",(.fn a_single_quoted_state)),(Y "attribute value (unquoted)",(.fn a_unquoted_state)),(Y "after attribute value (quoted)",(.fn a_after_quoted_state))]) fun x1 =>
ret (.ret x1)
theorem Ugq (p:Params) (d:Nat):callK (P p) (d + 1) a_attr_states [] = bnd (F_attr_states p (callK (P p) d) ) unFl:=by kernel_rfl
noncomputable def F_Draft_init (p:Params) (c:CC) (vself vkind vname:V):M Fl :=
bnd (setAttrV (P p) vself (Y "kind") vkind) fun w0 =>
bnd (setAttrV (P p) vself (Y "name") vname) fun w0 =>
bnd (setAttrV (P p) vself (Y "text") (.str (Y ""))) fun w0 =>
bnd (setAttrV (P p) vself (Y "public") .none) fun w0 =>
bnd (setAttrV (P p) vself (Y "system") .none) fun w0 =>
bnd (setAttrV (P p) vself (Y "is_quirks") (.bool false)) fun w0 =>
bnd (setAttrV (P p) vself (Y "is_closing") (.bool false)) fun w0 =>
bnd (newL 4 []) fun x1 =>
bnd (setAttrV (P p) vself (Y "attrs") x1) fun w0 =>
ret (.next [(Y "self",vself),(Y "kind",vkind),(Y "name",vname)])
theorem Uid (p:Params) (d:Nat) (vself vkind vname:V):callK (P p) (d + 1) a_Draft_init [vself,vkind,vname] = bnd (F_Draft_init p (callK (P p) d) vself vkind vname) unFl:=by kernel_rfl
noncomputable def F_Draft_begin_attr (p:Params) (c:CC) (vself:V):M Fl :=
bnd (attrV (P p) vself (Y "attrs")) fun x1 =>
bnd (look (methK (P p) x1 (Y "append"))) fun x2 =>
if isRepl x2 then fail else bnd (newL 5 [(.str (Y "")),(.str (Y "")),(.bool true)]) fun x3 =>
bnd (methodV c x2 x1 [x3]) fun x4 =>
ret (.next [(Y "self",vself)])
theorem Ud1 (p:Params) (d:Nat) (vself:V):callK (P p) (d + 1) a_Draft_begin_attr [vself] = bnd (F_Draft_begin_attr p (callK (P p) d) vself) unFl:=by kernel_rfl
noncomputable def F_Draft_add_name (p:Params) (c:CC) (vself vtext:V):M Fl :=
bnd (attrV (P p) vself (Y "attrs")) fun x1 =>
bnd (look (itemV x1 (.int (-1)))) fun x2 =>
bnd (look (itemV x2 (.int 0))) fun x3 =>
bnd (look (binV .Add x3 vtext)) fun x4 =>
bnd (setItemV x2 (.int 0) x4) fun w0 =>
ret (.next [(Y "self",vself),(Y "text",vtext),(Y "last",x2)])
theorem Ufd (p:Params) (d:Nat) (vself vtext:V):callK (P p) (d + 1) a_Draft_add_name [vself,vtext] = bnd (F_Draft_add_name p (callK (P p) d) vself vtext) unFl:=by kernel_rfl
noncomputable def F_Draft_add_value (p:Params) (c:CC) (vself vtext:V):M Fl :=
bnd (attrV (P p) vself (Y "attrs")) fun x1 =>
bnd (look (itemV x1 (.int (-1)))) fun x2 =>
bnd (look (itemV x2 (.int 1))) fun x3 =>
bnd (look (binV .Add x3 vtext)) fun x4 =>
bnd (setItemV x2 (.int 1) x4) fun w0 =>
ret (.next [(Y "self",vself),(Y "text",vtext),(Y "last",x2)])
theorem Uee (p:Params) (d:Nat) (vself vtext:V):callK (P p) (d + 1) a_Draft_add_value [vself,vtext] = bnd (F_Draft_add_value p (callK (P p) d) vself vtext) unFl:=by kernel_rfl
noncomputable def fd_Draft_check_attr (p:Params):Fn:=fnAt (K p) [] a_Draft_check_attr
noncomputable def sc_Draft_check_attr (p:Params):Scope:=(fd_Draft_check_attr p).scope
noncomputable def bo_Draft_check_attr (p:Params):List Stmt:=(fd_Draft_check_attr p).body
noncomputable def st_Draft_check_attr_l0 (p:Params):Stmt:=(stAt (bo_Draft_check_attr p) 1)
noncomputable def J_Draft_check_attr_0 (p:Params) (c:CC) (fr:Fr):M Fl:=execK (P p) c (sc_Draft_check_attr p) 58 fr ((bo_Draft_check_attr p).drop 2) (fun fr => ret (.next fr))
noncomputable def T_Draft_check_attr_l0_0 (p:Params) (c:CC) (vself vlast vi:V):M Fl :=
bnd (attrV (P p) vself (Y "attrs")) fun x7 =>
bnd (look (itemV x7 vi)) fun x8 =>
bnd (look (itemV x8 (.int 2))) fun x9 =>
(match isT x9 with
| some x10 => (cond x10
(bnd (attrV (P p) vself (Y "attrs")) fun x11 =>
bnd (look (itemV x11 vi)) fun x12 =>
bnd (look (itemV x12 (.int 0))) fun x13 =>
bnd (look (itemV vlast (.int 0))) fun x14 =>
bnd (look (cmpV .Eq x13 x14)) fun x15 =>
(cond x15
(bnd (setItemV vlast (.int 2) (.bool false)) fun w0 =>
ret (.ret (.bool false)))
(ret (.next [(Y "self",vself),(Y "last",vlast),(Y "i",vi)]))))
(ret (.next [(Y "self",vself),(Y "last",vlast),(Y "i",vi)])))
| none => fail)
theorem Ubk (p:Params) (c:CC) (vself vlast vi:V):turnL (P p) c (sc_Draft_check_attr p) 57 (st_Draft_check_attr_l0 p) [(Y "self",vself),(Y "last",vlast),(Y "i",vi)] = T_Draft_check_attr_l0_0 p c vself vlast vi:=by kernel_rfl
noncomputable def J_Draft_check_attr_0_T0 (p:Params) (c:CC) (vself vlast:V):M Fl :=
ret (.ret (.bool true))
theorem Ubt (p:Params) (c:CC) (vself vlast:V):J_Draft_check_attr_0 p c [(Y "self",vself),(Y "last",vlast)] = J_Draft_check_attr_0_T0 p c vself vlast:=by kernel_rfl
noncomputable def J_Draft_check_attr_0_T1 (p:Params) (c:CC) (vself vlast vi:V):M Fl :=
ret (.ret (.bool true))
theorem Ub1 (p:Params) (c:CC) (vself vlast vi:V):J_Draft_check_attr_0 p c [(Y "self",vself),(Y "last",vlast),(Y "i",vi)] = J_Draft_check_attr_0_T1 p c vself vlast vi:=by kernel_rfl
noncomputable def F_Draft_check_attr (p:Params) (c:CC) (vself:V):M Fl :=
bnd (attrV (P p) vself (Y "attrs")) fun x1 =>
bnd (look (itemV x1 (.int (-1)))) fun x2 =>
bnd (attrV (P p) vself (Y "attrs")) fun x3 =>
bnd (builtinV .len [x3]) fun x4 =>
bnd (look (binV .Sub x4 (.int 1))) fun x5 =>
bnd (builtinV .range [x5]) fun x6 =>
bnd (loopF x6 (setL (sc_Draft_check_attr p) (Y "i")) (turnL (P p) c (sc_Draft_check_attr p) 57 (st_Draft_check_attr_l0 p)) 5000 0 [(Y "self",vself),(Y "last",x2)]) (goOn (J_Draft_check_attr_0 p c))
theorem Ud3 (p:Params) (d:Nat) (vself:V):callK (P p) (d + 1) a_Draft_check_attr [vself] = bnd (F_Draft_check_attr p (callK (P p) d) vself) unFl:=by kernel_rfl
noncomputable def fd_Draft_token (p:Params):Fn:=fnAt (K p) [] a_Draft_token
noncomputable def sc_Draft_token (p:Params):Scope:=(fd_Draft_token p).scope
noncomputable def bo_Draft_token (p:Params):List Stmt:=(fd_Draft_token p).body
noncomputable def st_Draft_token_l0 (p:Params):Stmt:=(stAt (bo_Draft_token p) 3)
noncomputable def J_Draft_token_0 (p:Params) (c:CC) (fr:Fr):M Fl:=execK (P p) c (sc_Draft_token p) 59 fr ((bo_Draft_token p).drop 1) (fun fr => ret (.next fr))
noncomputable def J_Draft_token_1 (p:Params) (c:CC) (fr:Fr):M Fl:=execK (P p) c (sc_Draft_token p) 58 fr ((bo_Draft_token p).drop 2) (fun fr => ret (.next fr))
noncomputable def J_Draft_token_2 (p:Params) (c:CC) (fr:Fr):M Fl:=execK (P p) c (sc_Draft_token p) 56 fr ((bo_Draft_token p).drop 4) (fun fr => ret (.next fr))
noncomputable def J_Draft_token_0_T0 (p:Params) (c:CC) (vself:V):M Fl :=
bnd (attrV (P p) vself (Y "kind")) fun x4 =>
bnd (look (cmpV .Eq x4 (.str (Y "doctype")))) fun x5 =>
(if x5 then
bnd (attrV (P p) vself (Y "name")) fun x6 =>
bnd (attrV (P p) vself (Y "public")) fun x7 =>
bnd (attrV (P p) vself (Y "system")) fun x8 =>
bnd (attrV (P p) vself (Y "is_quirks")) fun x9 =>
ret (.ret (.tup [(.str (Y "doctype")),x6,x7,x8,x9]))
else
J_Draft_token_1 p c [(Y "self",vself)])
theorem Udf (p:Params) (c:CC) (vself:V):J_Draft_token_0 p c [(Y "self",vself)] = J_Draft_token_0_T0 p c vself:=by kernel_rfl
noncomputable def J_Draft_token_1_T0 (p:Params) (c:CC) (vself:V):M Fl :=
bnd (newL 6 []) fun x10 =>
bnd (attrV (P p) vself (Y "attrs")) fun x11 =>
bnd (loopF x11 (setL (sc_Draft_token p) (Y "attr")) (turnL (P p) c (sc_Draft_token p) 55 (st_Draft_token_l0 p)) 5000 0 [(Y "self",vself),(Y "kept",x10)]) (goOn (J_Draft_token_2 p c))
theorem Udd (p:Params) (c:CC) (vself:V):J_Draft_token_1 p c [(Y "self",vself)] = J_Draft_token_1_T0 p c vself:=by kernel_rfl
noncomputable def T_Draft_token_l0_0 (p:Params) (c:CC) (vself vkept vattr:V):M Fl :=
bnd (look (itemV vattr (.int 2))) fun x12 =>
(match isT x12 with
| some x13 => (if x13 then
bnd (look (methK (P p) vkept (Y "append"))) fun x14 =>
if isRepl x14 then fail else bnd (look (itemV vattr (.int 0))) fun x15 =>
bnd (look (itemV vattr (.int 1))) fun x16 =>
bnd (methodV c x14 vkept [(.tup [x15,x16])]) fun x17 =>
ret (.next [(Y "self",vself),(Y "kept",vkept),(Y "attr",vattr)])
else
ret (.next [(Y "self",vself),(Y "kept",vkept),(Y "attr",vattr)]))
| none => fail)
theorem Uck (p:Params) (c:CC) (vself vkept vattr:V):turnL (P p) c (sc_Draft_token p) 55 (st_Draft_token_l0 p) [(Y "self",vself),(Y "kept",vkept),(Y "attr",vattr)] = T_Draft_token_l0_0 p c vself vkept vattr:=by kernel_rfl
noncomputable def J_Draft_token_2_T0 (p:Params) (c:CC) (vself vkept:V):M Fl :=
bnd (attrV (P p) vself (Y "kind")) fun x18 =>
bnd (attrV (P p) vself (Y "name")) fun x19 =>
bnd (builtinV .tuple [vkept]) fun x20 =>
bnd (attrV (P p) vself (Y "is_closing")) fun x21 =>
ret (.ret (.tup [x18,x19,x20,x21]))
theorem Udj (p:Params) (c:CC) (vself vkept:V):J_Draft_token_2 p c [(Y "self",vself),(Y "kept",vkept)] = J_Draft_token_2_T0 p c vself vkept:=by kernel_rfl
noncomputable def J_Draft_token_2_T1 (p:Params) (c:CC) (vself vkept vattr:V):M Fl :=
bnd (attrV (P p) vself (Y "kind")) fun x22 =>
bnd (attrV (P p) vself (Y "name")) fun x23 =>
bnd (builtinV .tuple [vkept]) fun x24 =>
bnd (attrV (P p) vself (Y "is_closing")) fun x25 =>
ret (.ret (.tup [x22,x23,x24,x25]))
theorem Udq (p:Params) (c:CC) (vself vkept vattr:V):J_Draft_token_2 p c [(Y "self",vself),(Y "kept",vkept),(Y "attr",vattr)] = J_Draft_token_2_T1 p c vself vkept vattr:=by kernel_rfl
noncomputable def F_Draft_token (p:Params) (c:CC) (vself:V):M Fl :=
bnd (attrV (P p) vself (Y "kind")) fun x1 =>
bnd (look (cmpV .Eq x1 (.str (Y "comment")))) fun x2 =>
(if x2 then
bnd (attrV (P p) vself (Y "text")) fun x3 =>
ret (.ret (.tup [(.str (Y "comment")),x3]))
else
J_Draft_token_0 p c [(Y "self",vself)])
theorem Ug5 (p:Params) (d:Nat) (vself:V):callK (P p) (d + 1) a_Draft_token [vself] = bnd (F_Draft_token p (callK (P p) d) vself) unFl:=by kernel_rfl
noncomputable def F_tag_open_state (p:Params) (c:CC) (vt:V):M Fl :=
mc p c vt (Y "next") [] fun x2 =>
bnd (look (cmpV .Eq x2 (.str (Y "!")))) fun x3 =>
(if x3 then
mc p c vt (Y "to") [(.str (Y "markup declaration open"))] fun x5 =>
ret (.next [(Y "t",vt),(Y "c",x2)])
else
bnd (look (cmpV .Eq x2 (.str (Y "/")))) fun x6 =>
(if x6 then
mc p c vt (Y "to") [(.str (Y "end tag open"))] fun x8 =>
ret (.next [(Y "t",vt),(Y "c",x2)])
else
bnd (c a_is_letter [x2]) fun x9 =>
(match isT x9 with
| some x10 => (if x10 then
bnd (applyV (P p) c (.fn c_Draft) [(.str (Y "start")),(.str (Y ""))]) fun x11 =>
bnd (setAttrV (P p) vt (Y "draft") x11) fun w0 =>
mc p c vt (Y "again") [(.str (Y "tag name"))] fun x13 =>
ret (.next [(Y "t",vt),(Y "c",x2)])
else
bnd (look (cmpV .Eq x2 (.str (Y "?")))) fun x14 =>
(if x14 then
mc p c vt (Y "error") [(.str (Y "unexpected-question-mark-instead-of-tag-name"))] fun x16 =>
bnd (applyV (P p) c (.fn c_Draft) [(.str (Y "comment")),(.str (Y ""))]) fun x17 =>
bnd (setAttrV (P p) vt (Y "draft") x17) fun w0 =>
mc p c vt (Y "again") [(.str (Y "bogus comment"))] fun x19 =>
ret (.next [(Y "t",vt),(Y "c",x2)])
else
bnd (look (cmpV .Eq x2 (.str (Y "")))) fun x20 =>
(if x20 then
mc p c vt (Y "error") [(.str (Y "eof-before-tag-name"))] fun x22 =>
mc p c vt (Y "emit_sign") [(.str (Y "<"))] fun x24 =>
mc p c vt (Y "emit_eof") [] fun x26 =>
ret (.next [(Y "t",vt),(Y "c",x2)])
else
mc p c vt (Y "error") [(.str (Y "invalid-first-character-of-tag-name"))] fun x28 =>
mc p c vt (Y "emit_sign") [(.str (Y "<"))] fun x30 =>
mc p c vt (Y "again") [(.str (Y "data"))] fun x32 =>
ret (.next [(Y "t",vt),(Y "c",x2)]))))
| none => fail)))
theorem Ue8 (p:Params) (d:Nat) (vt:V):callK (P p) (d + 1) a_tag_open_state [vt] = bnd (F_tag_open_state p (callK (P p) d) vt) unFl:=by kernel_rfl
noncomputable def F_end_tag_open_state (p:Params) (c:CC) (vt:V):M Fl :=
mc p c vt (Y "next") [] fun x2 =>
bnd (c a_is_letter [x2]) fun x3 =>
(match isT x3 with
| some x4 => (if x4 then
bnd (applyV (P p) c (.fn c_Draft) [(.str (Y "end")),(.str (Y ""))]) fun x5 =>
bnd (setAttrV (P p) vt (Y "draft") x5) fun w0 =>
mc p c vt (Y "again") [(.str (Y "tag name"))] fun x7 =>
ret (.next [(Y "t",vt),(Y "c",x2)])
else
bnd (look (cmpV .Eq x2 (.str (Y ">")))) fun x8 =>
(if x8 then
mc p c vt (Y "error") [(.str (Y "missing-end-tag-name"))] fun x10 =>
mc p c vt (Y "to") [(.str (Y "data"))] fun x12 =>
ret (.next [(Y "t",vt),(Y "c",x2)])
else
bnd (look (cmpV .Eq x2 (.str (Y "")))) fun x13 =>
(if x13 then
mc p c vt (Y "error") [(.str (Y "eof-before-tag-name"))] fun x15 =>
mc p c vt (Y "emit_text") [(.str (Y "</"))] fun x17 =>
mc p c vt (Y "emit_eof") [] fun x19 =>
ret (.next [(Y "t",vt),(Y "c",x2)])
else
mc p c vt (Y "error") [(.str (Y "invalid-first-character-of-tag-name"))] fun x21 =>
bnd (applyV (P p) c (.fn c_Draft) [(.str (Y "comment")),(.str (Y ""))]) fun x22 =>
bnd (setAttrV (P p) vt (Y "draft") x22) fun w0 =>
mc p c vt (Y "again") [(.str (Y "bogus comment"))] fun x24 =>
ret (.next [(Y "t",vt),(Y "c",x2)]))))
| none => fail)
theorem Ucs (p:Params) (d:Nat) (vt:V):callK (P p) (d + 1) a_end_tag_open_state [vt] = bnd (F_end_tag_open_state p (callK (P p) d) vt) unFl:=by kernel_rfl
noncomputable def F_tag_name_state (p:Params) (c:CC) (vt:V):M Fl :=
mc p c vt (Y "next") [] fun x2 =>
bnd (c a_is_blank [x2]) fun x3 =>
(match isT x3 with
| some x4 => (if x4 then
mc p c vt (Y "to") [(.str (Y "before attribute name"))] fun x6 =>
ret (.next [(Y "t",vt),(Y "c",x2)])
else
bnd (look (cmpV .Eq x2 (.str (Y "/")))) fun x7 =>
(if x7 then
mc p c vt (Y "to") [(.str (Y "self-closing start tag"))] fun x9 =>
ret (.next [(Y "t",vt),(Y "c",x2)])
else
bnd (look (cmpV .Eq x2 (.str (Y ">")))) fun x10 =>
(if x10 then
mc p c vt (Y "to") [(.str (Y "data"))] fun x12 =>
mc p c vt (Y "emit_draft") [] fun x14 =>
ret (.next [(Y "t",vt),(Y "c",x2)])
else
bnd (look (cmpV .Eq x2 (.str (Y "\x00")))) fun x15 =>
(if x15 then
mc p c vt (Y "error") [(.str (Y "unexpected-null-character"))] fun x17 =>
bnd (attrV (P p) vt (Y "draft")) fun x18 =>
bnd (attrV (P p) x18 (Y "name")) fun x19 =>
bnd (look (binV .Add x19 (.str (Y "�")))) fun x20 =>
bnd (attrV (P p) vt (Y "draft")) fun x21 =>
bnd (setAttrV (P p) x21 (Y "name") x20) fun w0 =>
ret (.next [(Y "t",vt),(Y "c",x2)])
else
bnd (look (cmpV .Eq x2 (.str (Y "")))) fun x22 =>
(if x22 then
mc p c vt (Y "error") [(.str (Y "eof-in-tag"))] fun x24 =>
mc p c vt (Y "emit_eof") [] fun x26 =>
ret (.next [(Y "t",vt),(Y "c",x2)])
else
bnd (attrV (P p) vt (Y "draft")) fun x27 =>
bnd (attrV (P p) x27 (Y "name")) fun x28 =>
bnd (c a_lower [x2]) fun x29 =>
bnd (look (binV .Add x28 x29)) fun x30 =>
bnd (attrV (P p) vt (Y "draft")) fun x31 =>
bnd (setAttrV (P p) x31 (Y "name") x30) fun w0 =>
ret (.next [(Y "t",vt),(Y "c",x2)]))))))
| none => fail)
theorem Ue1 (p:Params) (d:Nat) (vt:V):callK (P p) (d + 1) a_tag_name_state [vt] = bnd (F_tag_name_state p (callK (P p) d) vt) unFl:=by kernel_rfl
noncomputable def F_self_closing_state (p:Params) (c:CC) (vt:V):M Fl :=
mc p c vt (Y "next") [] fun x2 =>
bnd (look (cmpV .Eq x2 (.str (Y ">")))) fun x3 =>
(if x3 then
bnd (attrV (P p) vt (Y "draft")) fun x4 =>
bnd (setAttrV (P p) x4 (Y "is_closing") (.bool true)) fun w0 =>
mc p c vt (Y "to") [(.str (Y "data"))] fun x6 =>
mc p c vt (Y "emit_draft") [] fun x8 =>
ret (.next [(Y "t",vt),(Y "c",x2)])
else
bnd (look (cmpV .Eq x2 (.str (Y "")))) fun x9 =>
(if x9 then
mc p c vt (Y "error") [(.str (Y "eof-in-tag"))] fun x11 =>
mc p c vt (Y "emit_eof") [] fun x13 =>
ret (.next [(Y "t",vt),(Y "c",x2)])
else
mc p c vt (Y "error") [(.str (Y "unexpected-solidus-in-tag"))] fun x15 =>
mc p c vt (Y "again") [(.str (Y "before attribute name"))] fun x17 =>
ret (.next [(Y "t",vt),(Y "c",x2)])))
theorem Uc2 (p:Params) (d:Nat) (vt:V):callK (P p) (d + 1) a_self_closing_state [vt] = bnd (F_self_closing_state p (callK (P p) d) vt) unFl:=by kernel_rfl
noncomputable def F_tag_states (p:Params) (c:CC):M Fl :=
bnd (newD 3 [(Y "tag open",(.fn a_tag_open_state)),(Y "end tag open",(.fn a_end_tag_open_state)),(Y "tag name",(.fn a_tag_name_state)),(Y "self-closing start tag",(.fn a_self_closing_state))]) fun x1 =>
ret (.ret x1)
theorem Uh2 (p:Params) (d:Nat):callK (P p) (d + 1) a_tag_states [] = bnd (F_tag_states p (callK (P p) d) ) unFl:=by kernel_rfl
noncomputable def F_Stream_init (p:Params) (c:CC) (vself:V):M Fl :=
bnd (newL 7 []) fun x1 =>
bnd (setAttrV (P p) vself (Y "signs") x1) fun w0 =>
bnd (setAttrV (P p) vself (Y "is_closed") (.bool false)) fun w0 =>
bnd (setAttrV (P p) vself (Y "is_return") (.bool false)) fun w0 =>
bnd (newL 8 []) fun x2 =>
bnd (setAttrV (P p) vself (Y "errors") x2) fun w0 =>
ret (.next [(Y "self",vself)])
theorem Ugp (p:Params) (d:Nat) (vself:V):callK (P p) (d + 1) a_Stream_init [vself] = bnd (F_Stream_init p (callK (P p) d) vself) unFl:=by kernel_rfl
noncomputable def fd_Stream_feed (p:Params):Fn:=fnAt (K p) [] a_Stream_feed
noncomputable def sc_Stream_feed (p:Params):Scope:=(fd_Stream_feed p).scope
noncomputable def bo_Stream_feed (p:Params):List Stmt:=(fd_Stream_feed p).body
noncomputable def st_Stream_feed_l0 (p:Params):Stmt:=(stAt (bo_Stream_feed p) 1)
noncomputable def J_Stream_feed_0 (p:Params) (c:CC) (fr:Fr):M Fl:=execK (P p) c (sc_Stream_feed p) 59 fr ((bo_Stream_feed p).drop 1) (fun fr => ret (.next fr))
noncomputable def J_Stream_feed_1 (p:Params) (c:CC) (fr:Fr):M Fl:=execK (P p) c (sc_Stream_feed p) 58 fr ((bo_Stream_feed p).drop 2) (fun fr => ret (.next fr))
noncomputable def J_Stream_feed_2 (p:Params) (c:CC) (fr:Fr):M Fl:=execK (P p) c (sc_Stream_feed p) 56 fr ((inner (st_Stream_feed_l0 p)).drop 1) (fun fr => ret (.next fr))
noncomputable def J_Stream_feed_3 (p:Params) (c:CC) (fr:Fr):M Fl:=execK (P p) c (sc_Stream_feed p) 51 fr ((inner (stAt (others (stAt (inner (st_Stream_feed_l0 p)) 0)) 0)).drop 2) (J_Stream_feed_2 p c)
noncomputable def J_Stream_feed_0_T0 (p:Params) (c:CC) (vself vtext:V):M Fl :=
bnd (loopF vtext (setL (sc_Stream_feed p) (Y "c")) (turnL (P p) c (sc_Stream_feed p) 57 (st_Stream_feed_l0 p)) 5000 0 [(Y "self",vself),(Y "text",vtext)]) (goOn (J_Stream_feed_1 p c))
theorem Uc9 (p:Params) (c:CC) (vself vtext:V):J_Stream_feed_0 p c [(Y "self",vself),(Y "text",vtext)] = J_Stream_feed_0_T0 p c vself vtext:=by kernel_rfl
noncomputable def T_Stream_feed_l0_0 (p:Params) (c:CC) (vself vtext vc:V):M Fl :=
bnd (look (cmpV .Eq vc (.str (Y "\x0d")))) fun x3 =>
(if x3 then
bnd (attrV (P p) vself (Y "signs")) fun x4 =>
mc p c x4 (Y "append") [(.str (Y "\x0a"))] fun x6 =>
J_Stream_feed_2 p c [(Y "self",vself),(Y "text",vtext),(Y "c",vc)]
else
bnd (look (cmpV .NotEq vc (.str (Y "\x0a")))) fun x7 =>
(cond x7
(bnd (builtinV .ord [vc]) fun x8 =>
bnd (c a_input_error [x8]) fun x9 =>
bnd (look (cmpV .NotEq x9 (.str (Y "")))) fun x10 =>
(if x10 then
bnd (attrV (P p) vself (Y "errors")) fun x11 =>
bnd (look (methK (P p) x11 (Y "append"))) fun x12 =>
if isRepl x12 then fail else bnd (attrV (P p) vself (Y "signs")) fun x13 =>
bnd (builtinV .len [x13]) fun x14 =>
bnd (methodV c x12 x11 [(.tup [x9,x14])]) fun x15 =>
J_Stream_feed_3 p c [(Y "self",vself),(Y "text",vtext),(Y "c",vc),(Y "code",x9)]
else
J_Stream_feed_3 p c [(Y "self",vself),(Y "text",vtext),(Y "c",vc),(Y "code",x9)]))
(bnd (attrV (P p) vself (Y "is_return")) fun x16 =>
(match isT x16 with
| some x17 => (cond (!x17)
(bnd (builtinV .ord [vc]) fun x18 =>
bnd (c a_input_error [x18]) fun x19 =>
bnd (look (cmpV .NotEq x19 (.str (Y "")))) fun x20 =>
(if x20 then
bnd (attrV (P p) vself (Y "errors")) fun x21 =>
bnd (look (methK (P p) x21 (Y "append"))) fun x22 =>
if isRepl x22 then fail else bnd (attrV (P p) vself (Y "signs")) fun x23 =>
bnd (builtinV .len [x23]) fun x24 =>
bnd (methodV c x22 x21 [(.tup [x19,x24])]) fun x25 =>
J_Stream_feed_3 p c [(Y "self",vself),(Y "text",vtext),(Y "c",vc),(Y "code",x19)]
else
J_Stream_feed_3 p c [(Y "self",vself),(Y "text",vtext),(Y "c",vc),(Y "code",x19)]))
(J_Stream_feed_2 p c [(Y "self",vself),(Y "text",vtext),(Y "c",vc)]))
| none => fail))))
theorem Ua0 (p:Params) (c:CC) (vself vtext vc:V):turnL (P p) c (sc_Stream_feed p) 57 (st_Stream_feed_l0 p) [(Y "self",vself),(Y "text",vtext),(Y "c",vc)] = T_Stream_feed_l0_0 p c vself vtext vc:=by kernel_rfl
noncomputable def T_Stream_feed_l0_1 (p:Params) (c:CC) (vself vtext vc vcode:V):M Fl :=
bnd (look (cmpV .Eq vc (.str (Y "\x0d")))) fun x26 =>
(if x26 then
bnd (attrV (P p) vself (Y "signs")) fun x27 =>
mc p c x27 (Y "append") [(.str (Y "\x0a"))] fun x29 =>
J_Stream_feed_2 p c [(Y "self",vself),(Y "text",vtext),(Y "c",vc),(Y "code",vcode)]
else
bnd (look (cmpV .NotEq vc (.str (Y "\x0a")))) fun x30 =>
(cond x30
(bnd (builtinV .ord [vc]) fun x31 =>
bnd (c a_input_error [x31]) fun x32 =>
bnd (look (cmpV .NotEq x32 (.str (Y "")))) fun x33 =>
(if x33 then
bnd (attrV (P p) vself (Y "errors")) fun x34 =>
bnd (look (methK (P p) x34 (Y "append"))) fun x35 =>
if isRepl x35 then fail else bnd (attrV (P p) vself (Y "signs")) fun x36 =>
bnd (builtinV .len [x36]) fun x37 =>
bnd (methodV c x35 x34 [(.tup [x32,x37])]) fun x38 =>
J_Stream_feed_3 p c [(Y "self",vself),(Y "text",vtext),(Y "c",vc),(Y "code",x32)]
else
J_Stream_feed_3 p c [(Y "self",vself),(Y "text",vtext),(Y "c",vc),(Y "code",x32)]))
(bnd (attrV (P p) vself (Y "is_return")) fun x39 =>
(match isT x39 with
| some x40 => (cond (!x40)
(bnd (builtinV .ord [vc]) fun x41 =>
bnd (c a_input_error [x41]) fun x42 =>
bnd (look (cmpV .NotEq x42 (.str (Y "")))) fun x43 =>
(if x43 then
bnd (attrV (P p) vself (Y "errors")) fun x44 =>
bnd (look (methK (P p) x44 (Y "append"))) fun x45 =>
if isRepl x45 then fail else bnd (attrV (P p) vself (Y "signs")) fun x46 =>
bnd (builtinV .len [x46]) fun x47 =>
bnd (methodV c x45 x44 [(.tup [x42,x47])]) fun x48 =>
J_Stream_feed_3 p c [(Y "self",vself),(Y "text",vtext),(Y "c",vc),(Y "code",x42)]
else
J_Stream_feed_3 p c [(Y "self",vself),(Y "text",vtext),(Y "c",vc),(Y "code",x42)]))
(J_Stream_feed_2 p c [(Y "self",vself),(Y "text",vtext),(Y "c",vc),(Y "code",vcode)]))
| none => fail))))
theorem Uci (p:Params) (c:CC) (vself vtext vc vcode:V):turnL (P p) c (sc_Stream_feed p) 57 (st_Stream_feed_l0 p) [(Y "self",vself),(Y "text",vtext),(Y "c",vc),(Y "code",vcode)] = T_Stream_feed_l0_1 p c vself vtext vc vcode:=by kernel_rfl
noncomputable def J_Stream_feed_1_T0 (p:Params) (c:CC) (vself vtext:V):M Fl :=
ret (.next [(Y "self",vself),(Y "text",vtext)])
theorem Udb (p:Params) (c:CC) (vself vtext:V):J_Stream_feed_1 p c [(Y "self",vself),(Y "text",vtext)] = J_Stream_feed_1_T0 p c vself vtext:=by kernel_rfl
noncomputable def J_Stream_feed_1_T1 (p:Params) (c:CC) (vself vtext vc:V):M Fl :=
ret (.next [(Y "self",vself),(Y "text",vtext),(Y "c",vc)])
theorem Udo (p:Params) (c:CC) (vself vtext vc:V):J_Stream_feed_1 p c [(Y "self",vself),(Y "text",vtext),(Y "c",vc)] = J_Stream_feed_1_T1 p c vself vtext vc:=by kernel_rfl
noncomputable def J_Stream_feed_1_T2 (p:Params) (c:CC) (vself vtext vc vcode:V):M Fl :=
ret (.next [(Y "self",vself),(Y "text",vtext),(Y "c",vc),(Y "code",vcode)])
theorem Uc6 (p:Params) (c:CC) (vself vtext vc vcode:V):J_Stream_feed_1 p c [(Y "self",vself),(Y "text",vtext),(Y "c",vc),(Y "code",vcode)] = J_Stream_feed_1_T2 p c vself vtext vc vcode:=by kernel_rfl
noncomputable def J_Stream_feed_2_T0 (p:Params) (c:CC) (vself vtext vc:V):M Fl :=
bnd (look (cmpV .Eq vc (.str (Y "\x0d")))) fun x49 =>
bnd (setAttrV (P p) vself (Y "is_return") (.bool x49)) fun w0 =>
ret (.next [(Y "self",vself),(Y "text",vtext),(Y "c",vc)])
theorem Uc7 (p:Params) (c:CC) (vself vtext vc:V):J_Stream_feed_2 p c [(Y "self",vself),(Y "text",vtext),(Y "c",vc)] = J_Stream_feed_2_T0 p c vself vtext vc:=by kernel_rfl
noncomputable def J_Stream_feed_2_T1 (p:Params) (c:CC) (vself vtext vc vcode:V):M Fl :=
bnd (look (cmpV .Eq vc (.str (Y "\x0d")))) fun x50 =>
bnd (setAttrV (P p) vself (Y "is_return") (.bool x50)) fun w0 =>
ret (.next [(Y "self",vself),(Y "text",vtext),(Y "c",vc),(Y "code",vcode)])
theorem Udp (p:Params) (c:CC) (vself vtext vc vcode:V):J_Stream_feed_2 p c [(Y "self",vself),(Y "text",vtext),(Y "c",vc),(Y "code",vcode)] = J_Stream_feed_2_T1 p c vself vtext vc vcode:=by kernel_rfl
noncomputable def J_Stream_feed_3_T0 (p:Params) (c:CC) (vself vtext vc vcode:V):M Fl :=
bnd (attrV (P p) vself (Y "signs")) fun x51 =>
mc p c x51 (Y "append") [vc] fun x53 =>
J_Stream_feed_2 p c [(Y "self",vself),(Y "text",vtext),(Y "c",vc),(Y "code",vcode)]
theorem Udm (p:Params) (c:CC) (vself vtext vc vcode:V):J_Stream_feed_3 p c [(Y "self",vself),(Y "text",vtext),(Y "c",vc),(Y "code",vcode)] = J_Stream_feed_3_T0 p c vself vtext vc vcode:=by kernel_rfl
noncomputable def F_Stream_feed (p:Params) (c:CC) (vself vtext:V):M Fl :=
bnd (attrV (P p) vself (Y "is_closed")) fun x1 =>
(match isT x1 with
| some x2 => (if x2 then
fail
else
J_Stream_feed_0 p c [(Y "self",vself),(Y "text",vtext)])
| none => fail)
theorem Ugt (p:Params) (d:Nat) (vself vtext:V):callK (P p) (d + 1) a_Stream_feed [vself,vtext] = bnd (F_Stream_feed p (callK (P p) d) vself vtext) unFl:=by kernel_rfl
noncomputable def F_Stream_end (p:Params) (c:CC) (vself:V):M Fl :=
bnd (setAttrV (P p) vself (Y "is_closed") (.bool true)) fun w0 =>
ret (.next [(Y "self",vself)])
theorem Uhj (p:Params) (d:Nat) (vself:V):callK (P p) (d + 1) a_Stream_end [vself] = bnd (F_Stream_end p (callK (P p) d) vself) unFl:=by kernel_rfl
noncomputable def F_Tokenizer_init (p:Params) (c:CC) (vself vstates vstate vlast:V):M Fl :=
bnd (setAttrV (P p) vself (Y "states") vstates) fun w0 =>
bnd (applyV (P p) c (.fn c_Stream) []) fun x1 =>
bnd (setAttrV (P p) vself (Y "stream") x1) fun w0 =>
bnd (setAttrV (P p) vself (Y "at") (.int 0)) fun w0 =>
bnd (setAttrV (P p) vself (Y "state") vstate) fun w0 =>
bnd (setAttrV (P p) vself (Y "back") (.str (Y "data"))) fun w0 =>
bnd (newL 9 []) fun x2 =>
bnd (setAttrV (P p) vself (Y "out") x2) fun w0 =>
bnd (newL 10 []) fun x3 =>
bnd (setAttrV (P p) vself (Y "errors") x3) fun w0 =>
bnd (setAttrV (P p) vself (Y "draft") .none) fun w0 =>
bnd (setAttrV (P p) vself (Y "buffer") (.str (Y ""))) fun w0 =>
bnd (setAttrV (P p) vself (Y "code") (.int 0)) fun w0 =>
bnd (setAttrV (P p) vself (Y "last") vlast) fun w0 =>
bnd (setAttrV (P p) vself (Y "is_foreign") (.bool false)) fun w0 =>
bnd (setAttrV (P p) vself (Y "is_waiting") (.bool false)) fun w0 =>
bnd (setAttrV (P p) vself (Y "is_done") (.bool false)) fun w0 =>
ret (.next [(Y "self",vself),(Y "states",vstates),(Y "state",vstate),(Y "last",vlast)])
noncomputable def F_Tokenizer_feed (p:Params) (c:CC) (vself vtext:V):M Fl :=
bnd (attrV (P p) vself (Y "stream")) fun x1 =>
mc p c x1 (Y "feed") [vtext] fun x3 =>
bnd (setAttrV (P p) vself (Y "is_waiting") (.bool false)) fun w0 =>
ret (.next [(Y "self",vself),(Y "text",vtext)])
theorem Ue4 (p:Params) (d:Nat) (vself vtext:V):callK (P p) (d + 1) a_Tokenizer_feed [vself,vtext] = bnd (F_Tokenizer_feed p (callK (P p) d) vself vtext) unFl:=by kernel_rfl
noncomputable def F_Tokenizer_end (p:Params) (c:CC) (vself:V):M Fl :=
bnd (attrV (P p) vself (Y "stream")) fun x1 =>
mc p c x1 (Y "end") [] fun x3 =>
bnd (setAttrV (P p) vself (Y "is_waiting") (.bool false)) fun w0 =>
ret (.next [(Y "self",vself)])
theorem Ufh (p:Params) (d:Nat) (vself:V):callK (P p) (d + 1) a_Tokenizer_end [vself] = bnd (F_Tokenizer_end p (callK (P p) d) vself) unFl:=by kernel_rfl
noncomputable def fd_Tokenizer_next (p:Params):Fn:=fnAt (K p) [] a_Tokenizer_next
noncomputable def sc_Tokenizer_next (p:Params):Scope:=(fd_Tokenizer_next p).scope
noncomputable def bo_Tokenizer_next (p:Params):List Stmt:=(fd_Tokenizer_next p).body
noncomputable def J_Tokenizer_next_0 (p:Params) (c:CC) (fr:Fr):M Fl:=execK (P p) c (sc_Tokenizer_next p) 57 fr ((bo_Tokenizer_next p).drop 3) (fun fr => ret (.next fr))
noncomputable def J_Tokenizer_next_0_T0 (p:Params) (c:CC) (vself vat:V):M Fl :=
ret (.ret (.str (Y "")))
theorem Ucb (p:Params) (c:CC) (vself vat:V):J_Tokenizer_next_0 p c [(Y "self",vself),(Y "at",vat)] = J_Tokenizer_next_0_T0 p c vself vat:=by kernel_rfl
noncomputable def F_Tokenizer_next (p:Params) (c:CC) (vself:V):M Fl :=
bnd (attrV (P p) vself (Y "at")) fun x1 =>
bnd (look (binV .Add x1 (.int 1))) fun x2 =>
bnd (setAttrV (P p) vself (Y "at") x2) fun w0 =>
bnd (attrV (P p) vself (Y "stream")) fun x3 =>
bnd (attrV (P p) x3 (Y "signs")) fun x4 =>
bnd (builtinV .len [x4]) fun x5 =>
bnd (look (cmpV .Lt x1 x5)) fun x6 =>
(if x6 then
bnd (attrV (P p) vself (Y "stream")) fun x7 =>
bnd (attrV (P p) x7 (Y "signs")) fun x8 =>
bnd (look (itemV x8 x1)) fun x9 =>
ret (.ret x9)
else
J_Tokenizer_next_0 p c [(Y "self",vself),(Y "at",x1)])
theorem Ue9 (p:Params) (d:Nat) (vself:V):callK (P p) (d + 1) a_Tokenizer_next [vself] = bnd (F_Tokenizer_next p (callK (P p) d) vself) unFl:=by kernel_rfl
noncomputable def F_Tokenizer_to (p:Params) (c:CC) (vself vstate:V):M Fl :=
bnd (setAttrV (P p) vself (Y "state") vstate) fun w0 =>
ret (.next [(Y "self",vself),(Y "state",vstate)])
theorem Ugk (p:Params) (d:Nat) (vself vstate:V):callK (P p) (d + 1) a_Tokenizer_to [vself,vstate] = bnd (F_Tokenizer_to p (callK (P p) d) vself vstate) unFl:=by kernel_rfl
noncomputable def F_Tokenizer_again (p:Params) (c:CC) (vself vstate:V):M Fl :=
bnd (attrV (P p) vself (Y "at")) fun x1 =>
bnd (look (augV .Sub x1 (.int 1))) fun x2 =>
bnd (setAttrV (P p) vself (Y "at") x2) fun w0 =>
bnd (setAttrV (P p) vself (Y "state") vstate) fun w0 =>
ret (.next [(Y "self",vself),(Y "state",vstate)])
theorem Uef (p:Params) (d:Nat) (vself vstate:V):callK (P p) (d + 1) a_Tokenizer_again [vself,vstate] = bnd (F_Tokenizer_again p (callK (P p) d) vself vstate) unFl:=by kernel_rfl
noncomputable def F_Tokenizer_error (p:Params) (c:CC) (vself vcode:V):M Fl :=
bnd (attrV (P p) vself (Y "errors")) fun x1 =>
bnd (look (methK (P p) x1 (Y "append"))) fun x2 =>
if isRepl x2 then fail else bnd (attrV (P p) vself (Y "at")) fun x3 =>
bnd (look (binV .Sub x3 (.int 1))) fun x4 =>
bnd (methodV c x2 x1 [(.tup [vcode,x4])]) fun x5 =>
ret (.next [(Y "self",vself),(Y "code",vcode)])
theorem Uem (p:Params) (d:Nat) (vself vcode:V):callK (P p) (d + 1) a_Tokenizer_error [vself,vcode] = bnd (F_Tokenizer_error p (callK (P p) d) vself vcode) unFl:=by kernel_rfl
noncomputable def fd_Tokenizer_emit (p:Params):Fn:=fnAt (K p) [] a_Tokenizer_emit
noncomputable def sc_Tokenizer_emit (p:Params):Scope:=(fd_Tokenizer_emit p).scope
noncomputable def bo_Tokenizer_emit (p:Params):List Stmt:=(fd_Tokenizer_emit p).body
noncomputable def J_Tokenizer_emit_0 (p:Params) (c:CC) (fr:Fr):M Fl:=execK (P p) c (sc_Tokenizer_emit p) 59 fr ((bo_Tokenizer_emit p).drop 1) (fun fr => ret (.next fr))
noncomputable def J_Tokenizer_emit_0_T0 (p:Params) (c:CC) (vself vtoken:V):M Fl :=
bnd (attrV (P p) vself (Y "out")) fun x4 =>
mc p c x4 (Y "append") [vtoken] fun x6 =>
ret (.next [(Y "self",vself),(Y "token",vtoken)])
theorem Uay (p:Params) (c:CC) (vself vtoken:V):J_Tokenizer_emit_0 p c [(Y "self",vself),(Y "token",vtoken)] = J_Tokenizer_emit_0_T0 p c vself vtoken:=by kernel_rfl
noncomputable def F_Tokenizer_emit (p:Params) (c:CC) (vself vtoken:V):M Fl :=
bnd (look (itemV vtoken (.int 0))) fun x1 =>
bnd (look (cmpV .Eq x1 (.str (Y "start")))) fun x2 =>
(if x2 then
bnd (look (itemV vtoken (.int 1))) fun x3 =>
bnd (setAttrV (P p) vself (Y "last") x3) fun w0 =>
J_Tokenizer_emit_0 p c [(Y "self",vself),(Y "token",vtoken)]
else
J_Tokenizer_emit_0 p c [(Y "self",vself),(Y "token",vtoken)])
theorem Ue3 (p:Params) (d:Nat) (vself vtoken:V):callK (P p) (d + 1) a_Tokenizer_emit [vself,vtoken] = bnd (F_Tokenizer_emit p (callK (P p) d) vself vtoken) unFl:=by kernel_rfl
noncomputable def F_Tokenizer_emit_sign (p:Params) (c:CC) (vself vsign:V):M Fl :=
bnd (attrV (P p) vself (Y "out")) fun x1 =>
mc p c x1 (Y "append") [(.tup [(.str (Y "char")),vsign])] fun x3 =>
ret (.next [(Y "self",vself),(Y "sign",vsign)])
theorem Ucj (p:Params) (d:Nat) (vself vsign:V):callK (P p) (d + 1) a_Tokenizer_emit_sign [vself,vsign] = bnd (F_Tokenizer_emit_sign p (callK (P p) d) vself vsign) unFl:=by kernel_rfl
noncomputable def fd_Tokenizer_emit_text (p:Params):Fn:=fnAt (K p) [] a_Tokenizer_emit_text
noncomputable def sc_Tokenizer_emit_text (p:Params):Scope:=(fd_Tokenizer_emit_text p).scope
noncomputable def bo_Tokenizer_emit_text (p:Params):List Stmt:=(fd_Tokenizer_emit_text p).body
noncomputable def st_Tokenizer_emit_text_l0 (p:Params):Stmt:=(stAt (bo_Tokenizer_emit_text p) 0)
noncomputable def J_Tokenizer_emit_text_0 (p:Params) (c:CC) (fr:Fr):M Fl:=execK (P p) c (sc_Tokenizer_emit_text p) 59 fr ((bo_Tokenizer_emit_text p).drop 1) (fun fr => ret (.next fr))
noncomputable def T_Tokenizer_emit_text_l0_0 (p:Params) (c:CC) (vself vtext vsign:V):M Fl :=
bnd (attrV (P p) vself (Y "out")) fun x1 =>
mc p c x1 (Y "append") [(.tup [(.str (Y "char")),vsign])] fun x3 =>
ret (.next [(Y "self",vself),(Y "text",vtext),(Y "sign",vsign)])
theorem Ua1 (p:Params) (c:CC) (vself vtext vsign:V):turnL (P p) c (sc_Tokenizer_emit_text p) 58 (st_Tokenizer_emit_text_l0 p) [(Y "self",vself),(Y "text",vtext),(Y "sign",vsign)] = T_Tokenizer_emit_text_l0_0 p c vself vtext vsign:=by kernel_rfl
noncomputable def J_Tokenizer_emit_text_0_T0 (p:Params) (c:CC) (vself vtext:V):M Fl :=
ret (.next [(Y "self",vself),(Y "text",vtext)])
theorem Uba (p:Params) (c:CC) (vself vtext:V):J_Tokenizer_emit_text_0 p c [(Y "self",vself),(Y "text",vtext)] = J_Tokenizer_emit_text_0_T0 p c vself vtext:=by kernel_rfl
noncomputable def J_Tokenizer_emit_text_0_T1 (p:Params) (c:CC) (vself vtext vsign:V):M Fl :=
ret (.next [(Y "self",vself),(Y "text",vtext),(Y "sign",vsign)])
theorem Ubb (p:Params) (c:CC) (vself vtext vsign:V):J_Tokenizer_emit_text_0 p c [(Y "self",vself),(Y "text",vtext),(Y "sign",vsign)] = J_Tokenizer_emit_text_0_T1 p c vself vtext vsign:=by kernel_rfl
noncomputable def F_Tokenizer_emit_text (p:Params) (c:CC) (vself vtext:V):M Fl :=
bnd (loopF vtext (setL (sc_Tokenizer_emit_text p) (Y "sign")) (turnL (P p) c (sc_Tokenizer_emit_text p) 58 (st_Tokenizer_emit_text_l0 p)) 5000 0 [(Y "self",vself),(Y "text",vtext)]) (goOn (J_Tokenizer_emit_text_0 p c))
theorem Ucn (p:Params) (d:Nat) (vself vtext:V):callK (P p) (d + 1) a_Tokenizer_emit_text [vself,vtext] = bnd (F_Tokenizer_emit_text p (callK (P p) d) vself vtext) unFl:=by kernel_rfl
noncomputable def fd_Tokenizer_emit_draft (p:Params):Fn:=fnAt (K p) [] a_Tokenizer_emit_draft
noncomputable def sc_Tokenizer_emit_draft (p:Params):Scope:=(fd_Tokenizer_emit_draft p).scope
noncomputable def bo_Tokenizer_emit_draft (p:Params):List Stmt:=(fd_Tokenizer_emit_draft p).body
noncomputable def J_Tokenizer_emit_draft_0 (p:Params) (c:CC) (fr:Fr):M Fl:=execK (P p) c (sc_Tokenizer_emit_draft p) 58 fr ((bo_Tokenizer_emit_draft p).drop 2) (fun fr => ret (.next fr))
noncomputable def J_Tokenizer_emit_draft_1 (p:Params) (c:CC) (fr:Fr):M Fl:=execK (P p) c (sc_Tokenizer_emit_draft p) 56 fr ((inner (stAt (bo_Tokenizer_emit_draft p) 1)).drop 1) (J_Tokenizer_emit_draft_0 p c)
noncomputable def J_Tokenizer_emit_draft_0_T0 (p:Params) (c:CC) (vself vdraft:V):M Fl :=
bnd (setAttrV (P p) vself (Y "draft") .none) fun w0 =>
bnd (look (methK (P p) vself (Y "emit"))) fun x9 =>
if isRepl x9 then fail else mc p c vdraft (Y "token") [] fun x11 =>
bnd (methodV c x9 vself [x11]) fun x12 =>
ret (.next [(Y "self",vself),(Y "draft",vdraft)])
theorem Ua6 (p:Params) (c:CC) (vself vdraft:V):J_Tokenizer_emit_draft_0 p c [(Y "self",vself),(Y "draft",vdraft)] = J_Tokenizer_emit_draft_0_T0 p c vself vdraft:=by kernel_rfl
noncomputable def J_Tokenizer_emit_draft_1_T0 (p:Params) (c:CC) (vself vdraft:V):M Fl :=
bnd (attrV (P p) vdraft (Y "is_closing")) fun x13 =>
(match isT x13 with
| some x14 => (if x14 then
mc p c vself (Y "error") [(.str (Y "end-tag-with-trailing-solidus"))] fun x16 =>
J_Tokenizer_emit_draft_0 p c [(Y "self",vself),(Y "draft",vdraft)]
else
J_Tokenizer_emit_draft_0 p c [(Y "self",vself),(Y "draft",vdraft)])
| none => fail)
theorem Ua9 (p:Params) (c:CC) (vself vdraft:V):J_Tokenizer_emit_draft_1 p c [(Y "self",vself),(Y "draft",vdraft)] = J_Tokenizer_emit_draft_1_T0 p c vself vdraft:=by kernel_rfl
noncomputable def F_Tokenizer_emit_draft (p:Params) (c:CC) (vself:V):M Fl :=
bnd (attrV (P p) vself (Y "draft")) fun x1 =>
bnd (attrV (P p) x1 (Y "kind")) fun x2 =>
bnd (look (cmpV .Eq x2 (.str (Y "end")))) fun x3 =>
(if x3 then
bnd (attrV (P p) x1 (Y "attrs")) fun x4 =>
bnd (builtinV .len [x4]) fun x5 =>
bnd (look (cmpV .Gt x5 (.int 0))) fun x6 =>
(if x6 then
mc p c vself (Y "error") [(.str (Y "end-tag-with-attributes"))] fun x8 =>
J_Tokenizer_emit_draft_1 p c [(Y "self",vself),(Y "draft",x1)]
else
J_Tokenizer_emit_draft_1 p c [(Y "self",vself),(Y "draft",x1)])
else
J_Tokenizer_emit_draft_0 p c [(Y "self",vself),(Y "draft",x1)])
theorem Ub8 (p:Params) (d:Nat) (vself:V):callK (P p) (d + 1) a_Tokenizer_emit_draft [vself] = bnd (F_Tokenizer_emit_draft p (callK (P p) d) vself) unFl:=by kernel_rfl
noncomputable def F_Tokenizer_emit_eof (p:Params) (c:CC) (vself:V):M Fl :=
bnd (attrV (P p) vself (Y "out")) fun x1 =>
mc p c x1 (Y "append") [(.tup [(.str (Y "eof"))])] fun x3 =>
bnd (setAttrV (P p) vself (Y "is_done") (.bool true)) fun w0 =>
ret (.next [(Y "self",vself)])
theorem Ucy (p:Params) (d:Nat) (vself:V):callK (P p) (d + 1) a_Tokenizer_emit_eof [vself] = bnd (F_Tokenizer_emit_eof p (callK (P p) d) vself) unFl:=by kernel_rfl
noncomputable def fd_Tokenizer_step (p:Params):Fn:=fnAt (K p) [] a_Tokenizer_step
noncomputable def sc_Tokenizer_step (p:Params):Scope:=(fd_Tokenizer_step p).scope
noncomputable def bo_Tokenizer_step (p:Params):List Stmt:=(fd_Tokenizer_step p).body
noncomputable def J_Tokenizer_step_0 (p:Params) (c:CC) (fr:Fr):M Fl:=execK (P p) c (sc_Tokenizer_step p) 59 fr ((bo_Tokenizer_step p).drop 1) (fun fr => ret (.next fr))
noncomputable def J_Tokenizer_step_0_T0 (p:Params) (c:CC) (vself:V):M Fl :=
bnd (setAttrV (P p) vself (Y "is_waiting") (.bool false)) fun w0 =>
bnd (attrV (P p) vself (Y "at")) fun x4 =>
bnd (attrV (P p) vself (Y "states")) fun x5 =>
bnd (attrV (P p) vself (Y "state")) fun x6 =>
bnd (look (itemV x5 x6)) fun x7 =>
bnd (applyV (P p) c x7 [vself]) fun x8 =>
bnd (attrV (P p) vself (Y "is_waiting")) fun x9 =>
(match isT x9 with
| some x10 => (if x10 then
bnd (setAttrV (P p) vself (Y "at") x4) fun w0 =>
ret (.next [(Y "self",vself),(Y "begun",x4),(Y "rule",x7)])
else
ret (.next [(Y "self",vself),(Y "begun",x4),(Y "rule",x7)]))
| none => fail)
theorem Ucd (p:Params) (c:CC) (vself:V):J_Tokenizer_step_0 p c [(Y "self",vself)] = J_Tokenizer_step_0_T0 p c vself:=by kernel_rfl
noncomputable def F_Tokenizer_step (p:Params) (c:CC) (vself:V):M Fl :=
bnd (attrV (P p) vself (Y "state")) fun x1 =>
bnd (attrV (P p) vself (Y "states")) fun x2 =>
bnd (look (cmpV .NotIn x1 x2)) fun x3 =>
(if x3 then
fail
else
J_Tokenizer_step_0 p c [(Y "self",vself)])
theorem Ufa (p:Params) (d:Nat) (vself:V):callK (P p) (d + 1) a_Tokenizer_step [vself] = bnd (F_Tokenizer_step p (callK (P p) d) vself) unFl:=by kernel_rfl
noncomputable def fd_Tokenizer_is_ready (p:Params):Fn:=fnAt (K p) [] a_Tokenizer_is_ready
noncomputable def sc_Tokenizer_is_ready (p:Params):Scope:=(fd_Tokenizer_is_ready p).scope
noncomputable def bo_Tokenizer_is_ready (p:Params):List Stmt:=(fd_Tokenizer_is_ready p).body
noncomputable def J_Tokenizer_is_ready_0 (p:Params) (c:CC) (fr:Fr):M Fl:=execK (P p) c (sc_Tokenizer_is_ready p) 59 fr ((bo_Tokenizer_is_ready p).drop 1) (fun fr => ret (.next fr))
noncomputable def J_Tokenizer_is_ready_0_T0 (p:Params) (c:CC) (vself:V):M Fl :=
bnd (attrV (P p) vself (Y "stream")) fun x8 =>
bnd (attrV (P p) x8 (Y "is_closed")) fun x9 =>
(match isT x9 with
| some x10 => (cond x10
(ret (.ret x9))
(bnd (attrV (P p) vself (Y "at")) fun x11 =>
bnd (attrV (P p) vself (Y "stream")) fun x12 =>
bnd (attrV (P p) x12 (Y "signs")) fun x13 =>
bnd (builtinV .len [x13]) fun x14 =>
bnd (look (cmpV .Lt x11 x14)) fun x15 =>
ret (.ret (.bool x15))))
| none => fail)
theorem Ubj (p:Params) (c:CC) (vself:V):J_Tokenizer_is_ready_0 p c [(Y "self",vself)] = J_Tokenizer_is_ready_0_T0 p c vself:=by kernel_rfl
noncomputable def F_Tokenizer_is_ready (p:Params) (c:CC) (vself:V):M Fl :=
bnd (attrV (P p) vself (Y "is_done")) fun x1 =>
(match isT x1 with
| some x2 => (cond x2
(ret (.ret (.bool false)))
(bnd (attrV (P p) vself (Y "is_waiting")) fun x3 =>
(match isT x3 with
| some x4 => (cond x4
(ret (.ret (.bool false)))
(bnd (attrV (P p) vself (Y "state")) fun x5 =>
bnd (attrV (P p) vself (Y "states")) fun x6 =>
bnd (look (cmpV .NotIn x5 x6)) fun x7 =>
(cond x7
(ret (.ret (.bool false)))
(J_Tokenizer_is_ready_0 p c [(Y "self",vself)]))))
| none => fail)))
| none => fail)
theorem Uc3 (p:Params) (d:Nat) (vself:V):callK (P p) (d + 1) a_Tokenizer_is_ready [vself] = bnd (F_Tokenizer_is_ready p (callK (P p) d) vself) unFl:=by kernel_rfl
noncomputable def fd_Tokenizer_run (p:Params):Fn:=fnAt (K p) [] a_Tokenizer_run
noncomputable def sc_Tokenizer_run (p:Params):Scope:=(fd_Tokenizer_run p).scope
noncomputable def bo_Tokenizer_run (p:Params):List Stmt:=(fd_Tokenizer_run p).body
noncomputable def st_Tokenizer_run_l0 (p:Params):Stmt:=(stAt (bo_Tokenizer_run p) 0)
noncomputable def J_Tokenizer_run_0 (p:Params) (c:CC) (fr:Fr):M Fl:=execK (P p) c (sc_Tokenizer_run p) 59 fr ((bo_Tokenizer_run p).drop 1) (fun fr => ret (.next fr))
noncomputable def T_Tokenizer_run_l0_0 (p:Params) (c:CC) (vself:V):M Fl :=
mc p c vself (Y "step") [] fun x2 =>
ret (.next [(Y "self",vself)])
theorem Ub5 (p:Params) (c:CC) (vself:V):turnL (P p) c (sc_Tokenizer_run p) 58 (st_Tokenizer_run_l0 p) [(Y "self",vself)] = T_Tokenizer_run_l0_0 p c vself:=by kernel_rfl
noncomputable def Q_Tokenizer_run_l0_0 (p:Params) (c:CC) (vself:V):M Bool :=
bnd (mc p c vself (Y "is_ready") [] fun x4 =>
(match isT x4 with
| some x5 => ret (.ret (.bool x5))
| none => fail)) unB
theorem Ub3 (p:Params) (c:CC) (vself:V):testL (P p) c (sc_Tokenizer_run p) 58 (st_Tokenizer_run_l0 p) [(Y "self",vself)] = Q_Tokenizer_run_l0_0 p c vself:=by kernel_rfl
noncomputable def J_Tokenizer_run_0_T0 (p:Params) (c:CC) (vself:V):M Fl :=
bnd (attrV (P p) vself (Y "is_done")) fun x6 =>
ret (.ret x6)
theorem Ucl (p:Params) (c:CC) (vself:V):J_Tokenizer_run_0 p c [(Y "self",vself)] = J_Tokenizer_run_0_T0 p c vself:=by kernel_rfl
noncomputable def F_Tokenizer_run (p:Params) (c:CC) (vself:V):M Fl :=
bnd (loopW (testL (P p) c (sc_Tokenizer_run p) 58 (st_Tokenizer_run_l0 p)) (turnL (P p) c (sc_Tokenizer_run p) 58 (st_Tokenizer_run_l0 p)) 5000 [(Y "self",vself)]) (goOn (J_Tokenizer_run_0 p c))
theorem Ufi (p:Params) (d:Nat) (vself:V):callK (P p) (d + 1) a_Tokenizer_run [vself] = bnd (F_Tokenizer_run p (callK (P p) d) vself) unFl:=by kernel_rfl
noncomputable def F__law_signs (p:Params) (c:CC) (vscript:V):M Fl :=
bnd (ret (V.lst [(.str (Y " ")),(.str (Y "a")),(.str (Y "=")),(.str (Y "\"")),(.str (Y "/")),(.str (Y "B")),(.str (Y "'")),(.str (Y "<")),(.str (Y "c")),(.str (Y "\x00")),(.str (Y ">")),(.str (Y "`")),(.str (Y "=")),(.str (Y " ")),(.str (Y "a")),(.str (Y "A")),(.str (Y "&")),(.str (Y "\x0a")),(.str (Y "b")),(.str (Y "K")),(.str (Y "\x09")),(.str (Y "=")),(.str (Y "C")),(.str (Y "\x0c"))])) fun x1 =>
bnd (look (sliceV vscript (some (.int 1)) (some (.int 25)))) fun x2 =>
bnd (compK x2 (fun x3 => bnd (bnd (look (binV .Mod x3 (.int 24))) fun x4 =>
bnd (look (itemV x1 x4)) fun x5 =>
ret (.ret x5)) unFl) (fun x3 => ret true) 200 0 []) fun x6 =>
bnd (builtinV .list [(.str (Y "a=\"<>\"A ='B'/c=`a  C\x00/=a"))]) fun x7 =>
bnd (builtinV .len [x6]) fun x8 =>
bnd (look (sliceV x7 (some x8) none)) fun x9 =>
bnd (look (binV .Add x6 x9)) fun x10 =>
ret (.ret x10)
theorem Uhp (p:Params) (d:Nat) (vscript:V):callK (P p) (d + 1) a__law_signs [vscript] = bnd (F__law_signs p (callK (P p) d) vscript) unFl:=by kernel_rfl
noncomputable def F__law_blanks (p:Params) (c:CC):M Fl :=
bnd (ret (V.lst [(.str (Y " ")),(.str (Y "\x0a")),(.str (Y "\x09")),(.str (Y "\x0c"))])) fun x1 =>
ret (.ret x1)
theorem Ugy (p:Params) (d:Nat):callK (P p) (d + 1) a__law_blanks [] = bnd (F__law_blanks p (callK (P p) d) ) unFl:=by kernel_rfl
noncomputable def fd__law_until (p:Params):Fn:=fnAt (K p) [] a__law_until
noncomputable def sc__law_until (p:Params):Scope:=(fd__law_until p).scope
noncomputable def bo__law_until (p:Params):List Stmt:=(fd__law_until p).body
noncomputable def st__law_until_l0 (p:Params):Stmt:=(stAt (bo__law_until p) 0)
noncomputable def J__law_until_0 (p:Params) (c:CC) (fr:Fr):M Fl:=execK (P p) c (sc__law_until p) 59 fr ((bo__law_until p).drop 1) (fun fr => ret (.next fr))
noncomputable def T__law_until_l0_0 (p:Params) (c:CC) (vsigns vat vstops:V):M Fl :=
bnd (look (binV .Add vat (.int 1))) fun x1 =>
ret (.next [(Y "signs",vsigns),(Y "at",x1),(Y "stops",vstops)])
theorem Ucx (p:Params) (c:CC) (vsigns vat vstops:V):turnL (P p) c (sc__law_until p) 58 (st__law_until_l0 p) [(Y "signs",vsigns),(Y "at",vat),(Y "stops",vstops)] = T__law_until_l0_0 p c vsigns vat vstops:=by kernel_rfl
noncomputable def Q__law_until_l0_0 (p:Params) (c:CC) (vsigns vat vstops:V):M Bool :=
bnd (bnd (builtinV .len [vsigns]) fun x2 =>
bnd (look (cmpV .Lt vat x2)) fun x3 =>
(cond x3
(bnd (look (itemV vsigns vat)) fun x4 =>
bnd (look (cmpV .NotIn x4 vstops)) fun x5 =>
(cond x5
(ret (.ret (.bool true)))
(ret (.ret (.bool false)))))
(ret (.ret (.bool false))))) unB
theorem Ucu (p:Params) (c:CC) (vsigns vat vstops:V):testL (P p) c (sc__law_until p) 58 (st__law_until_l0 p) [(Y "signs",vsigns),(Y "at",vat),(Y "stops",vstops)] = Q__law_until_l0_0 p c vsigns vat vstops:=by kernel_rfl
noncomputable def J__law_until_0_T0 (p:Params) (c:CC) (vsigns vat vstops:V):M Fl :=
ret (.ret vat)
theorem Uds (p:Params) (c:CC) (vsigns vat vstops:V):J__law_until_0 p c [(Y "signs",vsigns),(Y "at",vat),(Y "stops",vstops)] = J__law_until_0_T0 p c vsigns vat vstops:=by kernel_rfl
noncomputable def F__law_until (p:Params) (c:CC) (vsigns vat vstops:V):M Fl :=
bnd (loopW (testL (P p) c (sc__law_until p) 58 (st__law_until_l0 p)) (turnL (P p) c (sc__law_until p) 58 (st__law_until_l0 p)) 5000 [(Y "signs",vsigns),(Y "at",vat),(Y "stops",vstops)]) (goOn (J__law_until_0 p c))
theorem Uh7 (p:Params) (d:Nat) (vsigns vat vstops:V):callK (P p) (d + 1) a__law_until [vsigns,vat,vstops] = bnd (F__law_until p (callK (P p) d) vsigns vat vstops) unFl:=by kernel_rfl
noncomputable def fd__law_taken (p:Params):Fn:=fnAt (K p) [] a__law_taken
noncomputable def sc__law_taken (p:Params):Scope:=(fd__law_taken p).scope
noncomputable def bo__law_taken (p:Params):List Stmt:=(fd__law_taken p).body
noncomputable def st__law_taken_l0 (p:Params):Stmt:=(stAt (bo__law_taken p) 0)
noncomputable def J__law_taken_0 (p:Params) (c:CC) (fr:Fr):M Fl:=execK (P p) c (sc__law_taken p) 59 fr ((bo__law_taken p).drop 1) (fun fr => ret (.next fr))
noncomputable def T__law_taken_l0_0 (p:Params) (c:CC) (vsigns vat vend verrors vodd vwhy vplace:V):M Fl :=
bnd (look (itemV vsigns vplace)) fun x2 =>
bnd (look (cmpV .Eq x2 (.str (Y "\x00")))) fun x3 =>
(if x3 then
mc p c verrors (Y "append") [(.tup [(.str (Y "unexpected-null-character")),vplace])] fun x5 =>
ret (.next [(Y "signs",vsigns),(Y "at",vat),(Y "end",vend),(Y "errors",verrors),(Y "odd",vodd),(Y "why",vwhy),(Y "place",vplace)])
else
bnd (look (itemV vsigns vplace)) fun x6 =>
bnd (look (cmpV .In x6 vodd)) fun x7 =>
(if x7 then
mc p c verrors (Y "append") [(.tup [vwhy,vplace])] fun x9 =>
ret (.next [(Y "signs",vsigns),(Y "at",vat),(Y "end",vend),(Y "errors",verrors),(Y "odd",vodd),(Y "why",vwhy),(Y "place",vplace)])
else
ret (.next [(Y "signs",vsigns),(Y "at",vat),(Y "end",vend),(Y "errors",verrors),(Y "odd",vodd),(Y "why",vwhy),(Y "place",vplace)])))
theorem Ucz (p:Params) (c:CC) (vsigns vat vend verrors vodd vwhy vplace:V):turnL (P p) c (sc__law_taken p) 58 (st__law_taken_l0 p) [(Y "signs",vsigns),(Y "at",vat),(Y "end",vend),(Y "errors",verrors),(Y "odd",vodd),(Y "why",vwhy),(Y "place",vplace)] = T__law_taken_l0_0 p c vsigns vat vend verrors vodd vwhy vplace:=by kernel_rfl
noncomputable def J__law_taken_0_T0 (p:Params) (c:CC) (vsigns vat vend verrors vodd vwhy:V):M Fl :=
bnd (look (methK (P p) (.str (Y "")) (Y "join"))) fun x10 =>
if isRepl x10 then fail else bnd (look (sliceV vsigns (some vat) (some vend))) fun x11 =>
bnd (methodV c x10 (.str (Y "")) [x11]) fun x12 =>
bnd (look (methK (P p) x12 (Y "replace"))) fun x13 =>
if isRepl x13 then bnd (replS x12 (Y "\x00") (Y "�")) fun x14 =>
ret (.ret x14) else fail
theorem Ud5 (p:Params) (c:CC) (vsigns vat vend verrors vodd vwhy:V):J__law_taken_0 p c [(Y "signs",vsigns),(Y "at",vat),(Y "end",vend),(Y "errors",verrors),(Y "odd",vodd),(Y "why",vwhy)] = J__law_taken_0_T0 p c vsigns vat vend verrors vodd vwhy:=by kernel_rfl
noncomputable def J__law_taken_0_T1 (p:Params) (c:CC) (vsigns vat vend verrors vodd vwhy vplace:V):M Fl :=
bnd (look (methK (P p) (.str (Y "")) (Y "join"))) fun x15 =>
if isRepl x15 then fail else bnd (look (sliceV vsigns (some vat) (some vend))) fun x16 =>
bnd (methodV c x15 (.str (Y "")) [x16]) fun x17 =>
bnd (look (methK (P p) x17 (Y "replace"))) fun x18 =>
if isRepl x18 then bnd (replS x17 (Y "\x00") (Y "�")) fun x19 =>
ret (.ret x19) else fail
theorem Udt (p:Params) (c:CC) (vsigns vat vend verrors vodd vwhy vplace:V):J__law_taken_0 p c [(Y "signs",vsigns),(Y "at",vat),(Y "end",vend),(Y "errors",verrors),(Y "odd",vodd),(Y "why",vwhy),(Y "place",vplace)] = J__law_taken_0_T1 p c vsigns vat vend verrors vodd vwhy vplace:=by kernel_rfl
noncomputable def F__law_taken (p:Params) (c:CC) (vsigns vat vend verrors vodd vwhy:V):M Fl :=
bnd (builtinV .range [vat,vend]) fun x1 =>
bnd (loopF x1 (setL (sc__law_taken p) (Y "place")) (turnL (P p) c (sc__law_taken p) 58 (st__law_taken_l0 p)) 5000 0 [(Y "signs",vsigns),(Y "at",vat),(Y "end",vend),(Y "errors",verrors),(Y "odd",vodd),(Y "why",vwhy)]) (goOn (J__law_taken_0 p c))
theorem Uhl (p:Params) (d:Nat) (vsigns vat vend verrors vodd vwhy:V):callK (P p) (d + 1) a__law_taken [vsigns,vat,vend,verrors,vodd,vwhy] = bnd (F__law_taken p (callK (P p) d) vsigns vat vend verrors vodd vwhy) unFl:=by kernel_rfl
noncomputable def F__law_checked (p:Params) (c:CC) (verrors vattrs vat:V):M Fl :=
bnd (look (itemV vattrs (.int (-1)))) fun x1 =>
bnd (look (itemV x1 (.int 0))) fun x2 =>
bnd (look (sliceV vattrs none (some (.int (-1))))) fun x3 =>
bnd (compK x3 (fun x4 => bnd (bnd (look (itemV x4 (.int 0))) fun x5 =>
ret (.ret x5)) unFl) (fun x4 => ret true) 200 0 []) fun x6 =>
bnd (look (cmpV .In x2 x6)) fun x7 =>
(if x7 then
mc p c verrors (Y "append") [(.tup [(.str (Y "duplicate-attribute")),vat])] fun x9 =>
bnd (look (itemV vattrs (.int (-1)))) fun x10 =>
bnd (setItemV x10 (.int 2) (.bool false)) fun w0 =>
ret (.next [(Y "errors",verrors),(Y "attrs",vattrs),(Y "at",vat)])
else
ret (.next [(Y "errors",verrors),(Y "attrs",vattrs),(Y "at",vat)]))
theorem Uga (p:Params) (d:Nat) (verrors vattrs vat:V):callK (P p) (d + 1) a__law_checked [verrors,vattrs,vat] = bnd (F__law_checked p (callK (P p) d) verrors vattrs vat) unFl:=by kernel_rfl
noncomputable def fd__law_name (p:Params):Fn:=fnAt (K p) [] a__law_name
noncomputable def sc__law_name (p:Params):Scope:=(fd__law_name p).scope
noncomputable def bo__law_name (p:Params):List Stmt:=(fd__law_name p).body
noncomputable def J__law_name_0 (p:Params) (c:CC) (fr:Fr):M Fl:=execK (P p) c (sc__law_name p) 58 fr ((bo__law_name p).drop 2) (fun fr => ret (.next fr))
noncomputable def J__law_name_0_T0 (p:Params) (c:CC) (vsigns vat verrors vattrs vend:V):M Fl :=
bnd (ret (V.lst [(.str (Y "\"")),(.str (Y "'")),(.str (Y "<"))])) fun x10 =>
bnd (c a__law_taken [vsigns,vat,vend,verrors,x10,(.str (Y "unexpected-character-in-attribute-name"))]) fun x11 =>
bnd (look (methK (P p) vattrs (Y "append"))) fun x12 =>
if isRepl x12 then fail else bnd (look (methK (P p) x11 (Y "replace"))) fun x13 =>
if isRepl x13 then bnd (replS x11 (Y "A") (Y "a")) fun x14 =>
bnd (look (methK (P p) x14 (Y "replace"))) fun x15 =>
if isRepl x15 then bnd (replS x14 (Y "B") (Y "b")) fun x16 =>
bnd (look (methK (P p) x16 (Y "replace"))) fun x17 =>
if isRepl x17 then bnd (replS x16 (Y "C") (Y "c")) fun x18 =>
bnd (newL 13 [x18,(.str (Y "")),(.bool true)]) fun x19 =>
bnd (methodV c x12 vattrs [x19]) fun x20 =>
ret (.ret vend) else fail else fail else fail
theorem Ued (p:Params) (c:CC) (vsigns vat verrors vattrs vend:V):J__law_name_0 p c [(Y "signs",vsigns),(Y "at",vat),(Y "errors",verrors),(Y "attrs",vattrs),(Y "end",vend)] = J__law_name_0_T0 p c vsigns vat verrors vattrs vend:=by kernel_rfl
noncomputable def F__law_name (p:Params) (c:CC) (vsigns vat verrors vattrs:V):M Fl :=
bnd (look (binV .Add vat (.int 1))) fun x1 =>
bnd (c a__law_blanks []) fun x2 =>
bnd (ret (V.lst [(.str (Y "/")),(.str (Y ">")),(.str (Y "="))])) fun x3 =>
bnd (look (binV .Add x2 x3)) fun x4 =>
bnd (c a__law_until [vsigns,x1,x4]) fun x5 =>
bnd (look (itemV vsigns vat)) fun x6 =>
bnd (look (cmpV .Eq x6 (.str (Y "=")))) fun x7 =>
(if x7 then
mc p c verrors (Y "append") [(.tup [(.str (Y "unexpected-equals-sign-before-attribute-name")),vat])] fun x9 =>
J__law_name_0 p c [(Y "signs",vsigns),(Y "at",vat),(Y "errors",verrors),(Y "attrs",vattrs),(Y "end",x5)]
else
J__law_name_0 p c [(Y "signs",vsigns),(Y "at",vat),(Y "errors",verrors),(Y "attrs",vattrs),(Y "end",x5)])
theorem Ujj (p:Params) (d:Nat) (vsigns vat verrors vattrs:V):callK (P p) (d + 1) a__law_name [vsigns,vat,verrors,vattrs] = bnd (F__law_name p (callK (P p) d) vsigns vat verrors vattrs) unFl:=by kernel_rfl
noncomputable def fd__law_value (p:Params):Fn:=fnAt (K p) [] a__law_value
noncomputable def sc__law_value (p:Params):Scope:=(fd__law_value p).scope
noncomputable def bo__law_value (p:Params):List Stmt:=(fd__law_value p).body
noncomputable def st__law_value_l0 (p:Params):Stmt:=(stAt (bo__law_value p) 0)
noncomputable def J__law_value_0 (p:Params) (c:CC) (fr:Fr):M Fl:=execK (P p) c (sc__law_value p) 59 fr ((bo__law_value p).drop 1) (fun fr => ret (.next fr))
noncomputable def J__law_value_1 (p:Params) (c:CC) (fr:Fr):M Fl:=execK (P p) c (sc__law_value p) 58 fr ((bo__law_value p).drop 2) (fun fr => ret (.next fr))
noncomputable def J__law_value_2 (p:Params) (c:CC) (fr:Fr):M Fl:=execK (P p) c (sc__law_value p) 56 fr ((bo__law_value p).drop 4) (fun fr => ret (.next fr))
noncomputable def J__law_value_3 (p:Params) (c:CC) (fr:Fr):M Fl:=execK (P p) c (sc__law_value p) 55 fr ((bo__law_value p).drop 5) (fun fr => ret (.next fr))
noncomputable def J__law_value_4 (p:Params) (c:CC) (fr:Fr):M Fl:=execK (P p) c (sc__law_value p) 51 fr ((inner (stAt (bo__law_value p) 4)).drop 3) (J__law_value_3 p c)
noncomputable def J__law_value_5 (p:Params) (c:CC) (fr:Fr):M Fl:=execK (P p) c (sc__law_value p) 50 fr ((inner (stAt (bo__law_value p) 4)).drop 4) (J__law_value_3 p c)
noncomputable def J__law_value_6 (p:Params) (c:CC) (fr:Fr):M Fl:=execK (P p) c (sc__law_value p) 49 fr ((inner (stAt (bo__law_value p) 4)).drop 5) (J__law_value_3 p c)
noncomputable def T__law_value_l0_0 (p:Params) (c:CC) (vsigns vat verrors vattrs:V):M Fl :=
bnd (look (binV .Add vat (.int 1))) fun x1 =>
ret (.next [(Y "signs",vsigns),(Y "at",x1),(Y "errors",verrors),(Y "attrs",vattrs)])
theorem Uc0 (p:Params) (c:CC) (vsigns vat verrors vattrs:V):turnL (P p) c (sc__law_value p) 58 (st__law_value_l0 p) [(Y "signs",vsigns),(Y "at",vat),(Y "errors",verrors),(Y "attrs",vattrs)] = T__law_value_l0_0 p c vsigns vat verrors vattrs:=by kernel_rfl
noncomputable def Q__law_value_l0_0 (p:Params) (c:CC) (vsigns vat verrors vattrs:V):M Bool :=
bnd (bnd (builtinV .len [vsigns]) fun x2 =>
bnd (look (cmpV .Lt vat x2)) fun x3 =>
(cond x3
(bnd (look (itemV vsigns vat)) fun x4 =>
bnd (c a__law_blanks []) fun x5 =>
bnd (look (cmpV .In x4 x5)) fun x6 =>
(cond x6
(ret (.ret (.bool true)))
(ret (.ret (.bool false)))))
(ret (.ret (.bool false))))) unB
theorem Ucv (p:Params) (c:CC) (vsigns vat verrors vattrs:V):testL (P p) c (sc__law_value p) 58 (st__law_value_l0 p) [(Y "signs",vsigns),(Y "at",vat),(Y "errors",verrors),(Y "attrs",vattrs)] = Q__law_value_l0_0 p c vsigns vat verrors vattrs:=by kernel_rfl
noncomputable def J__law_value_0_T0 (p:Params) (c:CC) (vsigns vat verrors vattrs:V):M Fl :=
bnd (builtinV .len [vsigns]) fun x7 =>
bnd (look (cmpV .Eq vat x7)) fun x8 =>
(if x8 then
ret (.ret (.tup [(.str (Y "before attribute value")),vat]))
else
J__law_value_1 p c [(Y "signs",vsigns),(Y "at",vat),(Y "errors",verrors),(Y "attrs",vattrs)])
theorem Ud6 (p:Params) (c:CC) (vsigns vat verrors vattrs:V):J__law_value_0 p c [(Y "signs",vsigns),(Y "at",vat),(Y "errors",verrors),(Y "attrs",vattrs)] = J__law_value_0_T0 p c vsigns vat verrors vattrs:=by kernel_rfl
noncomputable def J__law_value_1_T0 (p:Params) (c:CC) (vsigns vat verrors vattrs:V):M Fl :=
bnd (look (itemV vsigns vat)) fun x9 =>
bnd (look (cmpV .Eq x9 (.str (Y ">")))) fun x10 =>
(if x10 then
mc p c verrors (Y "append") [(.tup [(.str (Y "missing-attribute-value")),vat])] fun x12 =>
ret (.ret (.tup [(.str (Y "before attribute value")),vat]))
else
J__law_value_2 p c [(Y "signs",vsigns),(Y "at",vat),(Y "errors",verrors),(Y "attrs",vattrs),(Y "quote",x9)])
theorem Udw (p:Params) (c:CC) (vsigns vat verrors vattrs:V):J__law_value_1 p c [(Y "signs",vsigns),(Y "at",vat),(Y "errors",verrors),(Y "attrs",vattrs)] = J__law_value_1_T0 p c vsigns vat verrors vattrs:=by kernel_rfl
noncomputable def J__law_value_2_T0 (p:Params) (c:CC) (vsigns vat verrors vattrs vquote:V):M Fl :=
bnd (ret (V.lst [(.str (Y "\"")),(.str (Y "'"))])) fun x13 =>
bnd (look (cmpV .In vquote x13)) fun x14 =>
(if x14 then
bnd (look (binV .Add vat (.int 1))) fun x15 =>
bnd (ret (V.lst [vquote,(.str (Y "&"))])) fun x16 =>
bnd (c a__law_until [vsigns,x15,x16]) fun x17 =>
bnd (look (binV .Add vat (.int 1))) fun x18 =>
bnd (ret (V.lst [])) fun x19 =>
bnd (c a__law_taken [vsigns,x18,x17,verrors,x19,(.str (Y ""))]) fun x20 =>
bnd (look (itemV vattrs (.int (-1)))) fun x21 =>
bnd (setItemV x21 (.int 1) x20) fun w0 =>
bnd (look (binV .Add x17 (.int 1))) fun x22 =>
bnd (look (sliceV vsigns (some x17) (some x22))) fun x23 =>
bnd (ret (V.lst [vquote])) fun x24 =>
bnd (look (cmpV .NotEq x23 x24)) fun x25 =>
(if x25 then
bnd (look (cmpV .Eq vquote (.str (Y "\"")))) fun x26 =>
(if x26 then
ret (.ret (.tup [(.str (Y "attribute value (double-quoted)")),x17]))
else
ret (.ret (.tup [(.str (Y "attribute value (single-quoted)")),x17])))
else
J__law_value_4 p c [(Y "signs",vsigns),(Y "at",vat),(Y "errors",verrors),(Y "attrs",vattrs),(Y "quote",vquote),(Y "end",x17)])
else
J__law_value_3 p c [(Y "signs",vsigns),(Y "at",vat),(Y "errors",verrors),(Y "attrs",vattrs),(Y "quote",vquote)])
theorem Ubn (p:Params) (c:CC) (vsigns vat verrors vattrs vquote:V):J__law_value_2 p c [(Y "signs",vsigns),(Y "at",vat),(Y "errors",verrors),(Y "attrs",vattrs),(Y "quote",vquote)] = J__law_value_2_T0 p c vsigns vat verrors vattrs vquote:=by kernel_rfl
noncomputable def J__law_value_3_T0 (p:Params) (c:CC) (vsigns vat verrors vattrs vquote:V):M Fl :=
bnd (c a__law_blanks []) fun x27 =>
bnd (ret (V.lst [(.str (Y ">")),(.str (Y "&"))])) fun x28 =>
bnd (look (binV .Add x27 x28)) fun x29 =>
bnd (c a__law_until [vsigns,vat,x29]) fun x30 =>
bnd (ret (V.lst [(.str (Y "\"")),(.str (Y "'")),(.str (Y "<")),(.str (Y "=")),(.str (Y "`"))])) fun x31 =>
bnd (c a__law_taken [vsigns,vat,x30,verrors,x31,(.str (Y "unexpected-character-in-unquoted-attribute-value"))]) fun x32 =>
bnd (look (itemV vattrs (.int (-1)))) fun x33 =>
bnd (setItemV x33 (.int 1) x32) fun w0 =>
bnd (look (binV .Add x30 (.int 1))) fun x34 =>
bnd (look (sliceV vsigns (some x30) (some x34))) fun x35 =>
bnd (ret (V.lst [])) fun x36 =>
bnd (ret (V.lst [(.str (Y "&"))])) fun x37 =>
bnd (ret (V.lst [x36,x37])) fun x38 =>
bnd (look (cmpV .In x35 x38)) fun x39 =>
(if x39 then
ret (.ret (.tup [(.str (Y "attribute value (unquoted)")),x30]))
else
ret (.ret (.tup [(.str (Y "before attribute name")),x30])))
theorem Udx (p:Params) (c:CC) (vsigns vat verrors vattrs vquote:V):J__law_value_3 p c [(Y "signs",vsigns),(Y "at",vat),(Y "errors",verrors),(Y "attrs",vattrs),(Y "quote",vquote)] = J__law_value_3_T0 p c vsigns vat verrors vattrs vquote:=by kernel_rfl
noncomputable def J__law_value_4_T0 (p:Params) (c:CC) (vsigns vat verrors vattrs vquote vend:V):M Fl :=
bnd (look (binV .Add vend (.int 1))) fun x40 =>
bnd (builtinV .len [vsigns]) fun x41 =>
bnd (look (cmpV .Eq x40 x41)) fun x42 =>
(if x42 then
bnd (look (binV .Add vend (.int 1))) fun x43 =>
ret (.ret (.tup [(.str (Y "after attribute value (quoted)")),x43]))
else
J__law_value_5 p c [(Y "signs",vsigns),(Y "at",vat),(Y "errors",verrors),(Y "attrs",vattrs),(Y "quote",vquote),(Y "end",vend)])
theorem Udu (p:Params) (c:CC) (vsigns vat verrors vattrs vquote vend:V):J__law_value_4 p c [(Y "signs",vsigns),(Y "at",vat),(Y "errors",verrors),(Y "attrs",vattrs),(Y "quote",vquote),(Y "end",vend)] = J__law_value_4_T0 p c vsigns vat verrors vattrs vquote vend:=by kernel_rfl
noncomputable def J__law_value_5_T0 (p:Params) (c:CC) (vsigns vat verrors vattrs vquote vend:V):M Fl :=
bnd (look (binV .Add vend (.int 1))) fun x44 =>
bnd (look (itemV vsigns x44)) fun x45 =>
bnd (c a__law_blanks []) fun x46 =>
bnd (ret (V.lst [(.str (Y "/")),(.str (Y ">"))])) fun x47 =>
bnd (look (binV .Add x46 x47)) fun x48 =>
bnd (look (cmpV .NotIn x45 x48)) fun x49 =>
(if x49 then
bnd (look (methK (P p) verrors (Y "append"))) fun x50 =>
if isRepl x50 then fail else bnd (look (binV .Add vend (.int 1))) fun x51 =>
bnd (methodV c x50 verrors [(.tup [(.str (Y "missing-whitespace-between-attributes")),x51])]) fun x52 =>
J__law_value_6 p c [(Y "signs",vsigns),(Y "at",vat),(Y "errors",verrors),(Y "attrs",vattrs),(Y "quote",vquote),(Y "end",vend)]
else
J__law_value_6 p c [(Y "signs",vsigns),(Y "at",vat),(Y "errors",verrors),(Y "attrs",vattrs),(Y "quote",vquote),(Y "end",vend)])
theorem Udy (p:Params) (c:CC) (vsigns vat verrors vattrs vquote vend:V):J__law_value_5 p c [(Y "signs",vsigns),(Y "at",vat),(Y "errors",verrors),(Y "attrs",vattrs),(Y "quote",vquote),(Y "end",vend)] = J__law_value_5_T0 p c vsigns vat verrors vattrs vquote vend:=by kernel_rfl
noncomputable def J__law_value_6_T0 (p:Params) (c:CC) (vsigns vat verrors vattrs vquote vend:V):M Fl :=
bnd (look (binV .Add vend (.int 1))) fun x53 =>
ret (.ret (.tup [(.str (Y "before attribute name")),x53]))
theorem Ud0 (p:Params) (c:CC) (vsigns vat verrors vattrs vquote vend:V):J__law_value_6 p c [(Y "signs",vsigns),(Y "at",vat),(Y "errors",verrors),(Y "attrs",vattrs),(Y "quote",vquote),(Y "end",vend)] = J__law_value_6_T0 p c vsigns vat verrors vattrs vquote vend:=by kernel_rfl
noncomputable def F__law_value (p:Params) (c:CC) (vsigns vat verrors vattrs:V):M Fl :=
bnd (loopW (testL (P p) c (sc__law_value p) 58 (st__law_value_l0 p)) (turnL (P p) c (sc__law_value p) 58 (st__law_value_l0 p)) 5000 [(Y "signs",vsigns),(Y "at",vat),(Y "errors",verrors),(Y "attrs",vattrs)]) (goOn (J__law_value_0 p c))
theorem Uh8 (p:Params) (d:Nat) (vsigns vat verrors vattrs:V):callK (P p) (d + 1) a__law_value [vsigns,vat,verrors,vattrs] = bnd (F__law_value p (callK (P p) d) vsigns vat verrors vattrs) unFl:=by kernel_rfl
noncomputable def fd__law_read (p:Params):Fn:=fnAt (K p) [] a__law_read
noncomputable def sc__law_read (p:Params):Scope:=(fd__law_read p).scope
noncomputable def bo__law_read (p:Params):List Stmt:=(fd__law_read p).body
noncomputable def st__law_read_l0 (p:Params):Stmt:=(stAt (bo__law_read p) 1)
noncomputable def J__law_read_0 (p:Params) (c:CC) (fr:Fr):M Fl:=execK (P p) c (sc__law_read p) 58 fr ((bo__law_read p).drop 2) (fun fr => ret (.next fr))
noncomputable def J__law_read_1 (p:Params) (c:CC) (fr:Fr):M Fl:=execK (P p) c (sc__law_read p) 50 fr ((inner (stAt (others (stAt (inner (st__law_read_l0 p)) 1)) 0)).drop 2) (fun fr => ret (.next fr))
noncomputable def J__law_read_2 (p:Params) (c:CC) (fr:Fr):M Fl:=execK (P p) c (sc__law_read p) 51 fr ((others (stAt (others (stAt (inner (st__law_read_l0 p)) 1)) 0)).drop 1) (fun fr => ret (.next fr))
noncomputable def J__law_read_3 (p:Params) (c:CC) (fr:Fr):M Fl:=execK (P p) c (sc__law_read p) 48 fr ((inner (stAt (others (stAt (others (stAt (inner (st__law_read_l0 p)) 1)) 0)) 0)).drop 2) (J__law_read_2 p c)
noncomputable def T__law_read_l0_0 (p:Params) (c:CC) (vsigns vat verrors vattrs vhere:V):M Fl :=
bnd (look (itemV vsigns vat)) fun x1 =>
bnd (c a__law_blanks []) fun x2 =>
bnd (look (cmpV .In x1 x2)) fun x3 =>
(if x3 then
bnd (look (binV .Add vat (.int 1))) fun x4 =>
ret (.next [(Y "signs",vsigns),(Y "at",x4),(Y "errors",verrors),(Y "attrs",vattrs),(Y "here",vhere),(Y "sign",x1)])
else
bnd (look (cmpV .Eq x1 (.str (Y "/")))) fun x5 =>
(if x5 then
bnd (look (binV .Add vat (.int 1))) fun x6 =>
bnd (look (binV .Add x6 (.int 1))) fun x7 =>
bnd (look (sliceV vsigns (some x6) (some x7))) fun x8 =>
bnd (ret (V.lst [])) fun x9 =>
bnd (ret (V.lst [(.str (Y ">"))])) fun x10 =>
bnd (ret (V.lst [x9,x10])) fun x11 =>
bnd (look (cmpV .In x8 x11)) fun x12 =>
(if x12 then
ret (.ret (.tup [(.str (Y "self-closing start tag")),x6]))
else
J__law_read_1 p c [(Y "signs",vsigns),(Y "at",x6),(Y "errors",verrors),(Y "attrs",vattrs),(Y "here",vhere),(Y "sign",x1)])
else
bnd (look (cmpV .NotEq x1 (.str (Y "=")))) fun x13 =>
(cond x13
(bnd (c a__law_name [vsigns,vat,verrors,vattrs]) fun x14 =>
bnd (builtinV .len [vsigns]) fun x15 =>
bnd (look (cmpV .Eq x14 x15)) fun x16 =>
(if x16 then
ret (.ret (.tup [(.str (Y "attribute name")),x14]))
else
J__law_read_3 p c [(Y "signs",vsigns),(Y "at",x14),(Y "errors",verrors),(Y "attrs",vattrs),(Y "here",vhere),(Y "sign",x1)]))
(bnd (look (cmpV .Eq vhere (.str (Y "before attribute name")))) fun x17 =>
(cond x17
(bnd (c a__law_name [vsigns,vat,verrors,vattrs]) fun x18 =>
bnd (builtinV .len [vsigns]) fun x19 =>
bnd (look (cmpV .Eq x18 x19)) fun x20 =>
(if x20 then
ret (.ret (.tup [(.str (Y "attribute name")),x18]))
else
J__law_read_3 p c [(Y "signs",vsigns),(Y "at",x18),(Y "errors",verrors),(Y "attrs",vattrs),(Y "here",vhere),(Y "sign",x1)]))
(J__law_read_2 p c [(Y "signs",vsigns),(Y "at",vat),(Y "errors",verrors),(Y "attrs",vattrs),(Y "here",vhere),(Y "sign",x1)]))))))
theorem Udn (p:Params) (c:CC) (vsigns vat verrors vattrs vhere:V):turnL (P p) c (sc__law_read p) 57 (st__law_read_l0 p) [(Y "signs",vsigns),(Y "at",vat),(Y "errors",verrors),(Y "attrs",vattrs),(Y "here",vhere)] = T__law_read_l0_0 p c vsigns vat verrors vattrs vhere:=by kernel_rfl
noncomputable def Q__law_read_l0_0 (p:Params) (c:CC) (vsigns vat verrors vattrs vhere:V):M Bool :=
bnd (bnd (builtinV .len [vsigns]) fun x21 =>
bnd (look (cmpV .Lt vat x21)) fun x22 =>
(cond x22
(bnd (look (itemV vsigns vat)) fun x23 =>
bnd (look (cmpV .NotEq x23 (.str (Y ">")))) fun x24 =>
(cond x24
(ret (.ret (.bool true)))
(ret (.ret (.bool false)))))
(ret (.ret (.bool false))))) unB
theorem Ubh (p:Params) (c:CC) (vsigns vat verrors vattrs vhere:V):testL (P p) c (sc__law_read p) 57 (st__law_read_l0 p) [(Y "signs",vsigns),(Y "at",vat),(Y "errors",verrors),(Y "attrs",vattrs),(Y "here",vhere)] = Q__law_read_l0_0 p c vsigns vat verrors vattrs vhere:=by kernel_rfl
noncomputable def T__law_read_l0_1 (p:Params) (c:CC) (vsigns vat verrors vattrs vhere vsign:V):M Fl :=
bnd (look (itemV vsigns vat)) fun x25 =>
bnd (c a__law_blanks []) fun x26 =>
bnd (look (cmpV .In x25 x26)) fun x27 =>
(if x27 then
bnd (look (binV .Add vat (.int 1))) fun x28 =>
ret (.next [(Y "signs",vsigns),(Y "at",x28),(Y "errors",verrors),(Y "attrs",vattrs),(Y "here",vhere),(Y "sign",x25)])
else
bnd (look (cmpV .Eq x25 (.str (Y "/")))) fun x29 =>
(if x29 then
bnd (look (binV .Add vat (.int 1))) fun x30 =>
bnd (look (binV .Add x30 (.int 1))) fun x31 =>
bnd (look (sliceV vsigns (some x30) (some x31))) fun x32 =>
bnd (ret (V.lst [])) fun x33 =>
bnd (ret (V.lst [(.str (Y ">"))])) fun x34 =>
bnd (ret (V.lst [x33,x34])) fun x35 =>
bnd (look (cmpV .In x32 x35)) fun x36 =>
(if x36 then
ret (.ret (.tup [(.str (Y "self-closing start tag")),x30]))
else
J__law_read_1 p c [(Y "signs",vsigns),(Y "at",x30),(Y "errors",verrors),(Y "attrs",vattrs),(Y "here",vhere),(Y "sign",x25)])
else
bnd (look (cmpV .NotEq x25 (.str (Y "=")))) fun x37 =>
(cond x37
(bnd (c a__law_name [vsigns,vat,verrors,vattrs]) fun x38 =>
bnd (builtinV .len [vsigns]) fun x39 =>
bnd (look (cmpV .Eq x38 x39)) fun x40 =>
(if x40 then
ret (.ret (.tup [(.str (Y "attribute name")),x38]))
else
J__law_read_3 p c [(Y "signs",vsigns),(Y "at",x38),(Y "errors",verrors),(Y "attrs",vattrs),(Y "here",vhere),(Y "sign",x25)]))
(bnd (look (cmpV .Eq vhere (.str (Y "before attribute name")))) fun x41 =>
(cond x41
(bnd (c a__law_name [vsigns,vat,verrors,vattrs]) fun x42 =>
bnd (builtinV .len [vsigns]) fun x43 =>
bnd (look (cmpV .Eq x42 x43)) fun x44 =>
(if x44 then
ret (.ret (.tup [(.str (Y "attribute name")),x42]))
else
J__law_read_3 p c [(Y "signs",vsigns),(Y "at",x42),(Y "errors",verrors),(Y "attrs",vattrs),(Y "here",vhere),(Y "sign",x25)]))
(J__law_read_2 p c [(Y "signs",vsigns),(Y "at",vat),(Y "errors",verrors),(Y "attrs",vattrs),(Y "here",vhere),(Y "sign",x25)]))))))
theorem Udr (p:Params) (c:CC) (vsigns vat verrors vattrs vhere vsign:V):turnL (P p) c (sc__law_read p) 57 (st__law_read_l0 p) [(Y "signs",vsigns),(Y "at",vat),(Y "errors",verrors),(Y "attrs",vattrs),(Y "here",vhere),(Y "sign",vsign)] = T__law_read_l0_1 p c vsigns vat verrors vattrs vhere vsign:=by kernel_rfl
noncomputable def Q__law_read_l0_1 (p:Params) (c:CC) (vsigns vat verrors vattrs vhere vsign:V):M Bool :=
bnd (bnd (builtinV .len [vsigns]) fun x45 =>
bnd (look (cmpV .Lt vat x45)) fun x46 =>
(cond x46
(bnd (look (itemV vsigns vat)) fun x47 =>
bnd (look (cmpV .NotEq x47 (.str (Y ">")))) fun x48 =>
(cond x48
(ret (.ret (.bool true)))
(ret (.ret (.bool false)))))
(ret (.ret (.bool false))))) unB
theorem Ubg (p:Params) (c:CC) (vsigns vat verrors vattrs vhere vsign:V):testL (P p) c (sc__law_read p) 57 (st__law_read_l0 p) [(Y "signs",vsigns),(Y "at",vat),(Y "errors",verrors),(Y "attrs",vattrs),(Y "here",vhere),(Y "sign",vsign)] = Q__law_read_l0_1 p c vsigns vat verrors vattrs vhere vsign:=by kernel_rfl
noncomputable def J__law_read_0_T0 (p:Params) (c:CC) (vsigns vat verrors vattrs vhere:V):M Fl :=
ret (.ret (.tup [vhere,vat]))
theorem Uej (p:Params) (c:CC) (vsigns vat verrors vattrs vhere:V):J__law_read_0 p c [(Y "signs",vsigns),(Y "at",vat),(Y "errors",verrors),(Y "attrs",vattrs),(Y "here",vhere)] = J__law_read_0_T0 p c vsigns vat verrors vattrs vhere:=by kernel_rfl
noncomputable def J__law_read_0_T1 (p:Params) (c:CC) (vsigns vat verrors vattrs vhere vsign:V):M Fl :=
ret (.ret (.tup [vhere,vat]))
theorem Ueb (p:Params) (c:CC) (vsigns vat verrors vattrs vhere vsign:V):J__law_read_0 p c [(Y "signs",vsigns),(Y "at",vat),(Y "errors",verrors),(Y "attrs",vattrs),(Y "here",vhere),(Y "sign",vsign)] = J__law_read_0_T1 p c vsigns vat verrors vattrs vhere vsign:=by kernel_rfl
noncomputable def J__law_read_1_T0 (p:Params) (c:CC) (vsigns vat verrors vattrs vhere vsign:V):M Fl :=
mc p c verrors (Y "append") [(.tup [(.str (Y "unexpected-solidus-in-tag")),vat])] fun x50 =>
ret (.next [(Y "signs",vsigns),(Y "at",vat),(Y "errors",verrors),(Y "attrs",vattrs),(Y "here",(.str (Y "before attribute name"))),(Y "sign",vsign)])
theorem Uei (p:Params) (c:CC) (vsigns vat verrors vattrs vhere vsign:V):J__law_read_1 p c [(Y "signs",vsigns),(Y "at",vat),(Y "errors",verrors),(Y "attrs",vattrs),(Y "here",vhere),(Y "sign",vsign)] = J__law_read_1_T0 p c vsigns vat verrors vattrs vhere vsign:=by kernel_rfl
noncomputable def J__law_read_2_T0 (p:Params) (c:CC) (vsigns vat verrors vattrs vhere vsign:V):M Fl :=
bnd (look (itemV vsigns vat)) fun x51 =>
bnd (look (cmpV .Eq x51 (.str (Y "=")))) fun x52 =>
(if x52 then
bnd (look (binV .Add vat (.int 1))) fun x53 =>
bnd (c a__law_value [vsigns,x53,verrors,vattrs]) fun x54 =>
(match tupV x54 with
| some x55 => (match x55 with
| x56 :: x57 => (match x57 with
| x58 :: x59 => (match x59 with
| [] => bnd (look (sliceV x56 none (some (.int 15)))) fun x60 =>
bnd (look (cmpV .Eq x60 (.str (Y "attribute value")))) fun x61 =>
(if x61 then
ret (.ret (.tup [x56,x58]))
else
ret (.next [(Y "signs",vsigns),(Y "at",x58),(Y "errors",verrors),(Y "attrs",vattrs),(Y "here",x56),(Y "sign",vsign)]))
| _ :: _ => fail)
| [] => fail)
| [] => fail)
| none => fail)
else
ret (.next [(Y "signs",vsigns),(Y "at",vat),(Y "errors",verrors),(Y "attrs",vattrs),(Y "here",vhere),(Y "sign",vsign)]))
theorem Uek (p:Params) (c:CC) (vsigns vat verrors vattrs vhere vsign:V):J__law_read_2 p c [(Y "signs",vsigns),(Y "at",vat),(Y "errors",verrors),(Y "attrs",vattrs),(Y "here",vhere),(Y "sign",vsign)] = J__law_read_2_T0 p c vsigns vat verrors vattrs vhere vsign:=by kernel_rfl
noncomputable def J__law_read_3_T0 (p:Params) (c:CC) (vsigns vat verrors vattrs vhere vsign:V):M Fl :=
bnd (c a__law_checked [verrors,vattrs,vat]) fun x62 =>
J__law_read_2 p c [(Y "signs",vsigns),(Y "at",vat),(Y "errors",verrors),(Y "attrs",vattrs),(Y "here",(.str (Y "after attribute name"))),(Y "sign",vsign)]
theorem Uel (p:Params) (c:CC) (vsigns vat verrors vattrs vhere vsign:V):J__law_read_3 p c [(Y "signs",vsigns),(Y "at",vat),(Y "errors",verrors),(Y "attrs",vattrs),(Y "here",vhere),(Y "sign",vsign)] = J__law_read_3_T0 p c vsigns vat verrors vattrs vhere vsign:=by kernel_rfl
noncomputable def F__law_read (p:Params) (c:CC) (vsigns vat verrors vattrs:V):M Fl :=
bnd (loopW (testL (P p) c (sc__law_read p) 57 (st__law_read_l0 p)) (turnL (P p) c (sc__law_read p) 57 (st__law_read_l0 p)) 5000 [(Y "signs",vsigns),(Y "at",vat),(Y "errors",verrors),(Y "attrs",vattrs),(Y "here",(.str (Y "before attribute name")))]) (goOn (J__law_read_0 p c))
theorem Ujn (p:Params) (d:Nat) (vsigns vat verrors vattrs:V):callK (P p) (d + 1) a__law_read [vsigns,vat,verrors,vattrs] = bnd (F__law_read p (callK (P p) d) vsigns vat verrors vattrs) unFl:=by kernel_rfl
noncomputable def F__law_token (p:Params) (c:CC) (vkind vattrs vis_closing:V):M Fl :=
bnd (compK vattrs (fun x1 => bnd (bnd (look (itemV x1 (.int 0))) fun x2 =>
bnd (look (itemV x1 (.int 1))) fun x3 =>
ret (.ret (.tup [x2,x3]))) unFl) (fun x1 => bnd (bnd (look (itemV x1 (.int 2))) fun x4 =>
(match isT x4 with
| some x5 => ret (.ret (.bool x5))
| none => fail)) unB) 200 0 []) fun x6 =>
bnd (builtinV .tuple [x6]) fun x7 =>
ret (.ret (.tup [vkind,(.str (Y "a")),x7,vis_closing]))
theorem Uhw (p:Params) (d:Nat) (vkind vattrs vis_closing:V):callK (P p) (d + 1) a__law_token [vkind,vattrs,vis_closing] = bnd (F__law_token p (callK (P p) d) vkind vattrs vis_closing) unFl:=by kernel_rfl
noncomputable def F__law_told (p:Params) (c:CC) (vt:V):M Fl :=
bnd (attrV (P p) vt (Y "out")) fun x1 =>
bnd (attrV (P p) vt (Y "errors")) fun x2 =>
bnd (attrV (P p) vt (Y "state")) fun x3 =>
bnd (attrV (P p) vt (Y "at")) fun x4 =>
bnd (attrV (P p) vt (Y "back")) fun x5 =>
bnd (attrV (P p) vt (Y "last")) fun x6 =>
ret (.ret (.tup [x1,x2,x3,x4,x5,x6]))
theorem Ujk (p:Params) (d:Nat) (vt:V):callK (P p) (d + 1) a__law_told [vt] = bnd (F__law_told p (callK (P p) d) vt) unFl:=by kernel_rfl
noncomputable def fd_law (p:Params):Fn:=fnAt (K p) [] a_law
noncomputable def sc_law (p:Params):Scope:=(fd_law p).scope
noncomputable def bo_law (p:Params):List Stmt:=(fd_law p).body
noncomputable def J_law_0 (p:Params) (c:CC) (fr:Fr):M Fl:=execK (P p) c (sc_law p) 59 fr ((bo_law p).drop 1) (fun fr => ret (.next fr))
noncomputable def J_law_1 (p:Params) (c:CC) (fr:Fr):M Fl:=execK (P p) c (sc_law p) 58 fr ((bo_law p).drop 2) (fun fr => ret (.next fr))
noncomputable def J_law_2 (p:Params) (c:CC) (fr:Fr):M Fl:=execK (P p) c (sc_law p) 55 fr ((bo_law p).drop 5) (fun fr => ret (.next fr))
noncomputable def J_law_3 (p:Params) (c:CC) (fr:Fr):M Fl:=execK (P p) c (sc_law p) 54 fr ((bo_law p).drop 6) (fun fr => ret (.next fr))
noncomputable def J_law_4 (p:Params) (c:CC) (fr:Fr):M Fl:=execK (P p) c (sc_law p) 52 fr ((bo_law p).drop 8) (fun fr => ret (.next fr))
noncomputable def J_law_5 (p:Params) (c:CC) (fr:Fr):M Fl:=execK (P p) c (sc_law p) 48 fr ((inner (stAt (others (stAt (bo_law p) 7)) 0)).drop 1) (J_law_4 p c)
noncomputable def J_law_6 (p:Params) (c:CC) (fr:Fr):M Fl:=execK (P p) c (sc_law p) 47 fr ((bo_law p).drop 13) (fun fr => ret (.next fr))
noncomputable def J_law_7 (p:Params) (c:CC) (fr:Fr):M Fl:=execK (P p) c (sc_law p) 47 fr ((inner (stAt (others (stAt (bo_law p) 7)) 0)).drop 2) (J_law_4 p c)
noncomputable def J_law_8 (p:Params) (c:CC) (fr:Fr):M Fl:=execK (P p) c (sc_law p) 46 fr ((bo_law p).drop 14) (fun fr => ret (.next fr))
noncomputable def J_law_9 (p:Params) (c:CC) (fr:Fr):M Fl:=execK (P p) c (sc_law p) 45 fr ((bo_law p).drop 15) (fun fr => ret (.next fr))
noncomputable def J_law_10 (p:Params) (c:CC) (fr:Fr):M Fl:=execK (P p) c (sc_law p) 43 fr ((inner (stAt (bo_law p) 14)).drop 1) (J_law_9 p c)
noncomputable def J_law_0_T0 (p:Params) (c:CC) (vscript vkind:V):M Fl :=
bnd (look (cmpV .Eq vkind (.str (Y "end")))) fun x6 =>
(if x6 then
bnd (ret (V.lst [(.str (Y "/")),(.str (Y "a")),(.str (Y " "))])) fun x7 =>
J_law_1 p c [(Y "script",vscript),(Y "kind",vkind),(Y "head",x7)]
else
bnd (ret (V.lst [(.str (Y "a")),(.str (Y " "))])) fun x8 =>
J_law_1 p c [(Y "script",vscript),(Y "kind",vkind),(Y "head",x8)])
theorem Ujx (p:Params) (c:CC) (vscript vkind:V):J_law_0 p c [(Y "script",vscript),(Y "kind",vkind)] = J_law_0_T0 p c vscript vkind:=by kernel_rfl
noncomputable def J_law_1_T0 (p:Params) (c:CC) (vscript vkind vhead:V):M Fl :=
bnd (c a__law_signs [vscript]) fun x9 =>
bnd (look (binV .Add vhead x9)) fun x10 =>
bnd (newL 11 []) fun x11 =>
bnd (newL 12 []) fun x12 =>
bnd (builtinV .len [vhead]) fun x13 =>
bnd (c a__law_read [x10,x13,x11,x12]) fun x14 =>
(match tupV x14 with
| some x15 => (match x15 with
| x16 :: x17 => (match x17 with
| x18 :: x19 => (match x19 with
| [] => bnd (builtinV .len [x10]) fun x20 =>
bnd (look (cmpV .Lt x18 x20)) fun x21 =>
(if x21 then
bnd (look (itemV x10 x18)) fun x22 =>
J_law_2 p c [(Y "script",vscript),(Y "kind",vkind),(Y "head",vhead),(Y "signs",x10),(Y "errors",x11),(Y "attrs",x12),(Y "here",x16),(Y "at",x18),(Y "stop",x22)]
else
J_law_2 p c [(Y "script",vscript),(Y "kind",vkind),(Y "head",vhead),(Y "signs",x10),(Y "errors",x11),(Y "attrs",x12),(Y "here",x16),(Y "at",x18),(Y "stop",(.str (Y "")))])
| _ :: _ => fail)
| [] => fail)
| [] => fail)
| none => fail)
theorem Uj3 (p:Params) (c:CC) (vscript vkind vhead:V):J_law_1 p c [(Y "script",vscript),(Y "kind",vkind),(Y "head",vhead)] = J_law_1_T0 p c vscript vkind vhead:=by kernel_rfl
noncomputable def J_law_2_T0 (p:Params) (c:CC) (vscript vkind vhead vsigns verrors vattrs vhere vat vstop:V):M Fl :=
bnd (look (cmpV .Eq vstop (.str (Y ">")))) fun x23 =>
(cond x23
(bnd (look (cmpV .Eq vhere (.str (Y "self-closing start tag")))) fun x24 =>
bnd (c a__law_token [vkind,vattrs,(.bool x24)]) fun x25 =>
J_law_3 p c [(Y "script",vscript),(Y "kind",vkind),(Y "head",vhead),(Y "signs",vsigns),(Y "errors",verrors),(Y "attrs",vattrs),(Y "here",vhere),(Y "at",vat),(Y "stop",vstop),(Y "token",x25)])
(bnd (c a__law_token [vkind,vattrs,(.bool x23)]) fun x26 =>
J_law_3 p c [(Y "script",vscript),(Y "kind",vkind),(Y "head",vhead),(Y "signs",vsigns),(Y "errors",verrors),(Y "attrs",vattrs),(Y "here",vhere),(Y "at",vat),(Y "stop",vstop),(Y "token",x26)]))
theorem Ujq (p:Params) (c:CC) (vscript vkind vhead vsigns verrors vattrs vhere vat vstop:V):J_law_2 p c [(Y "script",vscript),(Y "kind",vkind),(Y "head",vhead),(Y "signs",vsigns),(Y "errors",verrors),(Y "attrs",vattrs),(Y "here",vhere),(Y "at",vat),(Y "stop",vstop)] = J_law_2_T0 p c vscript vkind vhead vsigns verrors vattrs vhere vat vstop:=by kernel_rfl
noncomputable def J_law_3_T0 (p:Params) (c:CC) (vscript vkind vhead vsigns verrors vattrs vhere vat vstop vtoken:V):M Fl :=
bnd (ret (V.lst [])) fun x27 =>
bnd (look (cmpV .Eq vstop (.str (Y "&")))) fun x28 =>
(if x28 then
bnd (ret (V.lst [])) fun x29 =>
bnd (look (binV .Add vat (.int 1))) fun x30 =>
J_law_4 p c [(Y "script",vscript),(Y "kind",vkind),(Y "head",vhead),(Y "signs",vsigns),(Y "errors",verrors),(Y "attrs",vattrs),(Y "here",vhere),(Y "at",vat),(Y "stop",vstop),(Y "token",vtoken),(Y "due",(.tup [x29,verrors,(.str (Y "character reference")),x30,vhere,(.str (Y ""))]))]
else
bnd (look (cmpV .Eq vstop (.str (Y ">")))) fun x31 =>
(if x31 then
bnd (look (cmpV .Eq vkind (.str (Y "end")))) fun x32 =>
(cond x32
(bnd (ret (V.lst [])) fun x33 =>
bnd (look (cmpV .NotEq vattrs x33)) fun x34 =>
(cond x34
(mc p c verrors (Y "append") [(.tup [(.str (Y "end-tag-with-attributes")),vat])] fun x36 =>
J_law_5 p c [(Y "script",vscript),(Y "kind",vkind),(Y "head",vhead),(Y "signs",vsigns),(Y "errors",verrors),(Y "attrs",vattrs),(Y "here",vhere),(Y "at",vat),(Y "stop",vstop),(Y "token",vtoken),(Y "due",(.tup [x27,verrors,vhere,vat,(.str (Y "data")),(.str (Y ""))]))])
(J_law_5 p c [(Y "script",vscript),(Y "kind",vkind),(Y "head",vhead),(Y "signs",vsigns),(Y "errors",verrors),(Y "attrs",vattrs),(Y "here",vhere),(Y "at",vat),(Y "stop",vstop),(Y "token",vtoken),(Y "due",(.tup [x27,verrors,vhere,vat,(.str (Y "data")),(.str (Y ""))]))])))
(J_law_5 p c [(Y "script",vscript),(Y "kind",vkind),(Y "head",vhead),(Y "signs",vsigns),(Y "errors",verrors),(Y "attrs",vattrs),(Y "here",vhere),(Y "at",vat),(Y "stop",vstop),(Y "token",vtoken),(Y "due",(.tup [x27,verrors,vhere,vat,(.str (Y "data")),(.str (Y ""))]))]))
else
J_law_4 p c [(Y "script",vscript),(Y "kind",vkind),(Y "head",vhead),(Y "signs",vsigns),(Y "errors",verrors),(Y "attrs",vattrs),(Y "here",vhere),(Y "at",vat),(Y "stop",vstop),(Y "token",vtoken),(Y "due",(.tup [x27,verrors,vhere,vat,(.str (Y "data")),(.str (Y ""))]))]))
theorem Uj5 (p:Params) (c:CC) (vscript vkind vhead vsigns verrors vattrs vhere vat vstop vtoken:V):J_law_3 p c [(Y "script",vscript),(Y "kind",vkind),(Y "head",vhead),(Y "signs",vsigns),(Y "errors",verrors),(Y "attrs",vattrs),(Y "here",vhere),(Y "at",vat),(Y "stop",vstop),(Y "token",vtoken)] = J_law_3_T0 p c vscript vkind vhead vsigns verrors vattrs vhere vat vstop vtoken:=by kernel_rfl
noncomputable def J_law_4_T0 (p:Params) (c:CC) (vscript vkind vhead vsigns verrors vattrs vhere vat vstop vtoken vdue:V):M Fl :=
bnd (c a_tag_states []) fun x37 =>
bnd (look (methK (P p) x37 (Y "update"))) fun x38 =>
if isRepl x38 then fail else bnd (c a_attr_states []) fun x39 =>
bnd (methodV c x38 x37 [x39]) fun x40 =>
bnd (applyV (P p) c (.fn c_Tokenizer) [x37,(.str (Y "tag open"))]) fun x41 =>
bnd (look (methK (P p) x41 (Y "feed"))) fun x42 =>
if isRepl x42 then fail else bnd (look (methK (P p) (.str (Y "")) (Y "join"))) fun x43 =>
if isRepl x43 then fail else bnd (methodV c x43 (.str (Y "")) [vsigns]) fun x44 =>
bnd (methodV c x42 x41 [x44]) fun x45 =>
mc p c x41 (Y "run") [] fun x47 =>
(match isT x47 with
| some x48 => (cond x48
(ret (.ret (.bool false)))
(bnd (c a__law_told [x41]) fun x49 =>
bnd (look (cmpV .NotEq x49 vdue)) fun x50 =>
(cond x50
(ret (.ret (.bool false)))
(bnd (attrV (P p) x41 (Y "draft")) fun x51 =>
bnd (look (cmpV .Is x51 .none)) fun x52 =>
bnd (look (cmpV .Eq vstop (.str (Y ">")))) fun x53 =>
bnd (look (cmpV .NotEq (.bool x52) (.bool x53))) fun x54 =>
(cond x54
(ret (.ret (.bool false)))
(J_law_6 p c [(Y "script",vscript),(Y "kind",vkind),(Y "head",vhead),(Y "signs",vsigns),(Y "errors",verrors),(Y "attrs",vattrs),(Y "here",vhere),(Y "at",vat),(Y "stop",vstop),(Y "token",vtoken),(Y "due",vdue),(Y "states",x37),(Y "t",x41)]))))))
| none => fail)
theorem Ujw (p:Params) (c:CC) (vscript vkind vhead vsigns verrors vattrs vhere vat vstop vtoken vdue:V):J_law_4 p c [(Y "script",vscript),(Y "kind",vkind),(Y "head",vhead),(Y "signs",vsigns),(Y "errors",verrors),(Y "attrs",vattrs),(Y "here",vhere),(Y "at",vat),(Y "stop",vstop),(Y "token",vtoken),(Y "due",vdue)] = J_law_4_T0 p c vscript vkind vhead vsigns verrors vattrs vhere vat vstop vtoken vdue:=by kernel_rfl
noncomputable def J_law_5_T0 (p:Params) (c:CC) (vscript vkind vhead vsigns verrors vattrs vhere vat vstop vtoken vdue:V):M Fl :=
bnd (look (cmpV .Eq vkind (.str (Y "end")))) fun x55 =>
(cond x55
(bnd (look (itemV vtoken (.int 3))) fun x56 =>
(match isT x56 with
| some x57 => (cond x57
(mc p c verrors (Y "append") [(.tup [(.str (Y "end-tag-with-trailing-solidus")),vat])] fun x59 =>
J_law_7 p c [(Y "script",vscript),(Y "kind",vkind),(Y "head",vhead),(Y "signs",vsigns),(Y "errors",verrors),(Y "attrs",vattrs),(Y "here",vhere),(Y "at",vat),(Y "stop",vstop),(Y "token",vtoken),(Y "due",vdue)])
(J_law_7 p c [(Y "script",vscript),(Y "kind",vkind),(Y "head",vhead),(Y "signs",vsigns),(Y "errors",verrors),(Y "attrs",vattrs),(Y "here",vhere),(Y "at",vat),(Y "stop",vstop),(Y "token",vtoken),(Y "due",vdue)]))
| none => fail))
(J_law_7 p c [(Y "script",vscript),(Y "kind",vkind),(Y "head",vhead),(Y "signs",vsigns),(Y "errors",verrors),(Y "attrs",vattrs),(Y "here",vhere),(Y "at",vat),(Y "stop",vstop),(Y "token",vtoken),(Y "due",vdue)]))
theorem Ufm (p:Params) (c:CC) (vscript vkind vhead vsigns verrors vattrs vhere vat vstop vtoken vdue:V):J_law_5 p c [(Y "script",vscript),(Y "kind",vkind),(Y "head",vhead),(Y "signs",vsigns),(Y "errors",verrors),(Y "attrs",vattrs),(Y "here",vhere),(Y "at",vat),(Y "stop",vstop),(Y "token",vtoken),(Y "due",vdue)] = J_law_5_T0 p c vscript vkind vhead vsigns verrors vattrs vhere vat vstop vtoken vdue:=by kernel_rfl
noncomputable def J_law_6_T0 (p:Params) (c:CC) (vscript vkind vhead vsigns verrors vattrs vhere vat vstop vtoken vdue vstates vt:V):M Fl :=
bnd (look (cmpV .NotEq vstop (.str (Y ">")))) fun x60 =>
(cond x60
(bnd (attrV (P p) vt (Y "draft")) fun x61 =>
mc p c x61 (Y "token") [] fun x63 =>
bnd (look (cmpV .NotEq x63 vtoken)) fun x64 =>
(cond x64
(ret (.ret (.bool false)))
(J_law_8 p c [(Y "script",vscript),(Y "kind",vkind),(Y "head",vhead),(Y "signs",vsigns),(Y "errors",verrors),(Y "attrs",vattrs),(Y "here",vhere),(Y "at",vat),(Y "stop",vstop),(Y "token",vtoken),(Y "due",vdue),(Y "states",vstates),(Y "t",vt)])))
(J_law_8 p c [(Y "script",vscript),(Y "kind",vkind),(Y "head",vhead),(Y "signs",vsigns),(Y "errors",verrors),(Y "attrs",vattrs),(Y "here",vhere),(Y "at",vat),(Y "stop",vstop),(Y "token",vtoken),(Y "due",vdue),(Y "states",vstates),(Y "t",vt)]))
theorem Ujv (p:Params) (c:CC) (vscript vkind vhead vsigns verrors vattrs vhere vat vstop vtoken vdue vstates vt:V):J_law_6 p c [(Y "script",vscript),(Y "kind",vkind),(Y "head",vhead),(Y "signs",vsigns),(Y "errors",verrors),(Y "attrs",vattrs),(Y "here",vhere),(Y "at",vat),(Y "stop",vstop),(Y "token",vtoken),(Y "due",vdue),(Y "states",vstates),(Y "t",vt)] = J_law_6_T0 p c vscript vkind vhead vsigns verrors vattrs vhere vat vstop vtoken vdue vstates vt:=by kernel_rfl
noncomputable def J_law_7_T0 (p:Params) (c:CC) (vscript vkind vhead vsigns verrors vattrs vhere vat vstop vtoken vdue:V):M Fl :=
bnd (ret (V.lst [vtoken])) fun x65 =>
bnd (look (binV .Add vat (.int 1))) fun x66 =>
bnd (look (cmpV .Eq vkind (.str (Y "start")))) fun x67 =>
(if x67 then
J_law_4 p c [(Y "script",vscript),(Y "kind",vkind),(Y "head",vhead),(Y "signs",vsigns),(Y "errors",verrors),(Y "attrs",vattrs),(Y "here",vhere),(Y "at",vat),(Y "stop",vstop),(Y "token",vtoken),(Y "due",(.tup [x65,verrors,(.str (Y "data")),x66,(.str (Y "data")),(.str (Y "a"))]))]
else
J_law_4 p c [(Y "script",vscript),(Y "kind",vkind),(Y "head",vhead),(Y "signs",vsigns),(Y "errors",verrors),(Y "attrs",vattrs),(Y "here",vhere),(Y "at",vat),(Y "stop",vstop),(Y "token",vtoken),(Y "due",(.tup [x65,verrors,(.str (Y "data")),x66,(.str (Y "data")),(.str (Y ""))]))])
theorem Ujy (p:Params) (c:CC) (vscript vkind vhead vsigns verrors vattrs vhere vat vstop vtoken vdue:V):J_law_7 p c [(Y "script",vscript),(Y "kind",vkind),(Y "head",vhead),(Y "signs",vsigns),(Y "errors",verrors),(Y "attrs",vattrs),(Y "here",vhere),(Y "at",vat),(Y "stop",vstop),(Y "token",vtoken),(Y "due",vdue)] = J_law_7_T0 p c vscript vkind vhead vsigns verrors vattrs vhere vat vstop vtoken vdue:=by kernel_rfl
noncomputable def J_law_8_T0 (p:Params) (c:CC) (vscript vkind vhead vsigns verrors vattrs vhere vat vstop vtoken vdue vstates vt:V):M Fl :=
bnd (look (cmpV .Eq vstop (.str (Y "")))) fun x68 =>
(if x68 then
bnd (look (cmpV .Eq vhere (.str (Y "attribute name")))) fun x69 =>
(if x69 then
bnd (c a__law_checked [verrors,vattrs,vat]) fun x70 =>
J_law_10 p c [(Y "script",vscript),(Y "kind",vkind),(Y "head",vhead),(Y "signs",vsigns),(Y "errors",verrors),(Y "attrs",vattrs),(Y "here",vhere),(Y "at",vat),(Y "stop",vstop),(Y "token",vtoken),(Y "due",vdue),(Y "states",vstates),(Y "t",vt)]
else
J_law_10 p c [(Y "script",vscript),(Y "kind",vkind),(Y "head",vhead),(Y "signs",vsigns),(Y "errors",verrors),(Y "attrs",vattrs),(Y "here",vhere),(Y "at",vat),(Y "stop",vstop),(Y "token",vtoken),(Y "due",vdue),(Y "states",vstates),(Y "t",vt)])
else
J_law_9 p c [(Y "script",vscript),(Y "kind",vkind),(Y "head",vhead),(Y "signs",vsigns),(Y "errors",verrors),(Y "attrs",vattrs),(Y "here",vhere),(Y "at",vat),(Y "stop",vstop),(Y "token",vtoken),(Y "due",vdue),(Y "states",vstates),(Y "t",vt)])
theorem Uj6 (p:Params) (c:CC) (vscript vkind vhead vsigns verrors vattrs vhere vat vstop vtoken vdue vstates vt:V):J_law_8 p c [(Y "script",vscript),(Y "kind",vkind),(Y "head",vhead),(Y "signs",vsigns),(Y "errors",verrors),(Y "attrs",vattrs),(Y "here",vhere),(Y "at",vat),(Y "stop",vstop),(Y "token",vtoken),(Y "due",vdue),(Y "states",vstates),(Y "t",vt)] = J_law_8_T0 p c vscript vkind vhead vsigns verrors vattrs vhere vat vstop vtoken vdue vstates vt:=by kernel_rfl
noncomputable def J_law_9_T0 (p:Params) (c:CC) (vscript vkind vhead vsigns verrors vattrs vhere vat vstop vtoken vdue vstates vt:V):M Fl :=
mc p c vt (Y "end") [] fun x72 =>
mc p c vt (Y "run") [] fun x74 =>
bnd (look (cmpV .Eq vstop (.str (Y "")))) fun x75 =>
bnd (look (cmpV .Eq x74 (.bool x75))) fun x76 =>
(cond x76
(bnd (c a__law_told [vt]) fun x77 =>
bnd (look (cmpV .Eq x77 vdue)) fun x78 =>
(cond x78
(bnd (attrV (P p) vt (Y "stream")) fun x79 =>
bnd (attrV (P p) x79 (Y "errors")) fun x80 =>
bnd (ret (V.lst [])) fun x81 =>
bnd (look (cmpV .Eq x80 x81)) fun x82 =>
ret (.ret (.bool x82)))
(ret (.ret (.bool x78)))))
(ret (.ret (.bool x76))))
theorem Uji (p:Params) (c:CC) (vscript vkind vhead vsigns verrors vattrs vhere vat vstop vtoken vdue vstates vt:V):J_law_9 p c [(Y "script",vscript),(Y "kind",vkind),(Y "head",vhead),(Y "signs",vsigns),(Y "errors",verrors),(Y "attrs",vattrs),(Y "here",vhere),(Y "at",vat),(Y "stop",vstop),(Y "token",vtoken),(Y "due",vdue),(Y "states",vstates),(Y "t",vt)] = J_law_9_T0 p c vscript vkind vhead vsigns verrors vattrs vhere vat vstop vtoken vdue vstates vt:=by kernel_rfl
noncomputable def J_law_10_T0 (p:Params) (c:CC) (vscript vkind vhead vsigns verrors vattrs vhere vat vstop vtoken vdue vstates vt:V):M Fl :=
mc p c verrors (Y "append") [(.tup [(.str (Y "eof-in-tag")),vat])] fun x84 =>
bnd (newD 14 [(Y "before attribute name",(.str (Y "after attribute name"))),(Y "attribute name",(.str (Y "after attribute name")))]) fun x85 =>
bnd (setItemV x85 (.str (Y "before attribute value")) (.str (Y "attribute value (unquoted)"))) fun w0 =>
bnd (ret (V.lst [(.tup [(.str (Y "eof"))])])) fun x86 =>
mc p c x85 (Y "get") [vhere,vhere] fun x88 =>
bnd (look (binV .Add vat (.int 1))) fun x89 =>
J_law_9 p c [(Y "script",vscript),(Y "kind",vkind),(Y "head",vhead),(Y "signs",vsigns),(Y "errors",verrors),(Y "attrs",vattrs),(Y "here",vhere),(Y "at",vat),(Y "stop",vstop),(Y "token",vtoken),(Y "due",(.tup [x86,verrors,x88,x89,(.str (Y "data")),(.str (Y ""))])),(Y "states",vstates),(Y "t",vt),(Y "ends",x85)]
theorem Uhf (p:Params) (c:CC) (vscript vkind vhead vsigns verrors vattrs vhere vat vstop vtoken vdue vstates vt:V):J_law_10 p c [(Y "script",vscript),(Y "kind",vkind),(Y "head",vhead),(Y "signs",vsigns),(Y "errors",verrors),(Y "attrs",vattrs),(Y "here",vhere),(Y "at",vat),(Y "stop",vstop),(Y "token",vtoken),(Y "due",vdue),(Y "states",vstates),(Y "t",vt)] = J_law_10_T0 p c vscript vkind vhead vsigns verrors vattrs vhere vat vstop vtoken vdue vstates vt:=by kernel_rfl
noncomputable def J_law_9_T1 (p:Params) (c:CC) (vscript vkind vhead vsigns verrors vattrs vhere vat vstop vtoken vdue vstates vt vends:V):M Fl :=
mc p c vt (Y "end") [] fun x91 =>
mc p c vt (Y "run") [] fun x93 =>
bnd (look (cmpV .Eq vstop (.str (Y "")))) fun x94 =>
bnd (look (cmpV .Eq x93 (.bool x94))) fun x95 =>
(cond x95
(bnd (c a__law_told [vt]) fun x96 =>
bnd (look (cmpV .Eq x96 vdue)) fun x97 =>
(cond x97
(bnd (attrV (P p) vt (Y "stream")) fun x98 =>
bnd (attrV (P p) x98 (Y "errors")) fun x99 =>
bnd (ret (V.lst [])) fun x100 =>
bnd (look (cmpV .Eq x99 x100)) fun x101 =>
ret (.ret (.bool x101)))
(ret (.ret (.bool x97)))))
(ret (.ret (.bool x95))))
theorem Ujp (p:Params) (c:CC) (vscript vkind vhead vsigns verrors vattrs vhere vat vstop vtoken vdue vstates vt vends:V):J_law_9 p c [(Y "script",vscript),(Y "kind",vkind),(Y "head",vhead),(Y "signs",vsigns),(Y "errors",verrors),(Y "attrs",vattrs),(Y "here",vhere),(Y "at",vat),(Y "stop",vstop),(Y "token",vtoken),(Y "due",vdue),(Y "states",vstates),(Y "t",vt),(Y "ends",vends)] = J_law_9_T1 p c vscript vkind vhead vsigns verrors vattrs vhere vat vstop vtoken vdue vstates vt vends:=by kernel_rfl
noncomputable def F_law (p:Params) (c:CC) (vscript:V):M Fl :=
bnd (ret (V.lst [])) fun x1 =>
bnd (look (cmpV .NotEq vscript x1)) fun x2 =>
(cond x2
(bnd (look (itemV vscript (.int 0))) fun x3 =>
bnd (look (binV .Mod x3 (.int 2))) fun x4 =>
bnd (look (cmpV .Eq x4 (.int 1))) fun x5 =>
(cond x5
(J_law_0 p c [(Y "script",vscript),(Y "kind",(.str (Y "end")))])
(J_law_0 p c [(Y "script",vscript),(Y "kind",(.str (Y "start")))])))
(J_law_0 p c [(Y "script",vscript),(Y "kind",(.str (Y "start")))]))
theorem B_law (p:Params) (d:Nat) (vscript:V):callK (P p) (d + 1) a_law [vscript] = bnd (F_law p (callK (P p) d) vscript) unFl:=by kernel_rfl
end Mine
end
section
open PySem PySem.W
namespace Mine
noncomputable def Run {α:Type} (m:M α) (σ:Store) (Q:α -> Store -> Prop):Prop:=∃ a σ',m σ = some (a,σ') ∧ Q a σ'
noncomputable def RF (m:M Fl) (σ:Store) (Q:V -> Store -> Prop):Prop:=Run (bnd m unFl) σ Q
section
variable {α β:Type} {σ σ' σ₁:Store}
theorem bnd_of {m:M α} {k:α -> M β} {a:α} (h:m σ = some (a,σ₁)):bnd m k σ = k a σ₁:=by delta bnd; rw [h]
theorem b_of {m:M α} {k:α -> M β} {a:α} {r:Option (β × Store)} (h:m σ = some (a,σ₁)) (g:k a σ₁ = r):bnd m k σ = r:=(bnd_of h).trans g
theorem ba_of {γ:Type} {m:M γ} {j:γ -> M α} {k:α -> M β} {a:γ} {r:Option (β × Store)} (h:m σ = some (a,σ₁)) (g:bnd (j a) k σ₁ = r):bnd (bnd m j) k σ = r:=by rw [Uak]; exact b_of h g
theorem Run.b {m:M α} {k:α -> M β} {a:α} {Q:β -> Store -> Prop} (h:m σ = some (a,σ₁)) (g:Run (k a) σ₁ Q):Run (bnd m k) σ Q:=xEEAA g fun b s e q => ⟨b,s,(bnd_of h).trans e,q⟩
theorem Run.c {m:M α} {k:α -> M β} {Q₁:α -> Store -> Prop} {Q:β -> Store -> Prop} (h:Run m σ Q₁) (g:∀ a σ',Q₁ a σ' -> Run (k a) σ' Q):Run (bnd m k) σ Q:=xEEAA h fun a s e q => Run.b e (g a s q)
theorem Run.r {a:α} {Q:α -> Store -> Prop} (h:Q a σ):Run (ret a) σ Q:=⟨a,σ,rfl,h⟩
theorem Run.mono {m:M α} {Q Q':α -> Store -> Prop} (h:Run m σ Q) (g:∀ a s,Q a s -> Q' a s):Run m σ Q':=by refine xEEAA h fun a s e q => ?_; exact ⟨a,s,e,g a s q⟩
theorem RF.b {m:M α} {k:α -> M Fl} {a:α} {Q:V -> Store -> Prop} (h:m σ = some (a,σ₁)) (g:RF (k a) σ₁ Q):RF (bnd m k) σ Q:=by
 delta RF at *; rw [Uak]; exact Run.b h g
theorem RF.c {m:M α} {k:α -> M Fl} {Q₁:α -> Store -> Prop} {Q:V -> Store -> Prop} (h:Run m σ Q₁) (g:∀ a σ',Q₁ a σ' -> RF (k a) σ' Q):RF (bnd m k) σ Q:=by
 refine xEEAA h fun a s e q => ?_; exact RF.b e (g a s q)
theorem RF.r {v:V} {Q:V -> Store -> Prop} (h:Q v σ):RF (ret (.ret v)) σ Q:=⟨v,σ,rfl,h⟩
theorem RF.n {fr:Fr} {Q:V -> Store -> Prop} (h:Q .none σ):RF (ret (.next fr)) σ Q:=⟨.none,σ,rfl,h⟩
theorem RF.b1 {a:α} {k:α -> M Fl} {Q:V -> Store -> Prop} (g:RF (k a) σ Q):RF (bnd (ret a) k) σ Q:=RF.b rfl g
theorem RF.l {f:Store -> Option α} {k:α -> M Fl} {a:α} {Q:V -> Store -> Prop} (h:f σ = some a) (g:RF (k a) σ Q):RF (bnd (look f) k) σ Q:=RF.b (by delta look; rw [h]) g
theorem RF.pos {c:Prop} [Decidable c] {a b:M Fl} {Q:V -> Store -> Prop} (h:c) (g:RF a σ Q):RF (if c then a else b) σ Q:=by rw [if_pos h]; exact g
theorem RF.neg {c:Prop} [Decidable c] {a b:M Fl} {Q:V -> Store -> Prop} (h:¬ c) (g:RF b σ Q):RF (if c then a else b) σ Q:=by rw [if_neg h]; exact g
theorem RF.mono {m:M Fl} {Q Q':V -> Store -> Prop} (h:RF m σ Q) (g:∀ a s,Q a s -> Q' a s):RF m σ Q':=Run.mono h g
theorem ob_of {x:Option α} {f:α -> β} {z:β} {a:α} (h:x = some a):ob x f z = f a:=by rw [h]
theorem ob_no {x:Option α} {f:α -> β} {z:β} (h:x = none):ob x f z = z:=by rw [h]
noncomputable def clsHas (c:Addr) (x:Str):Bool:=ob (lkN c clsL) (fun k => k.attrs.contains x) false
theorem Uop {c:Addr} {x:Str} {P:Prop} (h:clsHas c x = true) (k:∀ k,lkN c clsL = some k -> k.attrs.contains x = true -> P):P:=by
 delta clsHas at h
 cases q:lkN c clsL with
 | none => rw [q] at h; cases h
 | some a => rw [q] at h; exact k a q h
theorem Ue2 {r i:Nat} {o:Ob} (h:σ.get r i = some o):objO σ (.ref r i) = some (r,i,o):=ob_of h
theorem Uli {p:Params} {r i:Nat} {c:Addr} {es:List (Str × V)} {k:Cls} (h:σ.get r i = some (.inst c es)) (hk:lkN c clsL = some k):instO (P p) σ (.ref r i) = some (r,i,c,es,k) :=
 (ob_of (Ue2 h)).trans (ob_of (f:=fun k => some (r,i,c,es,k)) (z:=none) hk)
theorem Uao {p:Params} {r i:Nat} {c:Addr} {es:List (Str × V)} {x:Str} {v:V} (h:σ.get r i = some (.inst c es)) (hx:clsHas c x = true) (hv:lk x es = some v):attrV (P p) (.ref r i) x σ = some (v,σ):=Uop hx fun k hk ha => by
 have e:attrO (P p) (.ref r i) x σ = some v:=(ob_of (Uli h hk)).trans ((if_pos ha).trans hv)
 delta attrV look
 rw [e]
theorem Uae {p:Params} {r i:Nat} {c:Addr} {es es':List (Str × V)} {x:Str} {v:V} (h:σ.get r i = some (.inst c es)) (hx:clsHas c x = true) (hl:es.length < 100) (hv:setK x v es = es') :
   setAttrV (P p) (.ref r i) x v σ = some ((),σ.put r i (.inst c es')):=Uop hx fun k hk ha => hv ▸ (ob_of (Uli h hk)).trans (if_pos (Bool.and_eq_true_iff.mpr ⟨ha,decide_eq_true hl⟩))
noncomputable def clsMeth (c:Addr) (x:Str):Option Addr:=ob (lkN c clsL) (fun k => lk x k.meths) none
theorem Ufv {r i:Nat} {vs:List V} (h:σ.get r i = some (.list vs)):lref σ (.ref r i) = some (r,i,vs):=ob_of (Ue2 h)
theorem Ufp {r i:Nat} {vs:List (Str × V)} (h:σ.get r i = some (.dict vs)):dref σ (.ref r i) = some (r,i,vs):=ob_of (Ue2 h)
theorem asl_of {r i:Nat} {vs:List V} (h:σ.get r i = some (.list vs)):asList σ (.ref r i) = some vs:=ob_of (f:=fun z:Nat × Nat × List V => some z.2.2) (z:=none) (Ufv h)
theorem Uaj {p:Params} {r i:Nat} {c f:Addr} {es:List (Str × V)} {x:Str} (h:σ.get r i = some (.inst c es)) (hx:clsMeth c x = some f) (hn:lk x es = none):methK (P p) (.ref r i) x σ = some (.fn f):=obS hx fun k hk hf =>
 (ob_no (ob_of (Ue2 h))).trans ((ob_no (ob_of (Ue2 h))).trans ((ob_of (Uli h hk)).trans ((ob_of hf).trans (ob_no hn))))
theorem Ui2 {p:Params} {r i:Nat} {vs:List V} {x:Str} (h:σ.get r i = some (.list vs)):methK (P p) (.ref r i) x σ = (listM x).map .bi:=ob_of (f:=fun w0 => (listM x).map MK.bi) (Ufv h)
theorem Um8 {p:Params} {r i:Nat} {es:List (Str × V)} {x:Str} (h:σ.get r i = some (.dict es)):methK (P p) (.ref r i) x σ = (dictM x).map .bi :=
 (ob_no (ob_of (Ue2 h))).trans (ob_of (f:=fun w0 => (dictM x).map MK.bi) (Ufp h))
theorem RF.m {p:Params} {c:CC} {r i:Nat} {C f:Addr} {es:List (Str × V)} {x:Str} {k:MK -> M Fl} {Q:V -> Store -> Prop} (h:σ.get r i = some (.inst C es)) (hx:clsMeth C x = some f) (hn:lk x es = none)
   (g:RF (k (.fn f)) σ Q):RF (bnd (look (methK (P p) (.ref r i) x)) fun m => if isRepl m then fail else k m) σ Q :=
 RF.l (Uaj h hx hn) (RF.neg (by delta isRepl; exact Bool.false_ne_true) g)
theorem RF.ml {p:Params} {r i:Nat} {vs:List V} {x:Str} {id:Mi} {k:MK -> M Fl} {Q:V -> Store -> Prop} (h:σ.get r i = some (.list vs)) (hx:listM x = some id) (hr:isRepl (.bi id) = false)
   (g:RF (k (.bi id)) σ Q):RF (bnd (look (methK (P p) (.ref r i) x)) fun m => if isRepl m then fail else k m) σ Q :=
 RF.l ((Ui2 h).trans (by rw [hx]; rfl)) (RF.neg (by rw [hr]; decide) g)
theorem RF.md {p:Params} {r i:Nat} {es:List (Str × V)} {x:Str} {id:Mi} {k:MK -> M Fl} {Q:V -> Store -> Prop} (h:σ.get r i = some (.dict es)) (hx:dictM x = some id) (hr:isRepl (.bi id) = false)
   (g:RF (k (.bi id)) σ Q):RF (bnd (look (methK (P p) (.ref r i) x)) fun m => if isRepl m then fail else k m) σ Q :=
 RF.l ((Um8 h).trans (by rw [hx]; rfl)) (RF.neg (by rw [hr]; decide) g)
theorem RF.ms {p:Params} {s x:Str} {id:Mi} {k:MK -> M Fl} {Q:V -> Store -> Prop} (hx:strM x = some id) (hr:isRepl (.bi id) = false)
   (g:RF (k (.bi id)) σ Q):RF (bnd (look (methK (P p) (.str s) x)) fun m => if isRepl m then fail else k m) σ Q :=
 RF.l (a:=.bi id) (show (strM x).map MK.bi = _ by rw [hx]; rfl) (RF.neg (by rw [hr]; decide) g)
theorem bi_of {n:Bi} {args:List V} {v:V} (h:bV n σ args = some v):builtinV n args σ = some (v,σ):=by delta builtinV look; dsimp only; rw [h]
theorem Uai {c:CC} {r i:Nat} {vs:List V} {v:V} (h:σ.get r i = some (.list vs)) (hl:vs.length < lim):methodV c (.bi .append) (.ref r i) [v] σ = some (.none,σ.put r i (.list (vs ++ [v]))):=by
 show ob (lref σ (.ref r i)) _ _ = _
 exact (ob_of (Ufv h)).trans (if_pos hl)
theorem Uav {r i:Nat} {o:Ob}:(σ.put r i o).length = σ.length:=by delta Store.put; rw [List.length_modify]
theorem Ubi {r:Nat} {o:Ob}:(σ.add r o).length = σ.length:=by delta Store.add; rw [List.length_modify]
theorem reg_of {r:Nat} (h:σ.length = 24) (hr:r < 24):∃ l,σ[r]? = some l:=⟨σ[r]'(by omega),List.getElem?_eq_getElem _⟩
theorem Uam {r i:Nat} {o o':Ob} (h:σ.get r i = some o'):(σ.put r i o).get r i = some o:=by rw [Store.get_put h]; simp
theorem Uac {r i r' i':Nat} {o o':Ob} (h:σ.get r i = some o') (hr:r' ≠ r):(σ.put r i o).get r' i' = σ.get r' i':=by rw [Store.get_put h]; simp [hr]
theorem get_ne {r i r' i':Nat} {o o':Ob} (h:σ.get r i = some o') (hr:i' ≠ i):(σ.put r i o).get r' i' = σ.get r' i':=by rw [Store.get_put h]; simp [hr]
theorem Ubd {r:Nat} {l:List Ob} {o:Ob} (h:σ[r]? = some l):(σ.add r o).get r l.length = some o:=by rw [Store.get_add h]; simp
theorem Ubq {r r' i':Nat} {l:List Ob} {o o':Ob} (h:σ[r]? = some l) (e:σ.get r' i' = some o'):(σ.add r o).get r' i' = some o':=by
 rw [Store.get_add h]
 split
 · rename_i q
   refine xAA q fun qz1 qz2 => ?_; subst qz1; subst qz2
   rw [Store.get_end h] at e; cases e
 · exact e
theorem Uce {r i r':Nat} {o:Ob} (hr:r' ≠ r):(σ.put r i o)[r']? = σ[r']?:=by
 delta Store.put; rw [List.getElem?_modify]; simp only [if_neg (fun e:r = r' => hr e.symm)]; cases σ[r']? <;> rfl
theorem Ucp {r r':Nat} {o:Ob} (hr:r' ≠ r):(σ.add r o)[r']? = σ[r']?:=by
 delta Store.add; rw [List.getElem?_modify]; simp only [if_neg (fun e:r = r' => hr e.symm)]; cases σ[r']? <;> rfl
noncomputable def tokR (r:Nat):Bool:=r == 0 || r == 1 || r == 2 || (4 <= r && r <= 10)
noncomputable def Fx (σ σ':Store):Prop:=∀ r,tokR r = false -> σ'[r]? = σ[r]?
theorem Fx.rfl:Fx σ σ:=fun w0 w0 => Eq.refl _
theorem Fx.trans {a b c:Store} (x:Fx a b) (y:Fx b c):Fx a c:=fun r h => (y r h).trans (x r h)
theorem Fx.put {r i:Nat} {o:Ob} (h:tokR r = true):Fx σ (σ.put r i o):=fun r' h' => Uce fun e => by subst e; rw [h] at h'; cases h'
theorem Fx.add {r:Nat} {o:Ob} (h:tokR r = true):Fx σ (σ.add r o):=fun r' h' => Ucp fun e => by subst e; rw [h] at h'; cases h'
theorem Fx.get {r i:Nat} (x:Fx σ σ') (h:tokR r = false):σ'.get r i = σ.get r i:=by delta Store.get; rw [x r h]
end
end Mine
end
section
open PySem PySem.W
namespace Mine
structure At where
 i:Nat
 n:Str
 v:Str
 k:Bool
structure Dr where
 i:Nat
 kind:Str
 name:Str
 closing:Bool
 al:Nat
 attrs:List At
structure TS where
 pos:Int
 state:Str
 back:Str
 last:Str
 out:List V
 errs:List V
 draft:Option Dr
 waiting:Bool
 done:Bool
 signs:List Str
 closed:Bool
 isret:Bool
 serr:List V
structure Rf where
 i:Nat
 s:Nat
 o:Nat
 e:Nat
 sg:Nat
 se:Nat
 sd:Nat
noncomputable def drV:Option Dr -> V
 | some d => .ref 0 d.i
 | none => .none
noncomputable def tokEs (τ:Rf) (t:TS):List (Str × V):=[(Y "states",.ref 3 τ.sd),(Y "stream",.ref 1 τ.s),(Y "at",.int t.pos),(Y "state",.str t.state),(Y "back",.str t.back),(Y "out",.ref 9 τ.o),(Y "errors",.ref 10 τ.e),(Y "draft",drV t.draft),(Y "buffer",.str (Y "")),(Y "code",.int 0),(Y "last",.str t.last),(Y "is_foreign",.bool false),(Y "is_waiting",.bool t.waiting),(Y "is_done",.bool t.done)]
noncomputable def drEs (d:Dr):List (Str × V):=[(Y "kind",.str d.kind),(Y "name",.str d.name),(Y "text",.str (Y "")),(Y "public",.none),(Y "system",.none),(Y "is_quirks",.bool false),(Y "is_closing",.bool d.closing),(Y "attrs",.ref 4 d.al)]
noncomputable def strEs (τ:Rf) (t:TS):List (Str × V):=[(Y "signs",.ref 7 τ.sg),(Y "is_closed",.bool t.closed),(Y "is_return",.bool t.isret),(Y "errors",.ref 8 τ.se)]
noncomputable def stEs:List (Str × V):=[(Y "tag open",.fn a_tag_open_state),(Y "end tag open",.fn a_end_tag_open_state),(Y "tag name",.fn a_tag_name_state),(Y "self-closing start tag",.fn a_self_closing_state),(Y "before attribute name",.fn a_before_attr_name_state),(Y "attribute name",.fn a_attr_name_state),(Y "after attribute name",.fn a_after_attr_name_state),(Y "before attribute value",.fn a_before_attr_value_state),(Y "attribute value (double-quoted)",.fn a_double_quoted_state),(Y "attribute value (single-quoted)",.fn a_single_quoted_state),(Y "attribute value (unquoted)",.fn a_unquoted_state),(Y "after attribute value (quoted)",.fn a_after_quoted_state)]
structure DR (σ:Store) (d:Dr):Prop where
 obj:σ.get 0 d.i = some (.inst c_Draft (drEs d))
 al:σ.get 4 d.al = some (.list (d.attrs.map fun a => .ref 5 a.i))
 each:∀ a ∈ d.attrs,σ.get 5 a.i = some (.list [.str a.n,.str a.v,.bool a.k])
 nd:(d.attrs.map (·.i)).Nodup
structure TR (σ:Store) (τ:Rf) (t:TS):Prop where
 len:σ.length = 24
 tok:σ.get 2 τ.i = some (.inst c_Tokenizer (tokEs τ t))
 str:σ.get 1 τ.s = some (.inst c_Stream (strEs τ t))
 sg:σ.get 7 τ.sg = some (.list (t.signs.map .str))
 se:σ.get 8 τ.se = some (.list t.serr)
 out:σ.get 9 τ.o = some (.list t.out)
 err:σ.get 10 τ.e = some (.list t.errs)
 sd:σ.get 3 τ.sd = some (.dict stEs)
 dr:∀ d,t.draft = some d -> DR σ d
section
variable {p:Params} {σ:Store} {τ:Rf} {t:TS} {d:Dr}
theorem Uf2 (h:TR σ τ t):attrV (P p) (.ref 2 τ.i) (Y "states") σ = some (.ref 3 τ.sd,σ):=Uao h.tok (by kernel_rfl) (by kernel_rfl)
theorem Ubs (h:TR σ τ t):attrV (P p) (.ref 2 τ.i) (Y "stream") σ = some (.ref 1 τ.s,σ):=Uao h.tok (by kernel_rfl) (by kernel_rfl)
theorem ga_at (h:TR σ τ t):attrV (P p) (.ref 2 τ.i) (Y "at") σ = some (.int t.pos,σ):=Uao h.tok (by kernel_rfl) (by kernel_rfl)
theorem Uev (h:TR σ τ t):attrV (P p) (.ref 2 τ.i) (Y "state") σ = some (.str t.state,σ):=Uao h.tok (by kernel_rfl) (by kernel_rfl)
theorem Uq2 (h:TR σ τ t):attrV (P p) (.ref 2 τ.i) (Y "back") σ = some (.str t.back,σ):=Uao h.tok (by kernel_rfl) (by kernel_rfl)
theorem ga_out (h:TR σ τ t):attrV (P p) (.ref 2 τ.i) (Y "out") σ = some (.ref 9 τ.o,σ):=Uao h.tok (by kernel_rfl) (by kernel_rfl)
theorem Uin (h:TR σ τ t):attrV (P p) (.ref 2 τ.i) (Y "errors") σ = some (.ref 10 τ.e,σ):=Uao h.tok (by kernel_rfl) (by kernel_rfl)
theorem Ua7 (h:TR σ τ t):attrV (P p) (.ref 2 τ.i) (Y "draft") σ = some (drV t.draft,σ):=Uao h.tok (by kernel_rfl) (by kernel_rfl)
theorem Urt (h:TR σ τ t):attrV (P p) (.ref 2 τ.i) (Y "last") σ = some (.str t.last,σ):=Uao h.tok (by kernel_rfl) (by kernel_rfl)
theorem Ud8 (h:TR σ τ t):attrV (P p) (.ref 2 τ.i) (Y "is_waiting") σ = some (.bool t.waiting,σ):=Uao h.tok (by kernel_rfl) (by kernel_rfl)
theorem Ugm (h:TR σ τ t):attrV (P p) (.ref 2 τ.i) (Y "is_done") σ = some (.bool t.done,σ):=Uao h.tok (by kernel_rfl) (by kernel_rfl)
theorem Ud4 (h:TR σ τ t):attrV (P p) (.ref 1 τ.s) (Y "signs") σ = some (.ref 7 τ.sg,σ):=Uao h.str (by kernel_rfl) (by kernel_rfl)
theorem Ue6 (h:TR σ τ t):attrV (P p) (.ref 1 τ.s) (Y "is_closed") σ = some (.bool t.closed,σ):=Uao h.str (by kernel_rfl) (by kernel_rfl)
theorem Ufe (h:TR σ τ t):attrV (P p) (.ref 1 τ.s) (Y "is_return") σ = some (.bool t.isret,σ):=Uao h.str (by kernel_rfl) (by kernel_rfl)
theorem Um6 (h:TR σ τ t):attrV (P p) (.ref 1 τ.s) (Y "errors") σ = some (.ref 8 τ.se,σ):=Uao h.str (by kernel_rfl) (by kernel_rfl)
theorem Ui6 (h:DR σ d):attrV (P p) (.ref 0 d.i) (Y "kind") σ = some (.str d.kind,σ):=Uao h.obj (by kernel_rfl) (by kernel_rfl)
theorem Un0 (h:DR σ d):attrV (P p) (.ref 0 d.i) (Y "name") σ = some (.str d.name,σ):=Uao h.obj (by kernel_rfl) (by kernel_rfl)
theorem Urm (h:DR σ d):attrV (P p) (.ref 0 d.i) (Y "text") σ = some (.str (Y ""),σ):=Uao h.obj (by kernel_rfl) (by kernel_rfl)
theorem Uea (h:DR σ d):attrV (P p) (.ref 0 d.i) (Y "is_closing") σ = some (.bool d.closing,σ):=Uao h.obj (by kernel_rfl) (by kernel_rfl)
theorem Ubr (h:DR σ d):attrV (P p) (.ref 0 d.i) (Y "attrs") σ = some (.ref 4 d.al,σ):=Uao h.obj (by kernel_rfl) (by kernel_rfl)
theorem Ur0 (h:TR σ τ t):methK (P p) (.ref 2 τ.i) (Y "feed") σ = some (.fn a_Tokenizer_feed):=Uaj h.tok (by kernel_rfl) (by kernel_rfl)
theorem mt_end (h:TR σ τ t):methK (P p) (.ref 2 τ.i) (Y "end") σ = some (.fn a_Tokenizer_end):=Uaj h.tok (by kernel_rfl) (by kernel_rfl)
theorem Ur7 (h:TR σ τ t):methK (P p) (.ref 2 τ.i) (Y "next") σ = some (.fn a_Tokenizer_next):=Uaj h.tok (by kernel_rfl) (by kernel_rfl)
theorem mt_to (h:TR σ τ t):methK (P p) (.ref 2 τ.i) (Y "to") σ = some (.fn a_Tokenizer_to):=Uaj h.tok (by kernel_rfl) (by kernel_rfl)
theorem Uo8 (h:TR σ τ t):methK (P p) (.ref 2 τ.i) (Y "again") σ = some (.fn a_Tokenizer_again):=Uaj h.tok (by kernel_rfl) (by kernel_rfl)
theorem Uh3 (h:TR σ τ t):methK (P p) (.ref 2 τ.i) (Y "error") σ = some (.fn a_Tokenizer_error):=Uaj h.tok (by kernel_rfl) (by kernel_rfl)
theorem Ur5 (h:TR σ τ t):methK (P p) (.ref 2 τ.i) (Y "emit") σ = some (.fn a_Tokenizer_emit):=Uaj h.tok (by kernel_rfl) (by kernel_rfl)
theorem Uia (h:TR σ τ t):methK (P p) (.ref 2 τ.i) (Y "emit_sign") σ = some (.fn a_Tokenizer_emit_sign):=Uaj h.tok (by kernel_rfl) (by kernel_rfl)
theorem Uh4 (h:TR σ τ t):methK (P p) (.ref 2 τ.i) (Y "emit_text") σ = some (.fn a_Tokenizer_emit_text):=Uaj h.tok (by kernel_rfl) (by kernel_rfl)
theorem Ugo (h:TR σ τ t):methK (P p) (.ref 2 τ.i) (Y "emit_draft") σ = some (.fn a_Tokenizer_emit_draft):=Uaj h.tok (by kernel_rfl) (by kernel_rfl)
theorem Ujt (h:TR σ τ t):methK (P p) (.ref 2 τ.i) (Y "emit_eof") σ = some (.fn a_Tokenizer_emit_eof):=Uaj h.tok (by kernel_rfl) (by kernel_rfl)
theorem Uq8 (h:TR σ τ t):methK (P p) (.ref 2 τ.i) (Y "step") σ = some (.fn a_Tokenizer_step):=Uaj h.tok (by kernel_rfl) (by kernel_rfl)
theorem Uju (h:TR σ τ t):methK (P p) (.ref 2 τ.i) (Y "is_ready") σ = some (.fn a_Tokenizer_is_ready):=Uaj h.tok (by kernel_rfl) (by kernel_rfl)
theorem mt_run (h:TR σ τ t):methK (P p) (.ref 2 τ.i) (Y "run") σ = some (.fn a_Tokenizer_run):=Uaj h.tok (by kernel_rfl) (by kernel_rfl)
theorem Usk (h:TR σ τ t):methK (P p) (.ref 1 τ.s) (Y "feed") σ = some (.fn a_Stream_feed):=Uaj h.str (by kernel_rfl) (by kernel_rfl)
theorem ms_end (h:TR σ τ t):methK (P p) (.ref 1 τ.s) (Y "end") σ = some (.fn a_Stream_end):=Uaj h.str (by kernel_rfl) (by kernel_rfl)
theorem Uhb (h:DR σ d):methK (P p) (.ref 0 d.i) (Y "begin_attr") σ = some (.fn a_Draft_begin_attr):=Uaj h.obj (by kernel_rfl) (by kernel_rfl)
theorem Ufu (h:DR σ d):methK (P p) (.ref 0 d.i) (Y "add_name") σ = some (.fn a_Draft_add_name):=Uaj h.obj (by kernel_rfl) (by kernel_rfl)
theorem Uhr (h:DR σ d):methK (P p) (.ref 0 d.i) (Y "add_value") σ = some (.fn a_Draft_add_value):=Uaj h.obj (by kernel_rfl) (by kernel_rfl)
theorem Ug1 (h:DR σ d):methK (P p) (.ref 0 d.i) (Y "check_attr") σ = some (.fn a_Draft_check_attr):=Uaj h.obj (by kernel_rfl) (by kernel_rfl)
theorem Uls (h:DR σ d):methK (P p) (.ref 0 d.i) (Y "token") σ = some (.fn a_Draft_token):=Uaj h.obj (by kernel_rfl) (by kernel_rfl)
theorem DR.put {r i:Nat} {o o':Ob} (h:DR σ d) (e:σ.get r i = some o') (hr:r ≠ 0 ∧ r ≠ 4 ∧ r ≠ 5):DR (σ.put r i o) d :=
 ⟨(Uac e (fun z => hr.1 z.symm)).trans h.obj,(Uac e (fun z => hr.2.1 z.symm)).trans h.al,fun a m => (Uac e (fun z => hr.2.2 z.symm)).trans (h.each a m),h.nd⟩
theorem TR.setTok {t':TS} (h:TR σ τ t) (e1:t'.signs = t.signs) (e2:t'.closed = t.closed) (e3:t'.isret = t.isret) (e4:t'.serr = t.serr) (e5:t'.out = t.out) (e6:t'.errs = t.errs) (hd:∀ d,t'.draft = some d -> DR σ d) :
   TR (σ.put 2 τ.i (.inst c_Tokenizer (tokEs τ t'))) τ t':=by
 have es:strEs τ t' = strEs τ t:=by delta strEs; rw [e2,e3]
 refine ⟨Uav.trans h.len,Uam h.tok,?_,?_,?_,?_,?_,?_,fun d e => (hd d e).put h.tok ⟨by decide,by decide,by decide⟩⟩
 · rw [Uac h.tok (by decide),es]; exact h.str
 · rw [Uac h.tok (by decide),e1]; exact h.sg
 · rw [Uac h.tok (by decide),e4]; exact h.se
 · rw [Uac h.tok (by decide),e5]; exact h.out
 · rw [Uac h.tok (by decide),e6]; exact h.err
 · rw [Uac h.tok (by decide)]; exact h.sd
theorem sa_at (h:TR σ τ t) (v:Int):∃ σ',setAttrV (P p) (.ref 2 τ.i) (Y "at") (.int v) σ = some ((),σ') ∧ TR σ' τ { t with pos:=v } ∧ Fx σ σ' :=
 ⟨_,Uae (es':=tokEs τ { t with pos:=v }) h.tok (by kernel_rfl) (by show 14 < 100; decide) (by kernel_rfl),h.setTok rfl rfl rfl rfl rfl rfl h.dr,Fx.put rfl⟩
theorem Ukc (h:TR σ τ t) (v:Str):∃ σ',setAttrV (P p) (.ref 2 τ.i) (Y "state") (.str v) σ = some ((),σ') ∧ TR σ' τ { t with state:=v } ∧ Fx σ σ' :=
 ⟨_,Uae (es':=tokEs τ { t with state:=v }) h.tok (by kernel_rfl) (by show 14 < 100; decide) (by kernel_rfl),h.setTok rfl rfl rfl rfl rfl rfl h.dr,Fx.put rfl⟩
theorem Uq9 (h:TR σ τ t) (v:Str):∃ σ',setAttrV (P p) (.ref 2 τ.i) (Y "back") (.str v) σ = some ((),σ') ∧ TR σ' τ { t with back:=v } ∧ Fx σ σ' :=
 ⟨_,Uae (es':=tokEs τ { t with back:=v }) h.tok (by kernel_rfl) (by show 14 < 100; decide) (by kernel_rfl),h.setTok rfl rfl rfl rfl rfl rfl h.dr,Fx.put rfl⟩
theorem Urj (h:TR σ τ t) (v:Str):∃ σ',setAttrV (P p) (.ref 2 τ.i) (Y "last") (.str v) σ = some ((),σ') ∧ TR σ' τ { t with last:=v } ∧ Fx σ σ' :=
 ⟨_,Uae (es':=tokEs τ { t with last:=v }) h.tok (by kernel_rfl) (by show 14 < 100; decide) (by kernel_rfl),h.setTok rfl rfl rfl rfl rfl rfl h.dr,Fx.put rfl⟩
theorem Ucc (h:TR σ τ t) (v:Bool):∃ σ',setAttrV (P p) (.ref 2 τ.i) (Y "is_waiting") (.bool v) σ = some ((),σ') ∧ TR σ' τ { t with waiting:=v } ∧ Fx σ σ' :=
 ⟨_,Uae (es':=tokEs τ { t with waiting:=v }) h.tok (by kernel_rfl) (by show 14 < 100; decide) (by kernel_rfl),h.setTok rfl rfl rfl rfl rfl rfl h.dr,Fx.put rfl⟩
theorem Uln (h:TR σ τ t) (v:Bool):∃ σ',setAttrV (P p) (.ref 2 τ.i) (Y "is_done") (.bool v) σ = some ((),σ') ∧ TR σ' τ { t with done:=v } ∧ Fx σ σ' :=
 ⟨_,Uae (es':=tokEs τ { t with done:=v }) h.tok (by kernel_rfl) (by show 14 < 100; decide) (by kernel_rfl),h.setTok rfl rfl rfl rfl rfl rfl h.dr,Fx.put rfl⟩
theorem Uo1 (h:TR σ τ t) (v:Option Dr) (hd:∀ d,v = some d -> DR σ d):∃ σ',setAttrV (P p) (.ref 2 τ.i) (Y "draft") (drV v) σ = some ((),σ') ∧ TR σ' τ { t with draft:=v } ∧ Fx σ σ' :=
 ⟨_,Uae (es':=tokEs τ { t with draft:=v }) h.tok (by kernel_rfl) (by show 14 < 100; decide) (by kernel_rfl),h.setTok rfl rfl rfl rfl rfl rfl hd,Fx.put rfl⟩
end
end Mine
end
section
open PySem PySem.W
namespace Mine
section
variable {p:Params} {σ σ' σ₁:Store} {τ:Rf} {t:TS} {d:Nat} {dr:Dr}
theorem len_list {r i:Nat} {vs:List V} (h:σ.get r i = some (.list vs)):builtinV .len [.ref r i] σ = some (.int vs.length,σ):=by
 refine bi_of ?_
 show ob (asList σ (.ref r i)) _ _ = _
 rw [asl_of h]
theorem seq_no {o:V} {vs:List V} (h:asSeq σ o = some vs):strO o = none ∧ dictO σ o = none:=obE h (fun ws q w0 => by cases Uf6 q; exact ⟨rfl,rfl⟩) fun w0 e => obE e (fun ws q w0 => by cases Ueo q; exact ⟨rfl,rfl⟩) fun w0 e => obS e fun z q w0 => by
 have w:=Ua3 q
 rw [w.1]
 exact ⟨rfl,ob_no (show dref σ (.ref z.1 z.2.1) = none from ob_of (Ue2 w.2))⟩
theorem Ukm {o:V} {vs:List V} {k:Int} {j:Nat} {v:V} (h:asSeq σ o = some vs) (hi:idx k vs.length = some j) (hk:vs[j]? = some v):itemV o (.int k) σ = some v :=
 (ob_no (seq_no h).1).trans ((ob_no (seq_no h).2).trans ((ob_of h).trans ((ob_of hi).trans hk)))
theorem Uft {o:V} {vs:List V} {k:Int} {v:V} (h:asSeq σ o = some vs) (hs:∀ s,o ≠ .str s) (h0:0 <= k) (hk:vs[k.toNat]? = some v):itemV o (.int k) σ = some v:=by
 exact Ukm h ((if_pos h0).trans (if_pos (List.getElem?_eq_some_iff.mp hk).1)) hk
theorem Ukb {r i:Nat} {vs:List V} (h:σ.get r i = some (.list vs)):asSeq σ (.ref r i) = some vs:=asl_of h
theorem Uod {r i:Nat} {es:List (Str × V)} (h:σ.get r i = some (.dict es)):dictO σ (.ref r i) = some es:=ob_of (f:=fun z:Nat × Nat × List (Str × V) => some z.2.2) (z:=none) (Ufp h)
theorem Urk {r i:Nat} {es:List (Str × V)} {x:Str} {v:V} (h:σ.get r i = some (.dict es)) (hx:lk x es = some v):itemV (.ref r i) (.str x) σ = some v:=(ob_of (Uod h)).trans hx
theorem Uog {r i:Nat} {es:List (Str × V)} {x:Str} (h:σ.get r i = some (.dict es)):inV σ (.str x) (.ref r i) = some (lk x es).isSome:=ob_of (f:=fun es => some (lk x es).isSome) (Uod h)
theorem in_tup {x:Str} {vs:List V} {l:List Str} (hl:strsOf vs = some l):inV σ (.str x) (.tup vs) = some (l.any (· == x)):=ob_of (f:=fun l:List Str => some (l.any (· == x))) (z:=none) hl
theorem ne_ref {r i:Nat}:∀ s,V.ref r i ≠ .str s:=fun s e => by cases e
noncomputable def TS.cur (t:TS):Str:=if t.pos < t.signs.length then t.signs.getD t.pos.toNat "" else ""
noncomputable def TS.nxt (t:TS):TS:={ t with pos:=t.pos + 1 }
noncomputable def TS.to (t:TS) (s:Str):TS:={ t with state:=s }
noncomputable def TS.again (t:TS) (s:Str):TS:={ t with pos:=t.pos - 1,state:=s }
noncomputable def errV (code:Str) (k:Int):V:=.tup [.str code,.int k]
noncomputable def TS.error (t:TS) (code:Str):TS:={ t with errs:=t.errs ++ [errV code (t.pos - 1)] }
noncomputable def chV (s:Str):V:=.tup [.str "char",.str s]
noncomputable def TS.put (t:TS) (v:V):TS:={ t with out:=t.out ++ [v] }
noncomputable def eofV:V:=.tup [.str "eof"]
theorem Upf (h:TR σ τ t) (h0:0 <= t.pos):Run (callK (P p) (d + 1) a_Tokenizer_next [.ref 2 τ.i]) σ fun v σ' => v = .str t.cur ∧ TR σ' τ t.nxt ∧ Fx σ σ':=by
 rw [Ue9]
 show RF _ σ _
 delta F_Tokenizer_next
 refine xEAAA (sa_at (p:=p) h (t.pos + 1)) fun σ1 e1 h1 f1 => ?_
 refine RF.b (ga_at h) (RF.l rfl (RF.b e1 (RF.b (Ubs h1) (RF.b (Ud4 h1) (RF.b (len_list h1.sg) (RF.l rfl ?_))))))
 rw [List.length_map]
 by_cases hl:t.pos < (t.signs.length:Int)
 · have hg:(t.signs.map V.str)[t.pos.toNat]? = some (.str t.cur):=by
     delta TS.cur
     rw [if_pos hl,List.getElem?_map,List.getD_eq_getElem?_getD]
     have:t.pos.toNat < t.signs.length:=by omega
     rw [List.getElem?_eq_getElem this]; rfl
   refine RF.pos (by simpa using hl) (RF.b (Ubs h1) (RF.b (Ud4 h1) (RF.l (Uft (Ukb h1.sg) ne_ref h0 hg) (RF.r ⟨rfl,h1,f1⟩))))
 · refine RF.neg (by simpa using hl) ?_
   rw [Ucb]
   exact RF.r ⟨by delta TS.cur; rw [if_neg hl],h1,f1⟩
theorem to_run (h:TR σ τ t) (s:Str):Run (callK (P p) (d + 1) a_Tokenizer_to [.ref 2 τ.i,.str s]) σ fun v σ' => v = .none ∧ TR σ' τ (t.to s) ∧ Fx σ σ':=by
 rw [Ugk]
 show RF _ σ _
 delta F_Tokenizer_to
 refine xEAAA (Ukc (p:=p) h s) fun σ1 e1 h1 f1 => ?_
 exact RF.b e1 (RF.n ⟨rfl,h1,f1⟩)
theorem Um9 (h:TR σ τ t) (s:Str):Run (callK (P p) (d + 1) a_Tokenizer_again [.ref 2 τ.i,.str s]) σ fun v σ' => v = .none ∧ TR σ' τ (t.again s) ∧ Fx σ σ':=by
 rw [Uef]
 show RF _ σ _
 delta F_Tokenizer_again
 refine xEAAA (sa_at (p:=p) h (t.pos - 1)) fun σ1 e1 h1 f1 => ?_
 refine xEAAA (Ukc (p:=p) h1 s) fun σ2 e2 h2 f2 => ?_
 exact RF.b (ga_at h) (RF.l rfl (RF.b e1 (RF.b e2 (RF.n ⟨rfl,h2,f1.trans f2⟩))))
theorem TR.setErr {l:List V} (h:TR σ τ t):TR (σ.put 10 τ.e (.list l)) τ { t with errs:=l } ∧ Fx σ (σ.put 10 τ.e (.list l)) :=
 ⟨⟨Uav.trans h.len,(Uac h.err (by decide)).trans h.tok,(Uac h.err (by decide)).trans h.str,(Uac h.err (by decide)).trans h.sg,(Uac h.err (by decide)).trans h.se,(Uac h.err (by decide)).trans h.out,Uam h.err,
   (Uac h.err (by decide)).trans h.sd,fun d e => (h.dr d e).put h.err ⟨by decide,by decide,by decide⟩⟩,Fx.put rfl⟩
theorem TR.setOut {l:List V} (h:TR σ τ t):TR (σ.put 9 τ.o (.list l)) τ { t with out:=l } ∧ Fx σ (σ.put 9 τ.o (.list l)) :=
 ⟨⟨Uav.trans h.len,(Uac h.out (by decide)).trans h.tok,(Uac h.out (by decide)).trans h.str,(Uac h.out (by decide)).trans h.sg,(Uac h.out (by decide)).trans h.se,Uam h.out,(Uac h.out (by decide)).trans h.err,
   (Uac h.out (by decide)).trans h.sd,fun d e => (h.dr d e).put h.out ⟨by decide,by decide,by decide⟩⟩,Fx.put rfl⟩
theorem Uf9 (h:TR σ τ t) (s:Str) (hl:t.errs.length < lim):Run (callK (P p) (d + 1) a_Tokenizer_error [.ref 2 τ.i,.str s]) σ fun v σ' => v = .none ∧ TR σ' τ (t.error s) ∧ Fx σ σ':=by
 rw [Uem]
 show RF _ σ _
 delta F_Tokenizer_error
 refine xAA (h.setErr (l:=t.errs ++ [errV s (t.pos - 1)])) fun h1 f1 => ?_
 exact RF.b (Uin h) (RF.ml h.err (by kernel_rfl) (by decide) (RF.b (ga_at h) (RF.l rfl (RF.b (Uai h.err hl) (RF.n ⟨rfl,h1,f1⟩)))))
theorem Ug2 (h:TR σ τ t) (s:Str) (hl:t.out.length < lim):Run (callK (P p) (d + 1) a_Tokenizer_emit_sign [.ref 2 τ.i,.str s]) σ fun v σ' => v = .none ∧ TR σ' τ (t.put (chV s)) ∧ Fx σ σ':=by
 rw [Ucj]
 show RF _ σ _
 delta F_Tokenizer_emit_sign
 refine xAA (h.setOut (l:=t.out ++ [chV s])) fun h1 f1 => ?_
 exact RF.b (ga_out h) (RF.ml h.out (by kernel_rfl) (by decide) (RF.b (Uai h.out hl) (RF.n ⟨rfl,h1,f1⟩)))
theorem Uie (h:TR σ τ t) (hl:t.out.length < lim):Run (callK (P p) (d + 1) a_Tokenizer_emit_eof [.ref 2 τ.i]) σ fun v σ' => v = .none ∧ TR σ' τ { t.put eofV with done:=true } ∧ Fx σ σ':=by
 rw [Ucy]
 show RF _ σ _
 delta F_Tokenizer_emit_eof
 refine xAA (h.setOut (l:=t.out ++ [eofV])) fun h1 f1 => ?_
 refine xEAAA (Uln (p:=p) h1 true) fun σ2 e2 h2 f2 => ?_
 exact RF.b (ga_out h) (RF.ml h.out (by kernel_rfl) (by decide) (RF.b (Uai h.out hl) (RF.b e2 (RF.n ⟨rfl,h2,f1.trans f2⟩))))
noncomputable def TS.emit (t:TS) (kind:Str) (name:V) (l:Str) (v:V):TS:={ t with last:=if kind == "start" then l else t.last,out:=t.out ++ [v] }
theorem Uox (h:TR σ τ t) (kind name:Str) (r:List V) (hl:t.out.length < lim):Run (callK (P p) (d + 1) a_Tokenizer_emit [.ref 2 τ.i,.tup (.str kind :: .str name :: r)]) σ fun v σ' =>
   v = .none ∧ TR σ' τ { t with last:=if kind == "start" then name else t.last,out:=t.out ++ [.tup (.str kind :: .str name :: r)] } ∧ Fx σ σ':=by
 rw [Ue3]
 show RF _ σ _
 delta F_Tokenizer_emit
 have i0:∀ s,itemV (.tup (.str kind :: .str name :: r)) (.int 0) s = some (.str kind):=fun s => Uft (vs:=.str kind :: .str name :: r) rfl (fun w0 e => by cases e) (by decide) rfl
 have i1:∀ s,itemV (.tup (.str kind :: .str name :: r)) (.int 1) s = some (.str name):=fun s => Uft (vs:=.str kind :: .str name :: r) rfl (fun w0 e => by cases e) (by decide) rfl
 refine RF.l (i0 σ) (RF.l rfl ?_)
 by_cases hk:(kind == (Y "start")) = true
 · refine xEAAA (Urj (p:=p) h name) fun σ1 e1 h1 f1 => ?_
   refine xAA (h1.setOut (l:=t.out ++ [.tup (.str kind :: .str name :: r)])) fun h2 f2 => ?_
   refine RF.pos hk (RF.l (i1 σ) (RF.b e1 ?_))
   rw [Uay]
   delta J_Tokenizer_emit_0_T0
   simp only [hk,if_true]
   exact RF.b (ga_out h1) (RF.ml h1.out (by kernel_rfl) (by decide) (RF.b (Uai h1.out hl) (RF.n ⟨rfl,h2,f1.trans f2⟩)))
 · refine xAA (h.setOut (l:=t.out ++ [.tup (.str kind :: .str name :: r)])) fun h2 f2 => ?_
   refine RF.neg hk ?_
   rw [Uay]
   delta J_Tokenizer_emit_0_T0
   rw [if_neg hk]
   exact RF.b (ga_out h) (RF.ml h.out (by kernel_rfl) (by decide) (RF.b (Uai h.out hl) (RF.n ⟨rfl,h2,f2⟩)))
theorem Uh1 {s:Str} {k c:Nat} (h:s.cps[k]? = some c):drawV (.str s) k σ = some (some (.str ⟨#[c]⟩)):=by
 have hk:=Array.getElem?_eq_some_iff.mp h
 have:s.cps.getD k 0 = c:=by simp [Array.getD,hk.1,hk.2]
 exact congrArg some ((if_pos hk.1).trans (by rw [this]))
theorem Ume {s:Str} {k:Nat} (h:s.cps.size <= k):drawV (.str s) k σ = some none:=congrArg some (if_neg (Nat.not_lt.mpr h))
theorem Ufc {sc:Scope} {x:Str} {v:V} {fr:Fr} (h:setOk sc x = true):setL sc x v fr = ret (setK x v fr):=if_pos h
noncomputable abbrev nextF (o:V) (s:V -> Fr -> M Fr) (b:Fr -> M Fl) (n k:Nat):Fl -> M Fl:=goOn fun fr' => loopF o s b n (k + 1) fr'
theorem Ugu {o v:V} {s:V -> Fr -> M Fr} {b:Fr -> M Fl} {n k:Nat} {fr fr₁:Fr} (hd:drawV o k σ = some (some v)) (hs:s v fr = ret fr₁) :
   loopF o s b (n + 1) k fr σ = bnd (b fr₁) (nextF o s b n k) σ:=by
 refine (bnd_of (a:=some v) (σ₁:=σ) (by delta look; rw [hd])).trans ?_
 show bnd (s v fr) _ σ = _
 rw [hs]; rfl
theorem Ul3 {o:V} {s:V -> Fr -> M Fr} {b:Fr -> M Fl} {n k:Nat} {fr:Fr} (hd:drawV o k σ = some none):loopF o s b (n + 1) k fr σ = some (.next fr,σ) :=
 bnd_of (a:=none) (σ₁:=σ) (by delta look; rw [hd])
end
end Mine
end
section
open PySem PySem.W
namespace Mine
section
variable {p:Params} {σ σ' σ₁:Store} {τ:Rf} {t:TS} {n d:Nat} {dr:Dr}
theorem forL {o:V} {s:V -> Fr -> M Fr} {b:Fr -> M Fl} (I:Nat -> Fr -> Store -> Prop) (R:V -> Store -> Prop) (items:List V)
   (step:∀ k v fr σ,items[k]? = some v -> I k fr σ -> drawV o k σ = some (some v) ∧ ∃ fr1,s v fr = ret fr1 ∧ Run (b fr1) σ fun fl σ' => (∃ fr',fl = .next fr' ∧ I (k + 1) fr' σ') ∨ ∃ v,fl = .ret v ∧ R v σ')
   (fin:∀ fr σ,I items.length fr σ -> drawV o items.length σ = some none):∀ (m k:Nat) (fr:Fr) (σ:Store) (n:Nat),items.length - k = m -> I k fr σ -> k <= items.length -> m < n ->
   Run (loopF o s b n k fr) σ fun fl σ' => (∃ fr',fl = .next fr' ∧ I items.length fr' σ') ∨ ∃ v,fl = .ret v ∧ R v σ'
 | m,k,fr,σ,0,hm,hI,hk,hn => absurd hn (Nat.not_lt_zero _)
 | 0,k,fr,σ,n + 1,hm,hI,hk,hn => by
   have:k = items.length:=by omega
   subst this
   exact ⟨_,σ,Ul3 (fin fr σ hI),.inl ⟨fr,rfl,hI⟩⟩
 | m + 1,k,fr,σ,n + 1,hm,hI,hk,hn => by
   have hk':k < items.length:=by omega
   refine xAEAEEAA (step k items[k] fr σ (List.getElem?_eq_getElem hk') hI) fun hd fr1 hs fl σ1 e q => ?_
   rcases q with ⟨fr',rfl,hI'⟩ | ⟨v,rfl,hR⟩
   · refine xEEAA (forL I R items step fin m (k + 1) fr' σ1 n (by omega) hI' (by omega) (by omega)) fun fl2 σ2 e2 q2 => ?_
     exact ⟨fl2,σ2,(Ugu hd hs).trans ((bnd_of e).trans e2),q2⟩
   · exact ⟨.ret v,σ1,(Ugu hd hs).trans (bnd_of e),.inr ⟨v,rfl,hR⟩⟩
theorem forRun {o:V} {s:V -> Fr -> M Fr} {b:Fr -> M Fl} {J:Fr -> M Fl} {fr:Fr} {Q:V -> Store -> Prop} (I:Nat -> Fr -> Store -> Prop) (items:List V) (h0:I 0 fr σ) (hl:items.length < 5000)
   (step:∀ k v fr σ,items[k]? = some v -> I k fr σ -> drawV o k σ = some (some v) ∧ ∃ fr1,s v fr = ret fr1 ∧ Run (b fr1) σ fun fl σ' => (∃ fr',fl = .next fr' ∧ I (k + 1) fr' σ') ∨ ∃ v,fl = .ret v ∧ Q v σ')
   (fin:∀ fr σ,I items.length fr σ -> drawV o items.length σ = some none) (g:∀ fr' σ',I items.length fr' σ' -> RF (J fr') σ' Q):RF (bnd (loopF o s b 5000 0 fr) (goOn J)) σ Q:=by
 refine xEEAA (forL I Q items step fin (items.length - 0) 0 fr σ 5000 rfl h0 (Nat.zero_le _) (by omega)) fun fl σ1 e q => ?_
 refine RF.b e ?_
 rcases q with ⟨fr',rfl,hI⟩ | ⟨v,rfl,hR⟩
 · exact g fr' σ1 hI
 · exact RF.r hR
theorem Run.next {fr:Fr} {Q:Fl -> Store -> Prop} (h:Q (.next fr) σ):Run (ret (Fl.next fr)) σ Q:=⟨_,σ,rfl,h⟩
theorem Run.l {α β:Type} {f:Store -> Option α} {k:α -> M β} {a:α} {Q:β -> Store -> Prop} (h:f σ = some a) (g:Run (k a) σ Q):Run (bnd (look f) k) σ Q:=Run.b (by delta look; rw [h]) g
theorem Run.pos {α:Type} {c:Prop} [Decidable c] {a b:M α} {Q:α -> Store -> Prop} (h:c) (g:Run a σ Q):Run (if c then a else b) σ Q:=by rw [if_pos h]; exact g
theorem Run.neg {α:Type} {c:Prop} [Decidable c] {a b:M α} {Q:α -> Store -> Prop} (h:¬ c) (g:Run b σ Q):Run (if c then a else b) σ Q:=by rw [if_neg h]; exact g
theorem Run.ml {α:Type} {r i:Nat} {vs:List V} {x:Str} {id:Mi} {k:MK -> M α} {Q:α -> Store -> Prop} (h:σ.get r i = some (.list vs)) (hx:listM x = some id) (hr:isRepl (.bi id) = false)
   (g:Run (k (.bi id)) σ Q):Run (bnd (look (methK (P p) (.ref r i) x)) fun m => if isRepl m then fail else k m) σ Q :=
 Run.l ((Ui2 h).trans (by rw [hx]; rfl)) (Run.neg (by rw [hr]; decide) g)
theorem Run.app {α:Type} {r i:Nat} {vs:List V} {k:MK -> M α} {Q:α -> Store -> Prop} (h:σ.get r i = some (.list vs)) (g:Run (k (.bi .append)) σ Q) :
   Run (bnd (look (methK (P p) (.ref r i) (Y "append"))) fun m => if isRepl m then fail else k m) σ Q:=Run.ml h (by kernel_rfl) (by decide) g
theorem RF.app {r i:Nat} {vs:List V} {k:MK -> M Fl} {Q:V -> Store -> Prop} (h:σ.get r i = some (.list vs)) (g:RF (k (.bi .append)) σ Q) :
   RF (bnd (look (methK (P p) (.ref r i) (Y "append"))) fun m => if isRepl m then fail else k m) σ Q:=RF.ml h (by kernel_rfl) (by decide) g
theorem Run.m {α:Type} {o:V} {x:Str} {f:Addr} {k:MK -> M α} {Q:α -> Store -> Prop} (h:methK (P p) o x σ = some (.fn f)) (g:Run (k (.fn f)) σ Q):Run (bnd (look (methK (P p) o x)) fun m => if isRepl m then fail else k m) σ Q :=
 Run.l h (Run.neg (by delta isRepl; exact Bool.false_ne_true) g)
theorem RF.mk {o:V} {x:Str} {f:Addr} {k:MK -> M Fl} {Q:V -> Store -> Prop} (h:methK (P p) o x σ = some (.fn f)) (g:RF (k (.fn f)) σ Q):RF (bnd (look (methK (P p) o x)) fun m => if isRepl m then fail else k m) σ Q :=
 RF.l h (RF.neg (by delta isRepl; exact Bool.false_ne_true) g)
theorem Ugc {r i k:Nat} {vs:List V} (h:σ.get r i = some (.list vs)):drawV (.ref r i) k σ = some vs[k]?:=ob_of (f:=fun vs => some vs[k]?) (z:=none) (asl_of h)
theorem Ue5 {r i:Nat} {o o':Ob} {r' i':Nat} {x:Ob} (h:σ.get r i = some o') (hx:σ.get r' i' = some x) (hn:r' ≠ r ∨ i' ≠ i):(σ.put r i o).get r' i' = some x:=by
 rw [Store.get_put h,if_neg (fun e => hn.elim (fun q => q e.1) (fun q => q e.2))]; exact hx
noncomputable def Dx (σ σ':Store):Prop:=σ'.length = σ.length ∧ ∀ r,r ≠ 0 -> r ≠ 4 -> r ≠ 5 -> r ≠ 6 -> σ'[r]? = σ[r]?
theorem Dx.rfl:Dx σ σ:=⟨Eq.refl _,fun w0 w0 w0 w0 w0 => Eq.refl _⟩
theorem Dx.trans {a b c:Store} (x:Dx a b) (y:Dx b c):Dx a c:=⟨y.1.trans x.1,fun r h1 h2 h3 h4 => (y.2 r h1 h2 h3 h4).trans (x.2 r h1 h2 h3 h4)⟩
theorem Dx.put {r i:Nat} {o:Ob} (h:r = 0 ∨ r = 4 ∨ r = 5 ∨ r = 6):Dx σ (σ.put r i o):=⟨Uav,fun r' h1 h2 h3 h4 => Uce (by rcases h with rfl | rfl | rfl | rfl <;> assumption)⟩
theorem Dx.add {r:Nat} {o:Ob} (h:r = 0 ∨ r = 4 ∨ r = 5 ∨ r = 6):Dx σ (σ.add r o):=⟨Ubi,fun r' h1 h2 h3 h4 => Ucp (by rcases h with rfl | rfl | rfl | rfl <;> assumption)⟩
theorem Dx.fx (x:Dx σ σ'):Fx σ σ':=fun r h => x.2 r (by rintro rfl; cases h) (by rintro rfl; cases h) (by rintro rfl; cases h) (by rintro rfl; cases h)
theorem Dx.get (x:Dx σ σ') {r i:Nat} (h1:r ≠ 0) (h2:r ≠ 4) (h3:r ≠ 5) (h4:r ≠ 6):σ'.get r i = σ.get r i:=by delta Store.get; rw [x.2 r h1 h2 h3 h4]
theorem TR.dx {t':TS} (h:TR σ τ t) (x:Dx σ σ') (e:{ t' with draft:=t.draft } = t) (ed:drV t'.draft = drV t.draft) (hd:∀ d,t'.draft = some d -> DR σ' d):TR σ' τ t':=by
 obtain ⟨pos,state,back,last,out,errs,draft,waiting,done,signs,closed,isret,serr⟩:=t'
 obtain ⟨pos',state',back',last',out',errs',draft',waiting',done',signs',closed',isret',serr'⟩:=t
 cases e
 have et:tokEs τ ⟨pos,state,back,last,out,errs,draft,waiting,done,signs,closed,isret,serr⟩ = tokEs τ ⟨pos,state,back,last,out,errs,draft',waiting,done,signs,closed,isret,serr⟩:=by
   have ed:drV draft = drV draft':=ed
   simp only [tokEs,ed]
 exact ⟨x.1.trans h.len,by rw [x.get (by decide) (by decide) (by decide) (by decide),et]; exact h.tok,(x.get (by decide) (by decide) (by decide) (by decide)).trans h.str,(x.get (by decide) (by decide) (by decide) (by decide)).trans h.sg,
   (x.get (by decide) (by decide) (by decide) (by decide)).trans h.se,(x.get (by decide) (by decide) (by decide) (by decide)).trans h.out,(x.get (by decide) (by decide) (by decide) (by decide)).trans h.err,(x.get (by decide) (by decide) (by decide) (by decide)).trans h.sd,hd⟩
noncomputable def keptV (as:List At):List V:=(as.filter (·.k)).map fun a => .tup [.str a.n,.str a.v]
noncomputable def Dr.tok (d:Dr):V:=if d.kind == "comment" then .tup [.str "comment",.str ""] else .tup [.str d.kind,.str d.name,.tup (keptV d.attrs),.bool d.closing]
theorem DR.add6 (h:DR σ dr) {o:Ob} {l:List Ob} (e:σ[6]? = some l):DR (σ.add 6 o) dr:=⟨Ubq e h.obj,Ubq e h.al,fun a m => Ubq e (h.each a m),h.nd⟩
theorem DR.put6 (h:DR σ dr) {i:Nat} {o o':Ob} (e:σ.get 6 i = some o'):DR (σ.put 6 i o) dr:=h.put e ⟨by decide,by decide,by decide⟩
theorem Uph {r i:Nat} {vs:List V} (h:σ.get r i = some (.list vs)):builtinV .tuple [.ref r i] σ = some (.tup vs,σ):=by
 refine bi_of ?_
 show ob (asList σ (.ref r i)) _ _ = _
 rw [asl_of h]
theorem itemL {r i:Nat} {vs:List V} {k:Nat} {v:V} (h:σ.get r i = some (.list vs)) (hk:vs[k]? = some v):itemV (.ref r i) (.int k) σ = some v:=Uft (Ukb h) ne_ref (Int.natCast_nonneg _) (by simpa using hk)
theorem Ujb (h:DR σ dr) (hlen:σ.length = 24) (hk:(dr.kind == (Y "doctype")) = false) (hl:dr.attrs.length < 5000):Run (callK (P p) (d + 1) a_Draft_token [.ref 0 dr.i]) σ fun v σ' => v = dr.tok ∧ DR σ' dr ∧ Dx σ σ':=by
 rw [Ug5]
 show RF _ σ _
 delta F_Draft_token
 refine RF.b (Ui6 h) (RF.l rfl ?_)
 by_cases hc:(dr.kind == (Y "comment")) = true
 · exact RF.pos hc (RF.b (Urm h) (RF.r ⟨by delta Dr.tok; rw [if_pos hc],h,Dx.rfl⟩))
 refine RF.neg hc ?_
 rw [Udf]
 delta J_Draft_token_0_T0
 refine RF.b (Ui6 h) (RF.l rfl (RF.neg (by rw [hk]; decide) ?_))
 rw [Udd]
 delta J_Draft_token_1_T0
 refine xEA (reg_of hlen (by decide:6 < 24)) fun l hl6 => ?_
 have hn:newL 6 [] σ = some (.ref 6 l.length,σ.add 6 (.list [])):=by delta newL; rw [hl6]
 have h1:=h.add6 (o:=.list []) hl6
 refine RF.b hn (RF.b (Ubr h1) ?_)
 refine forRun (fun k fr s => DR s dr ∧ Dx σ s ∧ s.get 6 l.length = some (.list (keptV (dr.attrs.take k))) ∧ (fr = [(Y "self",.ref 0 dr.i),(Y "kept",.ref 6 l.length)] ∨ ∃ v,fr = [(Y "self",.ref 0 dr.i),(Y "kept",.ref 6 l.length),(Y "attr",v)]))
   (dr.attrs.map fun a => .ref 5 a.i) ⟨h1,Dx.add (by simp),by rw [List.take_zero]; exact Ubd hl6,.inl rfl⟩ (by rw [List.length_map]; exact hl) (fun k v fr s hv hI => ?_) (fun fr s hI => ?_) fun fr s hI => ?_
 · refine xAAAA hI fun hD hX h6 hfr => ?_
   rw [List.getElem?_map] at hv
   refine xEAA (Option.map_eq_some_iff.mp hv) fun a ha qz1 => ?_; subst qz1
   have hm:a ∈ dr.attrs:=List.mem_of_getElem? ha
   have hk':k < dr.attrs.length:=by rw [List.getElem?_eq_some_iff] at ha; exact ha.1
   have ha':dr.attrs[k] = a:=by rw [List.getElem?_eq_some_iff] at ha; exact ha.2
   refine ⟨by rw [Ugc hD.al,List.getElem?_map,ha]; rfl,[(Y "self",.ref 0 dr.i),(Y "kept",.ref 6 l.length),(Y "attr",.ref 5 a.i)],?_,?_⟩
   · rw [Ufc (by kernel_rfl)]
     rcases hfr with rfl | ⟨v,rfl⟩ <;> kernel_rfl
   · rw [Uck]
     delta T_Draft_token_l0_0
     have e5:=hD.each a hm
     refine Run.l (itemL (k:=2) e5 rfl) ?_
     show Run (if a.k then _ else _) s _
     have tk:keptV (dr.attrs.take (k + 1)) = keptV (dr.attrs.take k) ++ (if a.k then [.tup [.str a.n,.str a.v]] else []):=by
       delta keptV
       rw [List.take_succ_eq_append_getElem hk',ha',List.filter_append,List.map_append]
       cases hak:a.k <;> simp [hak]
     by_cases hak:a.k = true
     · rw [if_pos hak] at tk
       refine Run.pos hak (Run.app h6 (Run.l (itemL (k:=0) e5 rfl) (Run.l (itemL (k:=1) e5 rfl) ?_)))
       have hll:(keptV (dr.attrs.take k)).length < lim:=by
         delta keptV
         rw [List.length_map]
         have h1:=List.length_filter_le (·.k) (dr.attrs.take k)
         have h2:=List.length_take_le k dr.attrs
         delta lim; omega
       refine Run.b (Uai h6 hll) (Run.next (.inl ⟨_,rfl,hD.put6 h6,hX.trans (Dx.put (by simp)),?_,.inr ⟨_,rfl⟩⟩))
       rw [tk]; exact Uam h6
     · rw [if_neg hak,List.append_nil] at tk
       exact Run.neg hak (Run.next (.inl ⟨_,rfl,hD,hX,by rw [tk]; exact h6,.inr ⟨_,rfl⟩⟩))
 · rw [Ugc hI.1.al,List.getElem?_eq_none (Nat.le_refl _)]
 · refine xAAAA hI fun hD hX h6 hfr => ?_
   rw [List.length_map,List.take_length] at h6
   have fin:RF (bnd (attrV (P p) (.ref 0 dr.i) (Y "kind")) fun x18 => bnd (attrV (P p) (.ref 0 dr.i) (Y "name")) fun x19 => bnd (builtinV .tuple [.ref 6 l.length]) fun x20 => bnd (attrV (P p) (.ref 0 dr.i) (Y "is_closing")) fun x21 => ret (.ret (.tup [x18,x19,x20,x21]))) s
       (fun v σ' => v = dr.tok ∧ DR σ' dr ∧ Dx σ σ') :=
     RF.b (Ui6 hD) (RF.b (Un0 hD) (RF.b (Uph h6) (RF.b (Uea hD) (RF.r ⟨by delta Dr.tok; rw [if_neg hc],hD,hX⟩))))
   rcases hfr with rfl | ⟨v,rfl⟩
   · rw [Udj]; exact fin
   · rw [Udq]; exact fin
end
end Mine
end
section
open PySem PySem.W
namespace Mine
section
variable {p:Params} {σ σ' σ₁:Store} {τ:Rf} {t:TS} {n d:Nat} {dr:Dr} {init:List At} {a a':At}
theorem Uqk (n:Nat):idx (-1) (n + 1) = some n:=by
 refine (if_neg (by decide)).trans ((if_pos (by omega)).trans (congrArg some ?_))
 omega
theorem Ujf {r i:Nat} {vs:List V} {v:V} (h:σ.get r i = some (.list (vs ++ [v]))):itemV (.ref r i) (.int (-1)) σ = some v :=
 Ukm (Ukb h) (by rw [List.length_append]; exact Uqk _) List.getElem?_concat_length
theorem Uew {r i m:Nat} {vs:List V} {v:V} (h:σ.get r i = some (.list vs)) (hm:m < vs.length):setItemV (.ref r i) (.int m) v σ = some ((),σ.put r i (.list (vs.set m v))) :=
 (ob_of (Ufv h)).trans (ob_of (f:=fun m => some ((),σ.put r i (.list (vs.set m v)))) (z:=none) ((if_pos (Int.natCast_nonneg _)).trans (if_pos hm)))
theorem DR.last (h:DR σ dr) (e:dr.attrs = init ++ [a]) (hi:a'.i = a.i):DR (σ.put 5 a.i (.list [.str a'.n,.str a'.v,.bool a'.k])) { dr with attrs:=init ++ [a'] }:=by
 have hm:a ∈ dr.attrs:=by rw [e]; simp
 have h5:=h.each a hm
 have hnd:=h.nd
 rw [e,List.map_append,List.nodup_append] at hnd
 have emap:(init ++ [a']).map (fun a => V.ref 5 a.i) = dr.attrs.map (fun a => V.ref 5 a.i):=by rw [e]; simp [hi]
 have emap2:(init ++ [a']).map (·.i) = dr.attrs.map (·.i):=by rw [e]; simp [hi]
 refine ⟨Ue5 h5 h.obj (.inl (by decide)),?_,fun b hb => ?_,by show ((init ++ [a']).map (·.i)).Nodup; rw [emap2]; exact h.nd⟩
 · show _ = some (Ob.list ((init ++ [a']).map fun a => V.ref 5 a.i))
   rw [emap]; exact Ue5 h5 h.al (.inl (by decide))
 · rcases List.mem_append.mp hb with hb | hb
   · have hne:b.i ≠ a.i:=fun q => hnd.2.2 b.i (List.mem_map.mpr ⟨b,hb,rfl⟩) a.i (by simp) q
     exact Ue5 h5 (h.each b (by rw [e]; exact List.mem_append_left _ hb)) (.inr hne)
   · rw [List.mem_singleton] at hb
     subst hb
     rw [hi]; exact Uam h5
theorem Ukl (h:DR σ dr) (e:dr.attrs = init ++ [a]):itemV (.ref 4 dr.al) (.int (-1)) σ = some (.ref 5 a.i) ∧ σ.get 5 a.i = some (.list [.str a.n,.str a.v,.bool a.k]):=by
 have hm:a ∈ dr.attrs:=by rw [e]; simp
 refine ⟨Ujf (vs:=init.map fun a => .ref 5 a.i) (by rw [h.al,e]; simp),h.each a hm⟩
theorem add_str {x y:Str} (h:x.length + y.length <= lim):binV .Add (.str x) (.str y) σ = some (.str (x ++ y)):=by
 show (if x.length + y.length <= lim then some (V.str (x ++ y)) else none) = _
 exact if_pos h
theorem Ufb (h:DR σ dr) (e:dr.attrs = init ++ [a]) (s:Str) (hl:a.n.length + s.length <= lim):Run (callK (P p) (d + 1) a_Draft_add_name [.ref 0 dr.i,.str s]) σ fun v σ' =>
   v = .none ∧ DR σ' { dr with attrs:=init ++ [{ a with n:=a.n ++ s }] } ∧ Dx σ σ':=by
 rw [Ufd]
 show RF _ σ _
 delta F_Draft_add_name
 refine xAA (Ukl h e) fun i1 i2 => ?_
 exact RF.b (Ubr h) (RF.l i1 (RF.l (itemL (k:=0) i2 rfl) (RF.l (add_str hl) (RF.b (Uew (m:=0) i2 (by simp)) (RF.n ⟨rfl,h.last (a':={ a with n:=a.n ++ s }) e rfl,Dx.put (by simp)⟩)))))
theorem Ugs (h:DR σ dr) (e:dr.attrs = init ++ [a]) (s:Str) (hl:a.v.length + s.length <= lim):Run (callK (P p) (d + 1) a_Draft_add_value [.ref 0 dr.i,.str s]) σ fun v σ' =>
   v = .none ∧ DR σ' { dr with attrs:=init ++ [{ a with v:=a.v ++ s }] } ∧ Dx σ σ':=by
 rw [Uee]
 show RF _ σ _
 delta F_Draft_add_value
 refine xAA (Ukl h e) fun i1 i2 => ?_
 exact RF.b (Ubr h) (RF.l i1 (RF.l (itemL (k:=1) i2 rfl) (RF.l (add_str hl) (RF.b (Uew (m:=1) i2 (by simp)) (RF.n ⟨rfl,h.last (a':={ a with v:=a.v ++ s }) e rfl,Dx.put (by simp)⟩)))))
theorem Uf5 (h:DR σ dr) (hlen:σ.length = 24) (hl:dr.attrs.length < lim):Run (callK (P p) (d + 1) a_Draft_begin_attr [.ref 0 dr.i]) σ fun v σ' =>
   v = .none ∧ (∃ i,DR σ' { dr with attrs:=dr.attrs ++ [⟨i,"","",true⟩] }) ∧ Dx σ σ':=by
 rw [Ud1]
 show RF _ σ _
 delta F_Draft_begin_attr
 refine xEA (reg_of hlen (by decide:5 < 24)) fun l h5 => ?_
 have hn:newL 5 [.str "",.str "",.bool true] σ = some (.ref 5 l.length,σ.add 5 (.list [.str "",.str "",.bool true])):=by delta newL; rw [h5]
 have al1:=Ubq (o:=.list [.str "",.str "",.bool true]) h5 h.al
 have new1:=Ubd (o:=.list [.str "",.str "",.bool true]) h5
 refine RF.b (Ubr h) (RF.app h.al (RF.b hn (RF.b (Uai al1 (by rw [List.length_map]; exact hl)) (RF.n ⟨rfl,⟨l.length,?_⟩,(Dx.add (by simp)).trans (Dx.put (by simp))⟩))))
 refine ⟨Ue5 al1 (Ubq h5 h.obj) (.inl (by decide)),?_,fun b hb => ?_,?_⟩
 · show _ = some (Ob.list ((dr.attrs ++ [(⟨l.length,"","",true⟩:At)]).map fun a => V.ref 5 a.i))
   rw [List.map_append]; exact Uam al1
 · rcases List.mem_append.mp hb with hb | hb
   · exact Ue5 al1 (Ubq h5 (h.each b hb)) (.inl (by decide))
   · rw [List.mem_singleton] at hb; subst hb
     exact Ue5 al1 new1 (.inl (by decide))
 · show ((dr.attrs ++ [(⟨l.length,"","",true⟩:At)]).map (·.i)).Nodup
   rw [List.map_append,List.nodup_append]
   refine ⟨h.nd,by simp,fun x hx y hy => ?_⟩
   simp only [List.map_cons,List.map_nil,List.mem_singleton] at hy
   subst hy
   refine xEAA (List.mem_map.mp hx) fun b hb qz1 => ?_; subst qz1
   intro q
   have:=h.each b hb
   rw [q,Store.get_end h5] at this; cases this
noncomputable def told (init:List At) (a:At):Bool:=init.any fun b => b.k && b.n == a.n
theorem Uo2 {b:Int} (h:b.natAbs <= lim):builtinV .range [.int b] σ = some (.rng 0 b 1,σ):=by
 exact bi_of (if_pos h)
theorem Ulh {n k:Nat}:drawV (.rng 0 (n:Int) 1) k σ = some (if k < n then some (.int (k:Int)) else none):=by
 show (if (0:Int) < 1 then some (if (0:Int) + (k:Int) * 1 < n then some (V.int (0 + (k:Int) * 1)) else none) else none) = _
 rw [if_pos (by decide)]
 have e:(0:Int) + (k:Int) * 1 = k:=by omega
 rw [e]
 by_cases h:k < n
 · rw [if_pos h,if_pos (by omega)]
 · rw [if_neg h,if_neg (by omega)]
theorem Ugi (h:DR σ dr) (e:dr.attrs = init ++ [a]) (hl:init.length < 5000):Run (callK (P p) (d + 1) a_Draft_check_attr [.ref 0 dr.i]) σ fun v σ' =>
   v = .bool (!told init a) ∧ DR σ' { dr with attrs:=init ++ [{ a with k:=if told init a then false else a.k }] } ∧ Dx σ σ':=by
 rw [Ud3]
 show RF _ σ _
 delta F_Draft_check_attr
 refine xAA (Ukl h e) fun i1 i2 => ?_
 have hlen:(dr.attrs.map fun a => V.ref 5 a.i).length = init.length + 1:=by rw [List.length_map,e,List.length_append]; rfl
 refine RF.b (Ubr h) (RF.l i1 (RF.b (Ubr h) (RF.b (len_list h.al) (RF.l rfl ?_))))
 have e1:((dr.attrs.map fun a => V.ref 5 a.i).length:Int) - 1 = (init.length:Int):=by rw [hlen]; omega
 rw [e1]
 refine RF.b (Uo2 (by delta lim; omega)) ?_
 refine forRun (fun k fr s => s = σ ∧ (init.take k).any (fun b => b.k && b.n == a.n) = false ∧ (fr = [(Y "self",.ref 0 dr.i),(Y "last",.ref 5 a.i)] ∨ ∃ v,fr = [(Y "self",.ref 0 dr.i),(Y "last",.ref 5 a.i),(Y "i",v)]))
   ((List.range init.length).map fun (k:Nat) => .int (k:Int)) ⟨rfl,rfl,.inl rfl⟩ (by simpa using hl) (fun k v fr s hv hI => ?_) (fun fr s hI => ?_) fun fr s hI => ?_
 · refine xAAA hI fun qz1 hno hfr => ?_; subst qz1
   have hk:k < init.length:=by
     have:=(List.getElem?_eq_some_iff.mp hv).1
     simpa using this
   rw [List.getElem?_map,List.getElem?_range hk] at hv
   cases hv
   have fr1:setL (sc_Draft_check_attr p) (Y "i") (.int (k:Int)) fr = ret [(Y "self",.ref 0 dr.i),(Y "last",.ref 5 a.i),(Y "i",.int (k:Int))]:=by
     rw [Ufc (by kernel_rfl)]
     rcases hfr with rfl | ⟨v,rfl⟩ <;> kernel_rfl
   refine ⟨by rw [Ulh,if_pos hk],_,fr1,?_⟩
   rw [Ubk]
   delta T_Draft_check_attr_l0_0
   have hb:init[k] ∈ dr.attrs:=by rw [e]; exact List.mem_append_left _ (List.getElem_mem hk)
   have ek:(dr.attrs.map fun a => V.ref 5 a.i)[k]? = some (.ref 5 init[k].i):=by
     rw [List.getElem?_map,e,List.getElem?_append_left hk,List.getElem?_eq_getElem hk]; rfl
   have e5:=h.each _ hb
   have tk:(init.take (k + 1)).any (fun b => b.k && b.n == a.n) = (init[k].k && init[k].n == a.n):=by
     rw [List.take_succ_eq_append_getElem hk,List.any_append,hno]; simp
   have no:∀ {x:Bool},(init[k].k && init[k].n == a.n) = x -> (init.take (k + 1)).any (fun b => b.k && b.n == a.n) = x:=fun q => tk.trans q
   refine Run.b (Ubr h) (Run.l (itemL h.al ek) (Run.l (itemL (k:=2) e5 rfl) ?_))
   show Run (cond init[k].k _ _) s _
   cases hkk:init[k].k with
   | false => exact Run.next (.inl ⟨_,rfl,rfl,no (by rw [hkk]; rfl),.inr ⟨_,rfl⟩⟩)
   | true =>
     show Run (bnd (attrV (P p) (.ref 0 dr.i) (Y "attrs")) _) s _
     refine Run.b (Ubr h) (Run.l (itemL h.al ek) (Run.l (itemL (k:=0) e5 rfl) (Run.l (itemL (k:=0) i2 rfl) (Run.l rfl ?_))))
     show Run (cond (init[k].n == a.n) _ _) s _
     cases hn:init[k].n == a.n with
     | false => exact Run.next (.inl ⟨_,rfl,rfl,no (by rw [hkk,hn]; rfl),.inr ⟨_,rfl⟩⟩)
     | true =>
       have ht:told init a = true:=by
         delta told
         rw [List.any_eq_true]
         exact ⟨init[k],List.getElem_mem hk,by rw [hkk,hn]; rfl⟩
       refine Run.b (Uew (m:=2) i2 (by simp)) ⟨_,_,rfl,.inr ⟨_,rfl,by rw [ht]; rfl,?_,Dx.put (by simp)⟩⟩
       have:=h.last (a':={ a with k:=false }) e rfl
       rw [ht]
       exact this
 · rw [Ulh]; simp
 · refine xAAA hI fun qz1 hno hfr => ?_; subst qz1
   rw [List.length_map,List.length_range,List.take_length] at hno
   have ht:told init a = false:=hno
   have hs:({ dr with attrs:=init ++ [{ a with k:=if told init a then false else a.k }] }:Dr) = dr:=by
     rw [ht]; simp only [Bool.false_eq_true,if_false]; rw [<- e]
   rcases hfr with rfl | ⟨v,rfl⟩
   · rw [Ubt]; exact RF.r ⟨by rw [ht]; rfl,by rw [hs]; exact h,Dx.rfl⟩
   · rw [Ub1]; exact RF.r ⟨by rw [ht]; rfl,by rw [hs]; exact h,Dx.rfl⟩
end
end Mine
end
section
open PySem PySem.W
namespace Mine
structure PA where
 n:Str
 v:Str
 k:Bool
structure PD where
 kind:Str
 name:Str
 closing:Bool
 attrs:List PA
structure PS where
 pos:Int
 state:Str
 back:Str
 last:Str
 out:List V
 errs:List V
 draft:Option PD
 done:Bool
 signs:List Str
 closed:Bool
 isret:Bool
 serr:List V
noncomputable def At.pl (a:At):PA:=⟨a.n,a.v,a.k⟩
noncomputable def Dr.pl (d:Dr):PD:=⟨d.kind,d.name,d.closing,d.attrs.map At.pl⟩
noncomputable def TS.pl (t:TS):PS:=⟨t.pos,t.state,t.back,t.last,t.out,t.errs,t.draft.map Dr.pl,t.done,t.signs,t.closed,t.isret,t.serr⟩
noncomputable def TP (σ:Store) (τ:Rf) (s:PS):Prop:=∃ t,TR σ τ t ∧ t.waiting = false ∧ t.pl = s
noncomputable def PS.cur (s:PS):Str:=if s.pos < s.signs.length then s.signs.getD s.pos.toNat "" else ""
noncomputable def PS.nxt (s:PS):PS:={ s with pos:=s.pos + 1 }
noncomputable def PS.to (s:PS) (x:Str):PS:={ s with state:=x }
noncomputable def PS.again (s:PS) (x:Str):PS:={ s with pos:=s.pos - 1,state:=x }
noncomputable def PS.error (s:PS) (x:Str):PS:={ s with errs:=s.errs ++ [errV x (s.pos - 1)] }
noncomputable def PS.put (s:PS) (v:V):PS:={ s with out:=s.out ++ [v] }
noncomputable def PS.eof (s:PS):PS:={ s.put eofV with done:=true }
noncomputable def kept (as:List PA):List V:=(as.filter (·.k)).map fun a => .tup [.str a.n,.str a.v]
noncomputable def PD.tok (d:PD):V:=if d.kind == "comment" then .tup [.str "comment",.str ""] else .tup [.str d.kind,.str d.name,.tup (kept d.attrs),.bool d.closing]
noncomputable def PS.emitDraft (s:PS):PS:=match s.draft with
 | none => s
 | some d =>
   let e1:=if d.kind == "end" && 0 < d.attrs.length then s.errs ++ [errV "end-tag-with-attributes" (s.pos - 1)] else s.errs
   let e2:=if d.kind == "end" && d.closing then e1 ++ [errV "end-tag-with-trailing-solidus" (s.pos - 1)] else e1
   { s with errs:=e2,draft:=none,last:=if d.kind == "start" then d.name else s.last,out:=s.out ++ [d.tok] }
noncomputable def PS.setDraft (s:PS) (d:PD):PS:={ s with draft:=some d }
section
variable {p:Params} {σ σ' σ₁:Store} {τ:Rf} {s:PS} {n d:Nat} {D:PD} {init:List PA} {a:PA} {Q:V -> Store -> Prop} {k:V -> M Fl}
theorem Uqu (as:List At):kept (as.map At.pl) = keptV as:=by
 delta kept keptV
 rw [List.filter_map,List.map_map]; rfl
theorem tok_eq (d:Dr):d.pl.tok = d.tok:=by
 delta PD.tok Dr.tok
 show (if d.kind == "comment" then _ else V.tup [.str d.kind,.str d.name,.tup (kept (d.attrs.map At.pl)),.bool d.closing]) = _
 rw [Uqu]
theorem Udh {as:List At} {init:List PA} {a:PA} (h:as.map At.pl = init ++ [a]):∃ i' a',as = i' ++ [a'] ∧ i'.map At.pl = init ∧ a'.pl = a:=by
 obtain ⟨x,y,rfl,hx,hy⟩:=List.map_eq_append_iff.mp h
 obtain ⟨z,rfl,hz⟩:=List.map_eq_singleton_iff.mp hy
 exact ⟨x,z,rfl,hx,hz⟩
theorem RF.next (h:TP σ τ s) (h0:0 <= s.pos) (g:∀ σ',TP σ' τ s.nxt -> Fx σ σ' -> RF (k (.str s.cur)) σ' Q) :
   RF (bnd (look (methK (P p) (.ref 2 τ.i) (Y "next"))) fun m => if isRepl m then fail else bnd (methodV (callK (P p) (d + 1)) m (.ref 2 τ.i) []) k) σ Q:=by
 obtain ⟨t,h,hw,rfl⟩:=h
 refine RF.mk (Ur7 h) (RF.c (Upf h h0) fun v σ' ⟨e,h',f⟩ => ?_)
 subst e
 exact g σ' ⟨_,h',hw,rfl⟩ f
theorem RF.to {x:Str} (h:TP σ τ s) (g:∀ σ',TP σ' τ (s.to x) -> Fx σ σ' -> RF (k .none) σ' Q) :
   RF (bnd (look (methK (P p) (.ref 2 τ.i) (Y "to"))) fun m => if isRepl m then fail else bnd (methodV (callK (P p) (d + 1)) m (.ref 2 τ.i) [.str x]) k) σ Q:=by
 obtain ⟨t,h,hw,rfl⟩:=h
 refine RF.mk (mt_to h) (RF.c (to_run h x) fun v σ' ⟨e,h',f⟩ => ?_)
 subst e
 exact g σ' ⟨_,h',hw,rfl⟩ f
theorem RF.again {x:Str} (h:TP σ τ s) (g:∀ σ',TP σ' τ (s.again x) -> Fx σ σ' -> RF (k .none) σ' Q) :
   RF (bnd (look (methK (P p) (.ref 2 τ.i) (Y "again"))) fun m => if isRepl m then fail else bnd (methodV (callK (P p) (d + 1)) m (.ref 2 τ.i) [.str x]) k) σ Q:=by
 obtain ⟨t,h,hw,rfl⟩:=h
 refine RF.mk (Uo8 h) (RF.c (Um9 h x) fun v σ' ⟨e,h',f⟩ => ?_)
 subst e
 exact g σ' ⟨_,h',hw,rfl⟩ f
theorem RF.error {x:Str} (h:TP σ τ s) (hl:s.errs.length < lim) (g:∀ σ',TP σ' τ (s.error x) -> Fx σ σ' -> RF (k .none) σ' Q) :
   RF (bnd (look (methK (P p) (.ref 2 τ.i) (Y "error"))) fun m => if isRepl m then fail else bnd (methodV (callK (P p) (d + 1)) m (.ref 2 τ.i) [.str x]) k) σ Q:=by
 obtain ⟨t,h,hw,rfl⟩:=h
 refine RF.mk (Uh3 h) (RF.c (Uf9 h x hl) fun v σ' ⟨e,h',f⟩ => ?_)
 subst e
 exact g σ' ⟨_,h',hw,rfl⟩ f
theorem RF.emit_sign {x:Str} (h:TP σ τ s) (hl:s.out.length < lim) (g:∀ σ',TP σ' τ (s.put (chV x)) -> Fx σ σ' -> RF (k .none) σ' Q) :
   RF (bnd (look (methK (P p) (.ref 2 τ.i) (Y "emit_sign"))) fun m => if isRepl m then fail else bnd (methodV (callK (P p) (d + 1)) m (.ref 2 τ.i) [.str x]) k) σ Q:=by
 obtain ⟨t,h,hw,rfl⟩:=h
 refine RF.mk (Uia h) (RF.c (Ug2 h x hl) fun v σ' ⟨e,h',f⟩ => ?_)
 subst e
 exact g σ' ⟨_,h',hw,rfl⟩ f
theorem RF.emit_eof (h:TP σ τ s) (hl:s.out.length < lim) (g:∀ σ',TP σ' τ s.eof -> Fx σ σ' -> RF (k .none) σ' Q) :
   RF (bnd (look (methK (P p) (.ref 2 τ.i) (Y "emit_eof"))) fun m => if isRepl m then fail else bnd (methodV (callK (P p) (d + 1)) m (.ref 2 τ.i) []) k) σ Q:=by
 obtain ⟨t,h,hw,rfl⟩:=h
 refine RF.mk (Ujt h) (RF.c (Uie h hl) fun v σ' ⟨e,h',f⟩ => ?_)
 subst e
 exact g σ' ⟨_,h',hw,rfl⟩ f
theorem RF.add_name {x:Str} (h:TP σ τ s) (hd:s.draft = some D) (ha:D.attrs = init ++ [a]) (hl:a.n.length + x.length <= lim) (g:∀ σ',TP σ' τ (s.setDraft { D with attrs:=init ++ [{ a with n:=a.n ++ x }] }) -> Fx σ σ' -> RF (k .none) σ' Q) :
   RF (bnd (attrV (P p) (.ref 2 τ.i) (Y "draft")) fun o => bnd (look (methK (P p) o (Y "add_name"))) fun m => if isRepl m then fail else bnd (methodV (callK (P p) (d + 1)) m o [.str x]) k) σ Q:=by
 obtain ⟨t,h,hw,rfl⟩:=h
 obtain ⟨dr,hdr,rfl⟩:=Option.map_eq_some_iff.mp hd
 obtain ⟨i',a',e,rfl,rfl⟩:=Udh ha
 refine RF.b (Ua7 h) ?_
 rw [hdr]
 have hD:=h.dr dr hdr
 refine RF.mk (Ufu hD) (RF.c (Ufb hD e x hl) fun v σ' ⟨ev,h',f⟩ => ?_)
 subst ev
 refine g σ' ⟨{ t with draft:=some { dr with attrs:=i' ++ [{ a' with n:=a'.n ++ x }] } },h.dx f rfl (by rw [hdr]; rfl) (fun d e => by cases e; exact h'),hw,?_⟩ f.fx
 simp [TS.pl,PS.setDraft,Dr.pl,At.pl]
theorem RF.add_value {x:Str} (h:TP σ τ s) (hd:s.draft = some D) (ha:D.attrs = init ++ [a]) (hl:a.v.length + x.length <= lim) (g:∀ σ',TP σ' τ (s.setDraft { D with attrs:=init ++ [{ a with v:=a.v ++ x }] }) -> Fx σ σ' -> RF (k .none) σ' Q) :
   RF (bnd (attrV (P p) (.ref 2 τ.i) (Y "draft")) fun o => bnd (look (methK (P p) o (Y "add_value"))) fun m => if isRepl m then fail else bnd (methodV (callK (P p) (d + 1)) m o [.str x]) k) σ Q:=by
 obtain ⟨t,h,hw,rfl⟩:=h
 obtain ⟨dr,hdr,rfl⟩:=Option.map_eq_some_iff.mp hd
 obtain ⟨i',a',e,rfl,rfl⟩:=Udh ha
 refine RF.b (Ua7 h) ?_
 rw [hdr]
 have hD:=h.dr dr hdr
 refine RF.mk (Uhr hD) (RF.c (Ugs hD e x hl) fun v σ' ⟨ev,h',f⟩ => ?_)
 subst ev
 refine g σ' ⟨{ t with draft:=some { dr with attrs:=i' ++ [{ a' with v:=a'.v ++ x }] } },h.dx f rfl (by rw [hdr]; rfl) (fun d e => by cases e; exact h'),hw,?_⟩ f.fx
 simp [TS.pl,PS.setDraft,Dr.pl,At.pl]
theorem RF.begin_attr (h:TP σ τ s) (hd:s.draft = some D) (hl:D.attrs.length < lim) (g:∀ σ',TP σ' τ (s.setDraft { D with attrs:=D.attrs ++ [⟨"","",true⟩] }) -> Fx σ σ' -> RF (k .none) σ' Q) :
   RF (bnd (attrV (P p) (.ref 2 τ.i) (Y "draft")) fun o => bnd (look (methK (P p) o (Y "begin_attr"))) fun m => if isRepl m then fail else bnd (methodV (callK (P p) (d + 1)) m o []) k) σ Q:=by
 obtain ⟨t,h,hw,rfl⟩:=h
 obtain ⟨dr,hdr,rfl⟩:=Option.map_eq_some_iff.mp hd
 refine RF.b (Ua7 h) ?_
 rw [hdr]
 have hD:=h.dr dr hdr
 refine RF.mk (Uhb hD) (RF.c (Uf5 hD h.len (by simpa [Dr.pl] using hl)) fun v σ' ⟨ev,⟨i,h'⟩,f⟩ => ?_)
 subst ev
 refine g σ' ⟨{ t with draft:=some { dr with attrs:=dr.attrs ++ [⟨i,"","",true⟩] } },h.dx f rfl (by rw [hdr]; rfl) (fun d e => by cases e; exact h'),hw,?_⟩ f.fx
 simp [TS.pl,PS.setDraft,Dr.pl,At.pl]
noncomputable def toldP (init:List PA) (a:PA):Bool:=init.any fun b => b.k && b.n == a.n
theorem Ura (init:List At) (a:At):toldP (init.map At.pl) a.pl = told init a:=by delta toldP told; rw [List.any_map]; rfl
theorem Uhh (h:TP σ τ s) (hd:s.draft = some D) (ha:D.attrs = init ++ [a]) (hl:init.length < 5000) {c':CC} {k':V -> M Fl}
   (g:∀ σ',TP σ' τ (s.setDraft { D with attrs:=init ++ [{ a with k:=if toldP init a then false else a.k }] }) -> Fx σ σ' -> RF (k (.bool (!toldP init a))) σ' Q) :
   RF (bnd (attrV (P p) (.ref 2 τ.i) (Y "draft")) fun o => bnd (look (methK (P p) o (Y "check_attr"))) fun m => if isRepl m then fail else bnd (methodV (callK (P p) (d + 1)) m o []) k) σ Q:=by
 obtain ⟨t,h,hw,rfl⟩:=h
 obtain ⟨dr,hdr,rfl⟩:=Option.map_eq_some_iff.mp hd
 obtain ⟨i',a',e,rfl,rfl⟩:=Udh ha
 refine RF.b (Ua7 h) ?_
 rw [hdr]
 have hD:=h.dr dr hdr
 rw [Ura] at g
 refine RF.mk (Ug1 hD) (RF.c (Ugi hD e (by simpa using hl)) fun v σ' qq => xAAA qq fun ev h' f => ?_)
 subst ev
 refine g σ' ⟨{ t with draft:=some { dr with attrs:=i' ++ [{ a' with k:=if told i' a' then false else a'.k }] } },h.dx f rfl (by rw [hdr]; rfl) (fun d e => by cases e; exact h'),hw,?_⟩ f.fx
 simp [TS.pl,PS.setDraft,Dr.pl,At.pl]
end
end Mine
end
section
open PySem PySem.W
namespace Mine
noncomputable def isBlank (c:Str):Bool:=["\x09","\x0a","\x0c"," "].any (· == c)
noncomputable def isUpper (c:Str):Bool:=if (!strLt c (Y "A")) = true then !strLt (Y "Z") c else false
noncomputable def isLower (c:Str):Bool:=if (!strLt c (Y "a")) = true then !strLt (Y "z") c else false
noncomputable def isLetter (c:Str):Bool:=isLower c || isUpper c
noncomputable def ch (n:Nat):Str:=⟨#[n]⟩
noncomputable def lowerS (c:Str):Str:=if isUpper c then ch (c.cps.getD 0 0 + 32) else c
section
variable {p:Params} {σ σ' σ₁:Store} {τ:Rf} {s:PS} {n d:Nat} {D:PD} {init:List PA} {a:PA} {Q:V -> Store -> Prop} {k:V -> M Fl} {A B:M Fl}
theorem Uki (c:Str):callK (P p) (d + 1) a_is_blank [.str c] σ = some (.bool (isBlank c),σ):=by
 rw [Ul8]; rfl
theorem Uqc (c:Str):callK (P p) (d + 1) a_is_upper [.str c] σ = some (.bool (isUpper c),σ):=by
 rw [Ukq]
 delta F_is_upper isUpper
 refine ba_of (a:=!strLt c (Y "A")) (σ₁:=σ) rfl ?_
 cases h:!strLt c (Y "A") <;> rfl
theorem Umj (c:Str):callK (P p) (d + 1) a_is_letter [.str c] σ = some (.bool (isLetter c),σ):=by
 rw [Uj2]
 delta F_is_letter isLetter isLower isUpper
 refine ba_of (a:=!strLt c (Y "a")) (σ₁:=σ) rfl ?_
 have up:∀ b,bnd (bnd (look (cmpV .LtE (.str (Y "A")) (.str c))) fun x3 => (if x3 then bnd (look (cmpV .LtE (.str c) (.str (Y "Z")))) fun x4 => ret (Fl.ret (.bool x4)) else ret (.ret (.bool false)))) unFl σ = some (.bool (b && false || isUpper c),σ):=by
   intro b
   delta isUpper
   refine ba_of (a:=!strLt c (Y "A")) (σ₁:=σ) rfl ?_
   cases h:!strLt c (Y "A") <;> cases b <;> rfl
 cases h:!strLt c (Y "a") with
 | false => exact up false
 | true =>
   simp only [reduceIte]
   refine ba_of (a:=!strLt (Y "z") c) (σ₁:=σ) rfl ?_
   cases h2:!strLt (Y "z") c with
   | true => rfl
   | false => exact up true
theorem Ult (c:Str) (h:isUpper c = true -> c.length = 1 ∧ c.cps.getD 0 0 + 32 < 0x110000):callK (P p) (d + 2) a_lower [.str c] σ = some (.str (lowerS c),σ):=by
 rw [Usb]
 delta F_lower lowerS
 refine ba_of (Uqc c) ?_
 cases hu:isUpper c with
 | false =>
   show bnd (J_lower_0 p _ _) unFl σ = _
   rw [Ug8]; rfl
 | true =>
   refine xAA (h hu) fun h1 h2 => ?_
   show bnd (bnd (builtinV .ord [.str c]) _) unFl σ = _
   refine ba_of (a:=.int (c.cps.getD 0 0:Nat)) (σ₁:=σ) (bi_of (n:=.ord) (args:=[.str c]) (v:=.int (c.cps.getD 0 0:Nat)) (if_pos h1)) ?_
   refine ba_of (a:=.int ((c.cps.getD 0 0:Nat) + 32)) (σ₁:=σ) rfl ?_
   rw [Uak,bnd_of (a:=.str (ch (c.cps.getD 0 0 + 32))) (σ₁:=σ) ?_]
   · rfl
   · have e:(((c.cps.getD 0 0:Nat):Int) + 32).toNat = c.cps.getD 0 0 + 32:=by omega
     refine bi_of (n:=.chr) (args:=[.int ((c.cps.getD 0 0:Nat) + 32)]) ?_
     show (if (0:Int) <= ((c.cps.getD 0 0:Nat):Int) + 32 ∧ ((c.cps.getD 0 0:Nat):Int) + 32 < 0x110000 then some (V.str ⟨#[(((c.cps.getD 0 0:Nat):Int) + 32).toNat]⟩) else none) = _
     rw [if_pos ⟨by omega,by omega⟩,e]
     rfl
theorem RF.eq {x y:Str} (g:(x == y) = true -> RF A σ Q) (g':(x == y) = false -> RF B σ Q):RF (bnd (look (cmpV .Eq (.str x) (.str y))) fun b => if b then A else B) σ Q:=by
 refine RF.l (a:=x == y) rfl ?_
 cases h:x == y
 · exact RF.neg Bool.false_ne_true (g' h)
 · exact RF.pos rfl (g h)
theorem RF.blank {x:Str} {A B:V -> M Fl} (g:isBlank x = true -> RF (A (.bool true)) σ Q) (g':isBlank x = false -> RF (B (.bool false)) σ Q) :
   RF (bnd (callK (P p) (d + 1) a_is_blank [.str x]) fun v => match isT v with
     | some b => (if b then A v else B v)
     | none => fail) σ Q:=by
 refine RF.b (Uki x) ?_
 show RF (if isBlank x = true then _ else _) σ Q
 cases h:isBlank x
 · exact RF.neg Bool.false_ne_true (g' h)
 · exact RF.pos rfl (g h)
theorem RF.letter {x:Str} {A B:V -> M Fl} (g:isLetter x = true -> RF (A (.bool true)) σ Q) (g':isLetter x = false -> RF (B (.bool false)) σ Q) :
   RF (bnd (callK (P p) (d + 1) a_is_letter [.str x]) fun v => match isT v with
     | some b => (if b then A v else B v)
     | none => fail) σ Q:=by
 refine RF.b (Umj x) ?_
 show RF (if isLetter x = true then _ else _) σ Q
 cases h:isLetter x
 · exact RF.neg Bool.false_ne_true (g' h)
 · exact RF.pos rfl (g h)
theorem RF.mem {x:Str} {vs:List V} {l:List Str} (hl:strsOf vs = some l) (g:l.any (· == x) = true -> RF A σ Q) (g':l.any (· == x) = false -> RF B σ Q) :
   RF (bnd (look (cmpV .In (.str x) (.tup vs))) fun b => if b then A else B) σ Q:=by
 refine RF.l (a:=l.any (· == x)) (in_tup (σ:=σ) hl) ?_
 cases h:l.any (· == x)
 · exact RF.neg Bool.false_ne_true (g' h)
 · exact RF.pos rfl (g h)
end
end Mine
end
section
open PySem PySem.W
namespace Mine
section
variable {p:Params} {σ σ' σ₁:Store} {τ:Rf} {t:TS} {s:PS} {n d:Nat} {D:PD} {dr:Dr} {init:List PA} {a:PA} {Q:V -> Store -> Prop} {k:V -> M Fl} {A B:M Fl}
theorem Uhd (h:TR σ τ t) (hl:t.out.length + 2 < lim):Run (callK (P p) (d + 1) a_Tokenizer_emit_text [.ref 2 τ.i,.str (Y "</")]) σ fun v σ' => v = .none ∧ TR σ' τ ((t.put (chV (Y "<"))).put (chV (Y "/"))) ∧ Fx σ σ':=by
 rw [Ucn]
 show RF _ σ _
 delta F_Tokenizer_emit_text
 refine forRun (fun k fr s => TR s τ { t with out:=t.out ++ ([(Y "<"),Y "/"].take k).map chV } ∧ Fx σ s ∧
     (fr = [(Y "self",.ref 2 τ.i),(Y "text",.str (Y "</"))] ∨ ∃ v,fr = [(Y "self",.ref 2 τ.i),(Y "text",.str (Y "</")),(Y "sign",v)]))
   [.str (Y "<"),.str (Y "/")] ⟨by simpa using h,Fx.rfl,.inl rfl⟩ (by decide) (fun k v fr s hv hI => ?_) (fun fr s hI => ?_) fun fr s hI => ?_
 · refine xAAA hI fun hT hX hfr => ?_
   have hk:drawV (.str (Y "</")) k s = some (some v) ∧ ∃ x:Str,v = .str x ∧ ([(Y "<"),Y "/"].take (k + 1)) = ([(Y "<"),Y "/"].take k) ++ [x]:=by
     match k,hv with
     | 0,hv => cases hv; exact ⟨Uh1 (c:=60) rfl,_,rfl,rfl⟩
     | 1,hv => cases hv; exact ⟨Uh1 (c:=47) rfl,_,rfl,rfl⟩
     | k + 2,hv => cases hv
   refine xAEAA hk fun hd x qz1 hx => ?_; subst qz1
   refine ⟨hd,[(Y "self",.ref 2 τ.i),(Y "text",.str (Y "</")),(Y "sign",.str x)],?_,?_⟩
   · rw [Ufc (by kernel_rfl)]
     rcases hfr with rfl | ⟨v,rfl⟩ <;> kernel_rfl
   · rw [Ua1]
     delta T_Tokenizer_emit_text_l0_0
     have hll:(t.out ++ ([(Y "<"),Y "/"].take k).map chV).length < lim:=by
       rw [List.length_append,List.length_map]
       have h2:([(Y "<"),Y "/"].take k).length <= 2:=List.length_take_le' k [(Y "<"),Y "/"]
       omega
     refine xAA (hT.setOut (l:=(t.out ++ ([(Y "<"),Y "/"].take k).map chV) ++ [chV x])) fun h1 f1 => ?_
     refine Run.b (ga_out hT) (Run.app hT.out (Run.b (Uai hT.out hll) (Run.next (.inl ⟨_,rfl,?_,hX.trans f1,.inr ⟨_,rfl⟩⟩))))
     rw [hx,List.map_append,<- List.append_assoc]
     exact h1
 · exact Ume (Nat.le_refl _)
 · refine xAAA hI fun hT hX hfr => ?_
   have e:(t.out ++ ([(Y "<"),Y "/"].take 2).map chV) = (t.out ++ [chV (Y "<")]) ++ [chV (Y "/")]:=by simp
   have fin:TR s τ ((t.put (chV (Y "<"))).put (chV (Y "/"))):=by delta TS.put; rw [<- e]; exact hT
   rcases hfr with rfl | ⟨v,rfl⟩
   · rw [Uba]; exact RF.n ⟨rfl,fin,hX⟩
   · rw [Ubb]; exact RF.n ⟨rfl,fin,hX⟩
noncomputable def TS.emitD (t:TS) (dr:Dr):TS:={ t with draft:=none,last:=if dr.kind == "start" then dr.name else t.last,out:=t.out ++ [dr.tok] }
theorem Uf7 (h:TR σ τ t) (hd:t.draft = some dr) (hk:dr.kind = "start" ∨ dr.kind = "end") (ho:t.out.length < lim) (hl:dr.attrs.length < 5000) :
   RF (J_Tokenizer_emit_draft_0 p (callK (P p) (d + 1)) [(Y "self",.ref 2 τ.i),(Y "draft",.ref 0 dr.i)]) σ fun v σ' => v = .none ∧ TR σ' τ (t.emitD dr) ∧ Fx σ σ':=by
 rw [Ua6]
 delta J_Tokenizer_emit_draft_0_T0
 have hD:=h.dr dr hd
 have e1:setAttrV (P p) (.ref 2 τ.i) (Y "draft") .none σ = _:=Uae (es':=tokEs τ { t with draft:=none }) h.tok (by kernel_rfl) (by show 14 < 100; decide) (by kernel_rfl)
 have h1:=h.setTok (t':={ t with draft:=none }) rfl rfl rfl rfl rfl rfl (fun d e => by cases e)
 have hD1:DR (σ.put 2 τ.i (.inst c_Tokenizer (tokEs τ { t with draft:=none }))) dr:=hD.put h.tok ⟨by decide,by decide,by decide⟩
 refine RF.b e1 (RF.mk (Ur5 h1) (RF.mk (Uls hD1) (RF.c (Ujb hD1 h1.len (by rcases hk with e | e <;> rw [e] <;> decide) hl) fun v σ2 qq => xAAA qq fun ev h2 x2 => ?_)))
 subst ev
 have et:dr.tok = .tup (.str dr.kind :: .str dr.name :: [.tup (keptV dr.attrs),.bool dr.closing]):=by
   delta Dr.tok
   rw [if_neg (by rcases hk with e | e <;> rw [e] <;> decide)]
 have hT2:TR σ2 τ { t with draft:=none }:=h1.dx x2 rfl rfl (fun d e => by cases e)
 rw [et]
 refine RF.c (Uox hT2 dr.kind dr.name _ ho) fun v σ3 qq => xAAA qq fun ev h3 x3 => ?_
 subst ev
 refine RF.n ⟨rfl,?_,(Fx.put (by decide)).trans (x2.fx.trans x3)⟩
 delta TS.emitD
 rw [et]
 exact h3
theorem Ulr (h:TR σ τ t) (hd:t.draft = some dr) (hk:dr.kind = "start" ∨ dr.kind = "end") (ho:t.out.length < lim) (he:t.errs.length < lim) (hl:dr.attrs.length < 5000) :
   RF (J_Tokenizer_emit_draft_1 p (callK (P p) (d + 1)) [(Y "self",.ref 2 τ.i),(Y "draft",.ref 0 dr.i)]) σ fun v σ' => v = .none ∧ TR σ' τ ((if dr.closing then t.error "end-tag-with-trailing-solidus" else t).emitD dr) ∧ Fx σ σ':=by
 rw [Ua9]
 delta J_Tokenizer_emit_draft_1_T0
 refine RF.b (Uea (h.dr dr hd)) ?_
 show RF (if dr.closing = true then _ else _) σ _
 cases hc:dr.closing
 · exact RF.neg Bool.false_ne_true (Uf7 h hd hk ho hl)
 · refine RF.pos rfl (RF.mk (Uh3 h) (RF.c (Uf9 h _ he) fun v σ2 qq => xAAA qq fun ev h2 x2 => ?_))
   subst ev
   exact (Uf7 h2 hd hk ho hl).mono fun v s qq => xAAA qq fun e h' x' => ⟨e,h',x2.trans x'⟩
theorem Up4 (t:TS) (dr:Dr):(t.emitD dr).pl = { t.pl with draft:=none,last:=if dr.kind == "start" then dr.name else t.last,out:=t.out ++ [dr.pl.tok] }:=by rw [tok_eq]; rfl
noncomputable def dErrs (s:PS) (d:PD):List V :=
 let e1:=if d.kind == "end" && 0 < d.attrs.length then s.errs ++ [errV "end-tag-with-attributes" (s.pos - 1)] else s.errs
 if d.kind == "end" && d.closing then e1 ++ [errV "end-tag-with-trailing-solidus" (s.pos - 1)] else e1
theorem Uhn {s:PS} {d:PD} {e:List V} (h:s.draft = some d) (he:dErrs s d = e):s.emitDraft = { s with errs:=e,draft:=none,last:=if d.kind == "start" then d.name else s.last,out:=s.out ++ [d.tok] }:=by
 delta PS.emitDraft; rw [h,<- he]; rfl
theorem Ulf {t u:TS} {dr:Dr} {e:List V} (h:t.draft = some dr) (hu:u.pl = { t.pl with errs:=e }) (ul:u.last = t.last) (uo:u.out = t.out) (he:dErrs t.pl dr.pl = e):(u.emitD dr).pl = t.pl.emitDraft:=by
 rw [Up4,Uhn (d:=dr.pl) (by show t.draft.map Dr.pl = _; rw [h]; rfl) he,hu,ul,uo]; rfl
theorem Ur8 {s:PS} {d:PD} (h:(d.kind == "end") = true) (n:0 < d.attrs.length):dErrs s d = if d.closing = true then (s.errs ++ [errV "end-tag-with-attributes" (s.pos - 1)]) ++ [errV "end-tag-with-trailing-solidus" (s.pos - 1)] else s.errs ++ [errV "end-tag-with-attributes" (s.pos - 1)]:=by
 delta dErrs; rw [h,decide_eq_true n]; rfl
theorem Urs {s:PS} {d:PD} (h:(d.kind == "end") = true) (n:¬ 0 < d.attrs.length):dErrs s d = if d.closing = true then s.errs ++ [errV "end-tag-with-trailing-solidus" (s.pos - 1)] else s.errs:=by
 delta dErrs; rw [h,decide_eq_false n]; rfl
theorem Url {s:PS} {d:PD} (h:(d.kind == "end") = false):dErrs s d = s.errs:=by
 delta dErrs; rw [h]; rfl
theorem Ufy (h:TR σ τ t) (hd:t.draft = some dr) (hk:dr.kind = "start" ∨ dr.kind = "end") (ho:t.out.length < lim) (he:t.errs.length + 1 < lim) (hl:dr.attrs.length < 5000) :
   Run (callK (P p) (d + 2) a_Tokenizer_emit_draft [.ref 2 τ.i]) σ fun v σ' => v = .none ∧ (∃ t',TR σ' τ t' ∧ t'.waiting = t.waiting ∧ t'.pl = t.pl.emitDraft) ∧ Fx σ σ':=by
 rw [Ub8]
 show RF _ σ _
 delta F_Tokenizer_emit_draft
 have hD:=h.dr dr hd
 have pd:t.pl.draft = some dr.pl:=by simp [TS.pl,hd]
 refine RF.b (Ua7 h) ?_
 rw [hd]
 refine RF.b (Ui6 hD) (RF.eq (fun hkk => ?_) fun hkk => ?_)
 · refine RF.b (Ubr hD) (RF.b (len_list hD.al) ?_)
   rw [List.length_map]
   refine RF.l (a:=decide ((0:Int) < dr.attrs.length)) rfl ?_
   by_cases hn:0 < dr.attrs.length
   · refine RF.pos (by simpa using hn) (RF.mk (Uh3 h) (RF.c (Uf9 h _ (by omega)) fun v σ2 qq => xAAA qq fun ev h2 x2 => ?_))
     subst ev
     refine (Ulr h2 hd hk ho (by simp [TS.error]; omega) hl).mono fun v s qq => xAAA qq fun e h' x' => ⟨e,⟨_,h',by delta TS.emitD; split <;> rfl,?_⟩,x2.trans x'⟩
     refine Ulf hd (e:=dErrs t.pl dr.pl) ?_ (by split <;> rfl) (by split <;> rfl) rfl
     rw [Ur8 (d:=dr.pl) hkk (by rw [show dr.pl.attrs.length = dr.attrs.length from List.length_map _]; exact hn)]
     rw [show dr.pl.closing = dr.closing from rfl]
     split <;> rfl
   · refine RF.neg (by simpa using hn) ((Ulr h hd hk ho (by omega) hl).mono fun v s qq => xAAA qq fun e h' x' => ⟨e,⟨_,h',by delta TS.emitD; split <;> rfl,?_⟩,x'⟩)
     refine Ulf hd (e:=dErrs t.pl dr.pl) ?_ (by split <;> rfl) (by split <;> rfl) rfl
     rw [Urs (d:=dr.pl) hkk (by rw [show dr.pl.attrs.length = dr.attrs.length from List.length_map _]; exact hn)]
     rw [show dr.pl.closing = dr.closing from rfl]
     split <;> rfl
 · refine (Uf7 h hd hk ho hl).mono fun v s qq => xAAA qq fun e h' x' => ⟨e,⟨_,h',rfl,?_⟩,x'⟩
   exact Ulf hd rfl rfl rfl (Url (d:=dr.pl) hkk)
end
end Mine
end
section
open PySem PySem.W
namespace Mine
noncomputable def clsReg (a:Addr):Option (Nat × Addr):=match lkN a clsL with
 | some k => some (k.region,k.init)
 | none => none
section
variable {p:Params} {σ σ' σ₁:Store} {τ:Rf} {t:TS} {s:PS} {n d:Nat} {D:PD} {dr:Dr} {init:List PA} {a:PA} {Q:V -> Store -> Prop} {k:V -> M Fl} {A B:M Fl}
theorem new_of {c:CC} {a f:Addr} {r:Nat} {args:List V} {l:List Ob} {R:Store -> Prop} (hk:clsReg a = some (r,f)) (hl:σ[r]? = some l)
   (h:Run (c f (.ref r l.length :: args)) (σ.add r (.inst a [])) fun v σ' => v = .none ∧ R σ'):Run (applyV (P p) c (.fn a) args) σ fun v σ' => v = .ref r l.length ∧ R σ':=by
 refine xEEAAA h fun v σ1 e qz1 hR => ?_; subst qz1
 refine ⟨.ref r l.length,σ1,?_,rfl,hR⟩
 delta applyV
 delta clsReg at hk
 have hc:(P p).clss = clsL:=rfl
 dsimp only
 rw [hc]
 cases q:lkN a clsL with
 | none => rw [q] at hk; cases hk
 | some k =>
   rw [q] at hk
   cases hk
   dsimp only
   rw [hl]
   dsimp only
   refine b_of e ?_
   rfl
theorem RF.sg {r i:Nat} {C:Addr} {es:List (Str × V)} {x:Str} {v:V} {k:Unit -> M Fl} (h:σ.get r i = some (.inst C es)) (hx:clsHas C x = true) (hl:Nat.ble (es.length + 1) 100 = true)
   (g:(σ.put r i (.inst C (setK x v es))).get r i = some (.inst C (setK x v es)) -> RF (k ()) (σ.put r i (.inst C (setK x v es))) Q):RF (bnd (setAttrV (P p) (.ref r i) x v) k) σ Q :=
 RF.b (Uae h hx (Nat.le_of_ble_eq_true hl) rfl) (g (Uam h))
theorem Ugx {r:Nat} {l:List Ob} {vs:List V} (h:σ[r]? = some l):newL r vs σ = some (.ref r l.length,σ.add r (.list vs)):=by delta newL; rw [h]
theorem Ufx {i:Nat} (h0:σ.get 0 i = some (.inst c_Draft [])) (hlen:σ.length = 24) (kind:Str):Run (callK (P p) (d + 1) a_Draft_init [.ref 0 i,.str kind,.str (Y "")]) σ fun v σ' => v = .none ∧ (∃ al,DR σ' ⟨i,kind,"",false,al,[]⟩) ∧ Dx σ σ':=by
 rw [Uid]
 show RF _ σ _
 delta F_Draft_init
 refine RF.sg h0 (by kernel_rfl) (by kernel_rfl) fun h1 => RF.sg h1 (by kernel_rfl) (by kernel_rfl) fun h2 => RF.sg h2 (by kernel_rfl) (by kernel_rfl) fun h3 => RF.sg h3 (by kernel_rfl) (by kernel_rfl) fun h4 =>
   RF.sg h4 (by kernel_rfl) (by kernel_rfl) fun h5 => RF.sg h5 (by kernel_rfl) (by kernel_rfl) fun h6 => RF.sg h6 (by kernel_rfl) (by kernel_rfl) fun h7 => ?_
 refine xEA (reg_of (r:=4) (σ:=σ) hlen (by decide)) fun l hl => ?_
 refine RF.b (Ugx (l:=l) (by repeat' first | exact hl | rw [Uce (by decide)])) ?_
 generalize hs:Store.put _ 0 i _ = s7 at h7 ⊢
 have x7:Dx σ s7:=by
   rw [<- hs]
   repeat' first | exact Dx.rfl | refine Dx.trans ?_ (Dx.put (by simp))
 have hl7:s7[4]? = some l:=by
   rw [<- hs]
   repeat' first | exact hl | rw [Uce (by decide)]
 have h7':=Ubq (o:=.list []) hl7 h7
 refine RF.sg h7' (by kernel_rfl) (by kernel_rfl) fun h8 => RF.n ⟨rfl,⟨l.length,?_,Ue5 h7' (Ubd hl7) (.inl (by decide)),(fun a m => by cases m),List.nodup_nil⟩,x7.trans ((Dx.add (by simp)).trans (Dx.put (by simp)))⟩
 rw [h8]
 have e:∀ a v:V,setK (Y "attrs") a (setK (Y "is_closing") (.bool false) (setK (Y "is_quirks") (.bool false) (setK (Y "system") .none (setK (Y "public") .none (setK (Y "text") (.str (Y "")) (setK (Y "name") (.str (Y "")) (setK (Y "kind") v [])))))))
   = [(Y "kind",v),(Y "name",.str (Y "")),(Y "text",.str (Y "")),(Y "public",.none),(Y "system",.none),(Y "is_quirks",.bool false),(Y "is_closing",.bool false),(Y "attrs",a)]:=fun a v => by kernel_rfl
 exact congrArg (fun q => some (Ob.inst c_Draft q)) (e (.ref 4 l.length) (.str kind))
theorem new_draft (hlen:σ.length = 24) (kind:Str):Run (applyV (P p) (callK (P p) (d + 1)) (.fn c_Draft) [.str kind,.str (Y "")]) σ fun v σ' => ∃ i al,v = .ref 0 i ∧ DR σ' ⟨i,kind,"",false,al,[]⟩ ∧ Dx σ σ':=by
 refine xEA (reg_of (r:=0) (σ:=σ) hlen (by decide)) fun l hl => ?_
 refine (new_of (f:=a_Draft_init) (R:=fun σ' => (∃ al,DR σ' ⟨l.length,kind,"",false,al,[]⟩) ∧ Dx σ σ') (by kernel_rfl) hl ?_).mono fun v σ' ⟨e,⟨al,h⟩,x⟩ => ⟨l.length,al,e,h,x⟩
 exact (Ufx (Ubd hl) (Ubi.trans hlen) kind).mono fun v σ' qq => xAAA qq fun e h x => ⟨e,h,(Dx.add (by simp)).trans x⟩
theorem RF.new_draft {kind:Str} {k:Unit -> M Fl} (h:TP σ τ s) (hd:s.draft = none) (g:∀ σ',TP σ' τ (s.setDraft ⟨kind,"",false,[]⟩) -> Fx σ σ' -> RF (k ()) σ' Q) :
   RF (bnd (applyV (P p) (callK (P p) (d + 1)) (.fn c_Draft) [.str kind,.str (Y "")]) fun v => bnd (setAttrV (P p) (.ref 2 τ.i) (Y "draft") v) k) σ Q:=by
 obtain ⟨t,h,hw,rfl⟩:=h
 have hn:t.draft = none:=Option.map_eq_none_iff.mp hd
 refine RF.c (Mine.new_draft h.len kind) fun v σ1 ⟨i,al,ev,hD,x⟩ => ?_
 subst ev
 have h1:TR σ1 τ t:=h.dx x rfl rfl (fun d e => by rw [hn] at e; cases e)
 obtain ⟨σ2,e2,h2,x2⟩:=Uo1 (p:=p) h1 (some ⟨i,kind,"",false,al,[]⟩) (fun d e => by cases e; exact hD)
 exact RF.b e2 (g σ2 ⟨_,h2,hw,rfl⟩ (x.fx.trans x2))
theorem RF.emit_text (h:TP σ τ s) (hl:s.out.length + 2 < lim) (g:∀ σ',TP σ' τ ((s.put (chV (Y "<"))).put (chV (Y "/"))) -> Fx σ σ' -> RF (k .none) σ' Q) :
   RF (bnd (look (methK (P p) (.ref 2 τ.i) (Y "emit_text"))) fun m => if isRepl m then fail else bnd (methodV (callK (P p) (d + 1)) m (.ref 2 τ.i) [.str (Y "</")]) k) σ Q:=by
 obtain ⟨t,h,hw,rfl⟩:=h
 refine RF.mk (Uh4 h) (RF.c (Uhd h hl) fun v σ' ⟨e,h',f⟩ => ?_)
 subst e
 exact g σ' ⟨_,h',hw,rfl⟩ f
theorem RF.emit_draft (h:TP σ τ s) (hd:s.draft = some D) (hk:D.kind = "start" ∨ D.kind = "end") (ho:s.out.length < lim) (he:s.errs.length + 1 < lim) (hl:D.attrs.length < 5000)
   (g:∀ σ',TP σ' τ s.emitDraft -> Fx σ σ' -> RF (k .none) σ' Q) :
   RF (bnd (look (methK (P p) (.ref 2 τ.i) (Y "emit_draft"))) fun m => if isRepl m then fail else bnd (methodV (callK (P p) (d + 2)) m (.ref 2 τ.i) []) k) σ Q:=by
 obtain ⟨t,h,hw,rfl⟩:=h
 obtain ⟨dr,hdr,rfl⟩:=Option.map_eq_some_iff.mp hd
 refine RF.mk (Ugo h) (RF.c (Ufy h hdr hk ho he (by simpa [Dr.pl] using hl)) fun v σ' ⟨e,⟨t',h',w',q'⟩,f⟩ => ?_)
 subst e
 exact g σ' ⟨t',h',w'.trans hw,q'⟩ f
theorem DR.setObj {d':Dr} (h:DR σ dr) (e1:d'.i = dr.i) (e2:d'.al = dr.al) (e3:d'.attrs = dr.attrs):DR (σ.put 0 dr.i (.inst c_Draft (drEs d'))) d':=by
 refine ⟨by rw [e1]; exact Uam h.obj,?_,fun a m => ?_,by rw [e3]; exact h.nd⟩
 · rw [e2,e3]; exact (Uac h.obj (by decide)).trans h.al
 · rw [e3] at m; exact (Uac h.obj (by decide)).trans (h.each a m)
theorem RF.set_name {x:Str} {k:Unit -> M Fl} (h:TP σ τ s) (hd:s.draft = some D) (g:∀ σ',TP σ' τ (s.setDraft { D with name:=x }) -> Fx σ σ' -> RF (k ()) σ' Q) :
   RF (bnd (attrV (P p) (.ref 2 τ.i) (Y "draft")) fun o => bnd (setAttrV (P p) o (Y "name") (.str x)) k) σ Q:=by
 obtain ⟨t,h,hw,rfl⟩:=h
 obtain ⟨dr,hdr,rfl⟩:=Option.map_eq_some_iff.mp hd
 refine RF.b (Ua7 h) ?_
 rw [hdr]
 have hD:=h.dr dr hdr
 refine RF.b (Uae (es':=drEs { dr with name:=x }) hD.obj (by kernel_rfl) (by show 8 < 100; decide) (by kernel_rfl)) ?_
 have x1:Dx σ (σ.put 0 dr.i (.inst c_Draft (drEs { dr with name:=x }))):=Dx.put (by simp)
 refine g _ ⟨{ t with draft:=some { dr with name:=x } },h.dx x1 rfl (by rw [hdr]; rfl) (fun d e => by cases e; exact hD.setObj rfl rfl rfl),hw,?_⟩ x1.fx
 simp [TS.pl,PS.setDraft,Dr.pl]
theorem RF.set_closing {k:Unit -> M Fl} (h:TP σ τ s) (hd:s.draft = some D) (g:∀ σ',TP σ' τ (s.setDraft { D with closing:=true }) -> Fx σ σ' -> RF (k ()) σ' Q) :
   RF (bnd (attrV (P p) (.ref 2 τ.i) (Y "draft")) fun o => bnd (setAttrV (P p) o (Y "is_closing") (.bool true)) k) σ Q:=by
 obtain ⟨t,h,hw,rfl⟩:=h
 obtain ⟨dr,hdr,rfl⟩:=Option.map_eq_some_iff.mp hd
 refine RF.b (Ua7 h) ?_
 rw [hdr]
 have hD:=h.dr dr hdr
 refine RF.b (Uae (es':=drEs { dr with closing:=true }) hD.obj (by kernel_rfl) (by show 8 < 100; decide) (by kernel_rfl)) ?_
 have x1:Dx σ (σ.put 0 dr.i (.inst c_Draft (drEs { dr with closing:=true }))):=Dx.put (by simp)
 refine g _ ⟨{ t with draft:=some { dr with closing:=true } },h.dx x1 rfl (by rw [hdr]; rfl) (fun d e => by cases e; exact hD.setObj rfl rfl rfl),hw,?_⟩ x1.fx
 simp [TS.pl,PS.setDraft,Dr.pl]
theorem RF.get_name {k:V -> M Fl} (h:TP σ τ s) (hd:s.draft = some D) (g:RF (k (.str D.name)) σ Q) :
   RF (bnd (attrV (P p) (.ref 2 τ.i) (Y "draft")) fun o => bnd (attrV (P p) o (Y "name")) k) σ Q:=by
 obtain ⟨t,h,hw,rfl⟩:=h
 obtain ⟨dr,hdr,rfl⟩:=Option.map_eq_some_iff.mp hd
 refine RF.b (Ua7 h) ?_
 rw [hdr]
 exact RF.b (Un0 (h.dr dr hdr)) g
end
end Mine
end
section
open PySem PySem.W
namespace Mine
inductive Deed where
 | none | start | end_ | comment | lost | lone | give | close | put | quit | new | first | check | refer
structure Act where
 err:Option Str
 deed:Deed
 goal:Option Str
 again:Bool
noncomputable def PS.begin (s:PS) (kind:Str):PS:=s.setDraft ⟨kind,"",false,[]⟩
noncomputable def repl (c:Str):Str:=if c == (Y "\x00") then "�" else c
noncomputable def PS.last' (s:PS) (f:List PA -> PA -> PA):PS:=match s.draft with
 | some D => match D.attrs.getLast? with
   | some a => s.setDraft { D with attrs:=D.attrs.dropLast ++ [f D.attrs.dropLast a] }
   | none => s
 | none => s
noncomputable def PS.newAttr (s:PS):PS:=match s.draft with
 | some D => s.setDraft { D with attrs:=D.attrs ++ [⟨"","",true⟩] }
 | none => s
noncomputable def PS.addName (s:PS) (c:Str):PS:=s.last' fun w0 a => { a with n:=a.n ++ c }
noncomputable def PS.addValue (s:PS) (c:Str):PS:=s.last' fun w0 a => { a with v:=a.v ++ c }
noncomputable def PS.isTold (s:PS):Bool:=match s.draft with
 | some D => match D.attrs.getLast? with
   | some a => toldP D.attrs.dropLast a
   | none => false
 | none => false
noncomputable def PS.check (s:PS):PS:=if s.isTold then (s.last' fun w0 a => { a with k:=false }).error "duplicate-attribute" else s
noncomputable def PS.tagName (s:PS) (c:Str):PS:=match s.draft with
 | some D => s.setDraft { D with name:=D.name ++ c }
 | none => s
noncomputable def PS.closeIt (s:PS):PS:=match s.draft with
 | some D => s.setDraft { D with closing:=true }
 | none => s
noncomputable def PS.deed (s:PS) (d:Deed) (c:Str):PS:=match d with
 | .none => s
 | .start => s.begin "start"
 | .end_ => s.begin "end"
 | .comment => s.begin "comment"
 | .lost => (if s.state == "tag open" then s.put (chV "<") else (s.put (chV "<")).put (chV "/")).eof
 | .lone => s.put (chV "<")
 | .give => s.emitDraft
 | .close => s.closeIt.emitDraft
 | .put => if s.state == "tag name" then s.tagName (if c == (Y "\x00") then "�" else lowerS c)
   else if s.state == "attribute name" then s.addName (if c == (Y "\x00") then "�" else lowerS c)
   else s.addValue (repl c)
 | .quit => s.eof
 | .new => s.newAttr
 | .first => s.newAttr.addName c
 | .check => s.check
 | .refer => { s with back:=s.state }
noncomputable def PS.go (s:PS) (a:Act):PS :=
 let s1:=match a.err with
   | some e => s.nxt.error e
   | none => s.nxt
 let s2:=s1.deed a.deed s.cur
 match a.goal with
 | some g => if a.again then s2.again g else s2.to g
 | none => s2
noncomputable def actTagOpen (c:Str):Act:=if c == "!" then ⟨none,.none,some "markup declaration open",false⟩ else if c == "/" then ⟨none,.none,some "end tag open",false⟩
 else if isLetter c then ⟨none,.start,some "tag name",true⟩ else if c == "?" then ⟨some "unexpected-question-mark-instead-of-tag-name",.comment,some "bogus comment",true⟩
 else if c == "" then ⟨some "eof-before-tag-name",.lost,none,false⟩ else ⟨some "invalid-first-character-of-tag-name",.lone,some "data",true⟩
noncomputable def actEndOpen (c:Str):Act:=if isLetter c then ⟨none,.end_,some "tag name",true⟩ else if c == ">" then ⟨some "missing-end-tag-name",.none,some "data",false⟩
 else if c == "" then ⟨some "eof-before-tag-name",.lost,none,false⟩ else ⟨some "invalid-first-character-of-tag-name",.comment,some "bogus comment",true⟩
noncomputable def actTagName (c:Str):Act:=if isBlank c then ⟨none,.none,some "before attribute name",false⟩ else if c == "/" then ⟨none,.none,some "self-closing start tag",false⟩
 else if c == ">" then ⟨none,.give,some "data",false⟩ else if c == "\x00" then ⟨some "unexpected-null-character",.put,none,false⟩ else if c == "" then ⟨some "eof-in-tag",.quit,none,false⟩
 else ⟨none,.put,none,false⟩
noncomputable def actSelf (c:Str):Act:=if c == ">" then ⟨none,.close,some "data",false⟩ else if c == "" then ⟨some "eof-in-tag",.quit,none,false⟩ else ⟨some "unexpected-solidus-in-tag",.none,some "before attribute name",true⟩
noncomputable def actBefName (c:Str):Act:=if isBlank c then ⟨none,.none,none,false⟩ else if [(Y "/"),">",""].any (· == c) then ⟨none,.none,some "after attribute name",true⟩
 else if c == "=" then ⟨some "unexpected-equals-sign-before-attribute-name",.first,some "attribute name",false⟩ else ⟨none,.new,some "attribute name",true⟩
noncomputable def actName (c:Str):Act:=if isBlank c then ⟨none,.check,some "after attribute name",true⟩ else if [(Y "/"),">",""].any (· == c) then ⟨none,.check,some "after attribute name",true⟩
 else if c == "=" then ⟨none,.check,some "before attribute value",false⟩ else if c == "\x00" then ⟨some "unexpected-null-character",.put,none,false⟩
 else if [(Y "\""),"'","<"].any (· == c) then ⟨some "unexpected-character-in-attribute-name",.put,none,false⟩ else ⟨none,.put,none,false⟩
noncomputable def actAftName (c:Str):Act:=if isBlank c then ⟨none,.none,none,false⟩ else if c == "/" then ⟨none,.none,some "self-closing start tag",false⟩ else if c == "=" then ⟨none,.none,some "before attribute value",false⟩
 else if c == ">" then ⟨none,.give,some "data",false⟩ else if c == "" then ⟨some "eof-in-tag",.quit,none,false⟩ else ⟨none,.new,some "attribute name",true⟩
noncomputable def actBefVal (c:Str):Act:=if isBlank c then ⟨none,.none,none,false⟩ else if c == "\"" then ⟨none,.none,some "attribute value (double-quoted)",false⟩ else if c == "'" then ⟨none,.none,some "attribute value (single-quoted)",false⟩
 else if c == ">" then ⟨some "missing-attribute-value",.give,some "data",false⟩ else ⟨none,.none,some "attribute value (unquoted)",true⟩
noncomputable def actQuoted (q c:Str):Act:=if c == q then ⟨none,.none,some "after attribute value (quoted)",false⟩ else if c == "&" then ⟨none,.refer,some "character reference",false⟩
 else if c == "\x00" then ⟨some "unexpected-null-character",.put,none,false⟩ else if c == "" then ⟨some "eof-in-tag",.quit,none,false⟩ else ⟨none,.put,none,false⟩
noncomputable def actBare (c:Str):Act:=if isBlank c then ⟨none,.none,some "before attribute name",false⟩ else if c == "&" then ⟨none,.refer,some "character reference",false⟩ else if c == ">" then ⟨none,.give,some "data",false⟩
 else if c == "\x00" then ⟨some "unexpected-null-character",.put,none,false⟩ else if c == "" then ⟨some "eof-in-tag",.quit,none,false⟩
 else if [(Y "\""),"'","<","=","`"].any (· == c) then ⟨some "unexpected-character-in-unquoted-attribute-value",.put,none,false⟩ else ⟨none,.put,none,false⟩
noncomputable def actAftVal (c:Str):Act:=if isBlank c then ⟨none,.none,some "before attribute name",false⟩ else if c == "/" then ⟨none,.none,some "self-closing start tag",false⟩ else if c == ">" then ⟨none,.give,some "data",false⟩
 else if c == "" then ⟨some "eof-in-tag",.quit,none,false⟩ else ⟨some "missing-whitespace-between-attributes",.none,some "before attribute name",true⟩
inductive St where
 | tagOpen | endOpen | tagName | self | befName | name | aftName | befVal | dq | sq | bare | aftVal
noncomputable def St.str:St -> Str
 | .tagOpen => "tag open" | .endOpen => "end tag open" | .tagName => "tag name" | .self => "self-closing start tag" | .befName => "before attribute name" | .name => "attribute name" | .aftName => "after attribute name"
 | .befVal => "before attribute value" | .dq => "attribute value (double-quoted)" | .sq => "attribute value (single-quoted)" | .bare => "attribute value (unquoted)" | .aftVal => "after attribute value (quoted)"
noncomputable def allSt:List St:=[.tagOpen,.endOpen,.tagName,.self,.befName,.name,.aftName,.befVal,.dq,.sq,.bare,.aftVal]
noncomputable def act (q:St) (c:Str):Act:=match q with
 | .tagOpen => actTagOpen c | .endOpen => actEndOpen c | .tagName => actTagName c | .self => actSelf c | .befName => actBefName c | .name => actName c | .aftName => actAftName c
 | .befVal => actBefVal c | .dq => actQuoted "\"" c | .sq => actQuoted "'" c | .bare => actBare c | .aftVal => actAftVal c
noncomputable def St.addr:St -> Addr
 | .tagOpen => a_tag_open_state | .endOpen => a_end_tag_open_state | .tagName => a_tag_name_state | .self => a_self_closing_state | .befName => a_before_attr_name_state | .name => a_attr_name_state | .aftName => a_after_attr_name_state
 | .befVal => a_before_attr_value_state | .dq => a_double_quoted_state | .sq => a_single_quoted_state | .bare => a_unquoted_state | .aftVal => a_after_quoted_state
noncomputable def ofStr (x:Str):Option St:=allSt.find? fun q => q.str == x
structure Fit (q:St) (s:PS):Prop where
 st:s.state = q.str
 pos:0 <= s.pos
 out:s.out.length + 3 < lim
 errs:s.errs.length + 3 < lim
 sg:isUpper s.cur = true -> s.cur.length = 1 ∧ s.cur.cps.getD 0 0 + 32 < 0x110000
 cl:s.cur.length <= 1
 dn:q = .tagOpen ∨ q = .endOpen -> s.draft = none
 ds:q ≠ .tagOpen -> q ≠ .endOpen -> ∃ D,s.draft = some D ∧ (D.kind = "start" ∨ D.kind = "end") ∧ D.attrs.length + 1 < 5000 ∧ D.name.length + 1 < lim ∧
   ((q = .name ∨ q = .befVal ∨ q = .dq ∨ q = .sq ∨ q = .bare) -> ∃ init a,D.attrs = init ++ [a] ∧ a.n.length + 1 < lim ∧ a.v.length + 1 < lim)
section
variable {p:Params} {σ σ' σ₁:Store} {τ:Rf} {t:TS} {s:PS} {n d:Nat} {D:PD} {dr:Dr} {init:List PA} {a:PA} {Q:V -> Store -> Prop} {k:V -> M Fl} {A B:M Fl}
noncomputable abbrev Ends (s:PS) (τ:Rf) (σ:Store) (s':PS):V -> Store -> Prop:=fun v σ' => v = .none ∧ TP σ' τ s' ∧ Fx σ σ'
theorem gy {m:M Fl} {σ0:Store} {t:PS} {b:Bool} {A B:Act} (h:b = true) (g:RF m σ0 (Ends s τ σ (t.go A))):RF m σ0 (Ends s τ σ (t.go (if b = true then A else B))):=by rw [if_pos h]; exact g
theorem gn {m:M Fl} {σ0:Store} {t:PS} {b:Bool} {A B:Act} (h:b = false) (g:RF m σ0 (Ends s τ σ (t.go B))):RF m σ0 (Ends s τ σ (t.go (if b = true then A else B))):=by rw [if_neg (by rw [h]; exact Bool.false_ne_true)]; exact g
theorem Uhx (h:TP σ τ s) (f:Fit .tagOpen s):RF (F_tag_open_state p (callK (P p) (d + 3)) (.ref 2 τ.i)) σ (Ends s τ σ (s.go (actTagOpen s.cur))):=by
 delta F_tag_open_state
 refine RF.next h f.pos fun σ1 h1 x1 => ?_
 delta actTagOpen
 refine RF.eq (fun c1 => ?_) fun c1 => ?_
 · refine gy c1 ?_
   exact RF.to h1 fun σ2 h2 x2 => RF.n ⟨rfl,h2,x1.trans x2⟩
 refine gn c1 ?_
 refine RF.eq (fun c2 => ?_) fun c2 => ?_
 · refine gy c2 ?_
   exact RF.to h1 fun σ2 h2 x2 => RF.n ⟨rfl,h2,x1.trans x2⟩
 refine gn c2 ?_
 refine RF.letter (fun c3 => ?_) fun c3 => ?_
 · refine gy c3 ?_
   exact RF.new_draft h1 (f.dn (.inl rfl)) fun σ2 h2 x2 => RF.again h2 fun σ3 h3 x3 => RF.n ⟨rfl,h3,x1.trans (x2.trans x3)⟩
 refine gn c3 ?_
 refine RF.eq (fun c4 => ?_) fun c4 => ?_
 · refine gy c4 ?_
   exact RF.error h1 (by have:=f.errs; show s.errs.length < lim; omega) fun σ2 h2 x2 => RF.new_draft h2 (f.dn (.inl rfl)) fun σ3 h3 x3 => RF.again h3 fun σ4 h4 x4 => RF.n ⟨rfl,h4,x1.trans (x2.trans (x3.trans x4))⟩
 refine gn c4 ?_
 refine RF.eq (fun c5 => ?_) fun c5 => ?_
 · refine gy c5 ?_
   refine RF.error h1 (by have:=f.errs; show s.errs.length < lim; omega) fun σ2 h2 x2 => RF.emit_sign h2 (by have:=f.out; show s.out.length < lim; omega) fun σ3 h3 x3 => RF.emit_eof h3 (by have:=f.out; show (s.out ++ [_]).length < lim; simp; omega) fun σ4 h4 x4 =>
     RF.n ⟨rfl,?_,x1.trans (x2.trans (x3.trans x4))⟩
   have e:s.go ⟨some "eof-before-tag-name",.lost,none,false⟩ = ((s.nxt.error "eof-before-tag-name").put (chV "<")).eof:=by
     show (if (s.state == (Y "tag open")) = true then _ else _:PS).eof = _
     rw [f.st,if_pos (by kernel_rfl)]
   rw [e]; exact h4
 refine gn c5 ?_
 exact RF.error h1 (by have:=f.errs; show s.errs.length < lim; omega) fun σ2 h2 x2 => RF.emit_sign h2 (by have:=f.out; show s.out.length < lim; omega) fun σ3 h3 x3 => RF.again h3 fun σ4 h4 x4 => RF.n ⟨rfl,h4,x1.trans (x2.trans (x3.trans x4))⟩
end
end Mine
end
section
open PySem PySem.W
namespace Mine
section
variable {p:Params} {σ σ' σ₁:Store} {τ:Rf} {t:TS} {s:PS} {n d:Nat} {D:PD} {dr:Dr} {init:List PA} {a:PA} {Q:V -> Store -> Prop} {k:V -> M Fl} {A B:M Fl}
theorem RF.blankC {x:Str} {A B:V -> M Fl} (g:isBlank x = true -> RF (A (.bool true)) σ Q) (g':isBlank x = false -> RF (B (.bool false)) σ Q) :
   RF (bnd (callK (P p) (d + 1) a_is_blank [.str x]) fun v => match isT v with
     | some b => cond b (A v) (B v)
     | none => fail) σ Q:=by
 refine RF.b (Uki x) ?_
 show RF (cond (isBlank x) _ _) σ Q
 cases h:isBlank x
 · exact g' h
 · exact g h
theorem RF.memC {x:Str} {vs:List V} {l:List Str} (hl:strsOf vs = some l) (g:l.any (· == x) = true -> RF A σ Q) (g':l.any (· == x) = false -> RF B σ Q) :
   RF (bnd (look (cmpV .In (.str x) (.tup vs))) fun b => cond b A B) σ Q:=by
 refine RF.l (a:=l.any (· == x)) (in_tup (σ:=σ) hl) ?_
 cases h:l.any (· == x)
 · exact g' h
 · exact g h
theorem Umb (s:PS) (x:Str):(s.to x).emitDraft = s.emitDraft.to x:=by
 obtain ⟨pos,state,back,last,out,errs,draft,done,signs,closed,isret,serr⟩:=s
 cases draft <;> rfl
theorem Uc5 {f:List PA -> PA -> PA} (hd:s.draft = some D) (ha:D.attrs = init ++ [a]):s.last' f = s.setDraft { D with attrs:=init ++ [f init a] }:=by
 delta PS.last'
 rw [hd]
 dsimp only
 rw [ha,List.getLast?_concat,List.dropLast_concat]
theorem Um1 (hd:s.draft = some D) (ha:D.attrs = init ++ [a]):s.isTold = toldP init a:=by
 delta PS.isTold
 rw [hd]
 dsimp only
 rw [ha,List.getLast?_concat,List.dropLast_concat]
theorem Ug0 (hd:s.draft = some D):s.setDraft D = s:=by delta PS.setDraft; rw [<- hd]
theorem Ul5 {c:Str} (h:c.length <= 1):(lowerS c).length <= 1:=by
 delta lowerS
 split
 · exact Nat.le_refl 1
 · exact h
theorem RF.finish (h:TP σ τ s) (hd:s.draft = some D) (hk:D.kind = "start" ∨ D.kind = "end") (ho:s.out.length < lim) (he:s.errs.length + 1 < lim) (hl:D.attrs.length < 5000)
   (g:∀ σ',TP σ' τ (s.emitDraft.to "data") -> Fx σ σ' -> RF (k .none) σ' Q):RF (bnd (callK (P p) (d + 3) a_finish_tag [.ref 2 τ.i]) k) σ Q:=by
 refine RF.c (Q₁:=fun v σ' => v = .none ∧ TP σ' τ (s.emitDraft.to "data") ∧ Fx σ σ') ?_ fun v σ' qq => xAAA qq fun e h' x => by subst e; exact g σ' h' x
 rw [Uig]
 show RF _ σ _
 delta F_finish_tag
 refine RF.to h fun σ2 h2 x2 => RF.emit_draft h2 hd hk ho he hl fun σ3 h3 x3 => RF.n ⟨rfl,?_,x2.trans x3⟩
 rw [<- Umb]; exact h3
theorem RF.cut (h:TP σ τ s) (ho:s.out.length < lim) (he:s.errs.length < lim) (g:∀ σ',TP σ' τ (s.error "eof-in-tag").eof -> Fx σ σ' -> RF (k .none) σ' Q):RF (bnd (callK (P p) (d + 2) a_cut_tag [.ref 2 τ.i]) k) σ Q:=by
 refine RF.c (Q₁:=fun v σ' => v = .none ∧ TP σ' τ (s.error "eof-in-tag").eof ∧ Fx σ σ') ?_ fun v σ' ⟨e,h',x⟩ => by subst e; exact g σ' h' x
 rw [Umq]
 show RF _ σ _
 delta F_cut_tag
 exact RF.error h he fun σ2 h2 x2 => RF.emit_eof h2 ho fun σ3 h3 x3 => RF.n ⟨rfl,h3,x2.trans x3⟩
theorem RF.refer (h:TP σ τ s) (g:∀ σ',TP σ' τ ({ s with back:=s.state }.to "character reference") -> Fx σ σ' -> RF (k .none) σ' Q):RF (bnd (callK (P p) (d + 2) a_begin_reference [.ref 2 τ.i]) k) σ Q:=by
 refine RF.c (Q₁:=fun v σ' => v = .none ∧ TP σ' τ ({ s with back:=s.state }.to "character reference") ∧ Fx σ σ') ?_ fun v σ' ⟨e,h',x⟩ => by subst e; exact g σ' h' x
 rw [Ueg]
 show RF _ σ _
 delta F_begin_reference
 obtain ⟨t,h,hw,rfl⟩:=h
 obtain ⟨σ1,e1,h1,f1⟩:=Uq9 (p:=p) h t.state
 exact RF.b (Uev h) (RF.b e1 (RF.to ⟨_,h1,hw,rfl⟩ fun σ2 h2 x2 => RF.n ⟨rfl,h2,f1.trans x2⟩))
theorem RF.leave (h:TP σ τ s) (hd:s.draft = some D) (ha:D.attrs = init ++ [a]) (hl:init.length < 5000) (he:s.errs.length < lim) (g:∀ σ',TP σ' τ s.check -> Fx σ σ' -> RF (k .none) σ' Q) :
   RF (bnd (callK (P p) (d + 2) a_leave_name [.ref 2 τ.i]) k) σ Q:=by
 refine RF.c (Q₁:=fun v σ' => v = .none ∧ TP σ' τ s.check ∧ Fx σ σ') ?_ fun v σ' ⟨e,h',x⟩ => by subst e; exact g σ' h' x
 rw [Uho]
 show RF _ σ _
 delta F_leave_name
 refine Uhh (c':=callK (P p) 0) (k':=fun v => ret (.ret v)) h hd ha hl fun σ2 h2 x2 => ?_
 show RF (if (!!toldP init a) = true then _ else _) σ2 _
 delta PS.check
 rw [Um1 hd ha]
 cases ht:toldP init a with
 | true =>
   refine RF.pos rfl ?_
   rw [ht] at h2
   refine RF.error h2 he fun σ3 h3 x3 => RF.n ⟨rfl,?_,x2.trans x3⟩
   rw [if_pos rfl,Uc5 hd ha]
   exact h3
 | false =>
   refine RF.neg Bool.false_ne_true (RF.n ⟨rfl,?_,x2⟩)
   rw [if_neg Bool.false_ne_true]
   have e:({ D with attrs:=init ++ [{ a with k:=if toldP init a = true then false else a.k }] }:PD) = D:=by
     rw [ht]; simp only [Bool.false_eq_true,if_false]; rw [<- ha]
   rw [e,Ug0 hd] at h2
   exact h2
theorem RF.add_low {x:Str} (h:TP σ τ s) (hd:s.draft = some D) (ha:D.attrs = init ++ [a]) (hx:isUpper x = true -> x.length = 1 ∧ x.cps.getD 0 0 + 32 < 0x110000) (hl:a.n.length + (lowerS x).length <= lim)
   (g:∀ σ',TP σ' τ (s.addName (lowerS x)) -> Fx σ σ' -> RF (k .none) σ' Q) :
   RF (bnd (attrV (P p) (.ref 2 τ.i) (Y "draft")) fun o => bnd (look (methK (P p) o (Y "add_name"))) fun m => if isRepl m then fail else bnd (callK (P p) (d + 2) a_lower [.str x]) fun y => bnd (methodV (callK (P p) (d + 2)) m o [y]) k) σ Q:=by
 delta PS.addName at g
 rw [Uc5 hd ha] at g
 obtain ⟨t,h,hw,rfl⟩:=h
 obtain ⟨dr,hdr,rfl⟩:=Option.map_eq_some_iff.mp hd
 obtain ⟨i',a',e,rfl,rfl⟩:=Udh ha
 refine RF.b (Ua7 h) ?_
 rw [hdr]
 have hD:=h.dr dr hdr
 refine RF.mk (Ufu hD) (RF.b (Ult x hx) (RF.c (Ufb hD e (lowerS x) hl) fun v σ' qq => xAAA qq fun ev h' f => ?_))
 subst ev
 refine g σ' ⟨{ t with draft:=some { dr with attrs:=i' ++ [{ a' with n:=a'.n ++ lowerS x }] } },h.dx f rfl (by rw [hdr]; rfl) (fun d e => by cases e; exact h'),hw,?_⟩ f.fx
 simp [TS.pl,PS.setDraft,Dr.pl,At.pl]
theorem Uh9 (h:TP σ τ s) (f:Fit .endOpen s):RF (F_end_tag_open_state p (callK (P p) (d + 3)) (.ref 2 τ.i)) σ (Ends s τ σ (s.go (actEndOpen s.cur))):=by
 have ho:=f.out
 have he:=f.errs
 delta F_end_tag_open_state
 refine RF.next h f.pos fun σ1 h1 x1 => ?_
 delta actEndOpen
 refine RF.letter (fun c3 => ?_) fun c3 => ?_
 · refine gy c3 ?_
   exact RF.new_draft h1 (f.dn (.inr rfl)) fun σ2 h2 x2 => RF.again h2 fun σ3 h3 x3 => RF.n ⟨rfl,h3,x1.trans (x2.trans x3)⟩
 refine gn c3 ?_
 refine RF.eq (fun c4 => ?_) fun c4 => ?_
 · refine gy c4 ?_
   exact RF.error h1 (by show s.errs.length < lim; omega) fun σ2 h2 x2 => RF.to h2 fun σ3 h3 x3 => RF.n ⟨rfl,h3,x1.trans (x2.trans x3)⟩
 refine gn c4 ?_
 refine RF.eq (fun c5 => ?_) fun c5 => ?_
 · refine gy c5 ?_
   refine RF.error h1 (by show s.errs.length < lim; omega) fun σ2 h2 x2 => RF.emit_text h2 (by show s.out.length + 2 < lim; omega) fun σ3 h3 x3 => RF.emit_eof h3 (by show ((s.out ++ [_]) ++ [_]).length < lim; simp; omega) fun σ4 h4 x4 =>
     RF.n ⟨rfl,?_,x1.trans (x2.trans (x3.trans x4))⟩
   have e:s.go ⟨some "eof-before-tag-name",.lost,none,false⟩ = (((s.nxt.error "eof-before-tag-name").put (chV "<")).put (chV "/")).eof:=by
     show (if (s.state == (Y "tag open")) = true then _ else _:PS).eof = _
     rw [f.st,if_neg (by decide)]
   rw [e]; exact h4
 refine gn c5 ?_
 exact RF.error h1 (by show s.errs.length < lim; omega) fun σ2 h2 x2 => RF.new_draft h2 (f.dn (.inr rfl)) fun σ3 h3 x3 => RF.again h3 fun σ4 h4 x4 => RF.n ⟨rfl,h4,x1.trans (x2.trans (x3.trans x4))⟩
theorem Uhy (h:TP σ τ s) (f:Fit .tagName s):RF (F_tag_name_state p (callK (P p) (d + 3)) (.ref 2 τ.i)) σ (Ends s τ σ (s.go (actTagName s.cur))):=by
 have ho:=f.out
 have he:=f.errs
 refine xEAAAAA (f.ds nofun nofun) fun D hd hk hl hn w0 => ?_
 have hput:∀ s1:PS,s1.state = s.state -> s1.draft = some D -> s1.deed .put s.cur = s1.setDraft { D with name:=D.name ++ (if s.cur == (Y "\x00") then (Y "�") else lowerS s.cur) }:=fun s1 e1 e2 => by
   show (if (s1.state == (Y "tag name")) = true then _ else _:PS) = _
   rw [e1,f.st,if_pos (by kernel_rfl)]
   delta PS.tagName
   rw [e2]
 delta F_tag_name_state
 refine RF.next h f.pos fun σ1 h1 x1 => ?_
 delta actTagName
 refine RF.blank (fun c1 => ?_) fun c1 => ?_
 · refine gy c1 ?_
   exact RF.to h1 fun σ2 h2 x2 => RF.n ⟨rfl,h2,x1.trans x2⟩
 refine gn c1 ?_
 refine RF.eq (fun c2 => ?_) fun c2 => ?_
 · refine gy c2 ?_
   exact RF.to h1 fun σ2 h2 x2 => RF.n ⟨rfl,h2,x1.trans x2⟩
 refine gn c2 ?_
 refine RF.eq (fun c3 => ?_) fun c3 => ?_
 · refine gy c3 ?_
   refine RF.to h1 fun σ2 h2 x2 => RF.emit_draft h2 hd hk (by show s.out.length < lim; omega) (by show s.errs.length + 1 < lim; omega) (by omega) fun σ3 h3 x3 => RF.n ⟨rfl,?_,x1.trans (x2.trans x3)⟩
   rw [Umb] at h3; exact h3
 refine gn c3 ?_
 refine RF.eq (fun c4 => ?_) fun c4 => ?_
 · refine gy c4 ?_
   refine RF.error h1 (by show s.errs.length < lim; omega) fun σ2 h2 x2 => RF.get_name h2 hd (RF.l (add_str (by show D.name.length + 1 <= lim; omega)) (RF.set_name h2 hd fun σ3 h3 x3 => RF.n ⟨rfl,?_,x1.trans (x2.trans x3)⟩))
   show TP σ3 τ ((s.nxt.error _).deed .put s.cur)
   rw [hput (s.nxt.error _) rfl hd,if_pos c4]
   exact h3
 refine gn c4 ?_
 refine RF.eq (fun c5 => ?_) fun c5 => ?_
 · refine gy c5 ?_
   exact RF.error h1 (by show s.errs.length < lim; omega) fun σ2 h2 x2 => RF.emit_eof h2 (by show s.out.length < lim; omega) fun σ3 h3 x3 => RF.n ⟨rfl,h3,x1.trans (x2.trans x3)⟩
 refine gn c5 ?_
 refine RF.get_name h1 hd (RF.b (Ult _ f.sg) (RF.l (add_str (by have:=Ul5 f.cl; omega)) (RF.set_name h1 hd fun σ3 h3 x3 => RF.n ⟨rfl,?_,x1.trans x3⟩)))
 show TP σ3 τ (s.nxt.deed .put s.cur)
 rw [hput s.nxt rfl hd,if_neg (by rw [c4]; decide)]
 exact h3
theorem Up7 (h:TP σ τ s) (f:Fit .self s):RF (F_self_closing_state p (callK (P p) (d + 3)) (.ref 2 τ.i)) σ (Ends s τ σ (s.go (actSelf s.cur))):=by
 have ho:=f.out
 have he:=f.errs
 refine xEAAAAA (f.ds nofun nofun) fun D hd hk hl hn w0 => ?_
 delta F_self_closing_state
 refine RF.next h f.pos fun σ1 h1 x1 => ?_
 delta actSelf
 refine RF.eq (fun c1 => ?_) fun c1 => ?_
 · refine gy c1 ?_
   refine RF.set_closing h1 hd fun σ2 h2 x2 => RF.to h2 fun σ3 h3 x3 => RF.emit_draft (D:={ D with closing:=true }) h3 rfl hk (by show s.out.length < lim; omega) (by show s.errs.length + 1 < lim; omega) (by show D.attrs.length < 5000; omega) fun σ4 h4 x4 => RF.n ⟨rfl,?_,x1.trans (x2.trans (x3.trans x4))⟩
   rw [Umb] at h4
   show TP σ4 τ (s.nxt.closeIt.emitDraft.to "data")
   have e:s.nxt.closeIt = s.nxt.setDraft { D with closing:=true }:=by delta PS.closeIt; rw [show s.nxt.draft = some D from hd]
   rw [e]; exact h4
 refine gn c1 ?_
 refine RF.eq (fun c5 => ?_) fun c5 => ?_
 · refine gy c5 ?_
   exact RF.error h1 (by show s.errs.length < lim; omega) fun σ2 h2 x2 => RF.emit_eof h2 (by show s.out.length < lim; omega) fun σ3 h3 x3 => RF.n ⟨rfl,h3,x1.trans (x2.trans x3)⟩
 refine gn c5 ?_
 exact RF.error h1 (by show s.errs.length < lim; omega) fun σ2 h2 x2 => RF.again h2 fun σ3 h3 x3 => RF.n ⟨rfl,h3,x1.trans (x2.trans x3)⟩
end
end Mine
end
section
open PySem PySem.W
namespace Mine
section
variable {p:Params} {σ σ' σ₁:Store} {τ:Rf} {t:TS} {s:PS} {n d:Nat} {D:PD} {dr:Dr} {init:List PA} {a:PA} {Q:V -> Store -> Prop} {k:V -> M Fl} {A B:M Fl}
theorem Ub7 (hd:s.draft = some D):s.newAttr = s.setDraft { D with attrs:=D.attrs ++ [⟨"","",true⟩] }:=by delta PS.newAttr; rw [hd]
theorem Uic (h:TP σ τ s) (f:Fit .befName s):RF (F_before_attr_name_state p (callK (P p) (d + 3)) (.ref 2 τ.i)) σ (Ends s τ σ (s.go (actBefName s.cur))):=by
 have ho:=f.out
 have he:=f.errs
 refine xEAAAAA (f.ds nofun nofun) fun D hd hk hl hn w0 => ?_
 delta F_before_attr_name_state
 refine RF.next h f.pos fun σ1 h1 x1 => ?_
 delta actBefName
 refine RF.blank (fun c1 => ?_) fun c1 => ?_
 · refine gy c1 ?_
   exact RF.r ⟨rfl,h1,x1⟩
 refine gn c1 ?_; rw [Uaz]
 delta J_before_attr_name_state_0_T0
 refine RF.mem (l:=["/",">",""]) rfl (fun c2 => ?_) fun c2 => ?_
 · refine gy c2 ?_
   exact RF.again h1 fun σ2 h2 x2 => RF.n ⟨rfl,h2,x1.trans x2⟩
 refine gn c2 ?_
 refine RF.eq (fun c3 => ?_) fun c3 => ?_
 · refine gy c3 ?_
   refine RF.error h1 (by show s.errs.length < lim; omega) fun σ2 h2 x2 => RF.begin_attr h2 hd (by delta lim; omega) fun σ3 h3 x3 => RF.add_name (init:=D.attrs) (a:=⟨"","",true⟩) h3 rfl rfl (by have:=f.cl; show 0 + s.cur.length <= lim; delta lim; omega) fun σ4 h4 x4 => RF.to h4 fun σ5 h5 x5 => RF.n ⟨rfl,?_,x1.trans (x2.trans (x3.trans (x4.trans x5)))⟩
   show TP σ5 τ (((s.nxt.error _).newAttr.addName s.cur).to _)
   rw [Ub7 (s:=s.nxt.error _) hd]
   delta PS.addName
   rw [Uc5 (init:=D.attrs) (a:=⟨"","",true⟩) rfl rfl]
   exact h5
 refine gn c3 ?_
 refine RF.begin_attr h1 hd (by delta lim; omega) fun σ3 h3 x3 => RF.again h3 fun σ4 h4 x4 => RF.n ⟨rfl,?_,x1.trans (x3.trans x4)⟩
 show TP σ4 τ ((s.nxt.newAttr).again _)
 rw [Ub7 (s:=s.nxt) hd]
 exact h4
theorem Uqj (h:TP σ τ s) (f:Fit .name s):RF (F_attr_name_state p (callK (P p) (d + 3)) (.ref 2 τ.i)) σ (Ends s τ σ (s.go (actName s.cur))):=by
 have ho:=f.out
 have he:=f.errs
 refine xEAAAAA (f.ds nofun nofun) fun D hd hk hl hn hx => ?_
 refine xEEAAA (hx (.inl rfl)) fun init a ha hna hva => ?_
 have hil:init.length < 5000:=by rw [ha,List.length_append] at hl; simp at hl; omega
 have hput:∀ s1:PS,s1.state = s.state -> s1.deed .put s.cur = s1.addName (if s.cur == (Y "\x00") then (Y "�") else lowerS s.cur):=fun s1 e1 => by
   show (if (s1.state == (Y "tag name")) = true then _ else if (s1.state == (Y "attribute name")) = true then _ else _:PS) = _
   rw [e1,f.st,if_neg (by decide),if_pos (by kernel_rfl)]
 have low:∀ {σ2:Store} {s1:PS},TP σ2 τ s1 -> Fx σ σ2 -> s1.draft = some D -> s1.state = s.state -> (s.cur == (Y "\x00")) = false -> RF (J_attr_name_state_0 p (callK (P p) (d + 3)) [(Y "t",.ref 2 τ.i),(Y "c",.str s.cur)]) σ2 (Ends s τ σ (s1.deed .put s.cur)):=by
   intro σ2 s1 h2 x2 hd2 hs2 c4
   rw [Ub4]
   delta J_attr_name_state_0_T0
   refine RF.add_low h2 hd2 ha f.sg (by have:=Ul5 f.cl; omega) fun σ3 h3 x3 => RF.n ⟨rfl,?_,x2.trans x3⟩
   rw [hput s1 hs2,if_neg (by rw [c4]; decide)]
   exact h3
 delta F_attr_name_state
 refine RF.next h f.pos fun σ1 h1 x1 => ?_
 delta actName
 refine RF.blankC (fun c1 => ?_) fun c1 => ?_
 · refine gy c1 ?_
   exact RF.leave h1 hd ha hil (by show s.errs.length < lim; omega) fun σ2 h2 x2 => RF.again h2 fun σ3 h3 x3 => RF.n ⟨rfl,h3,x1.trans (x2.trans x3)⟩
 refine gn c1 ?_
 refine RF.memC (l:=["/",">",""]) rfl (fun c2 => ?_) fun c2 => ?_
 · refine gy c2 ?_
   exact RF.leave h1 hd ha hil (by show s.errs.length < lim; omega) fun σ2 h2 x2 => RF.again h2 fun σ3 h3 x3 => RF.n ⟨rfl,h3,x1.trans (x2.trans x3)⟩
 refine gn c2 ?_
 refine RF.eq (fun c3 => ?_) fun c3 => ?_
 · refine gy c3 ?_
   exact RF.leave h1 hd ha hil (by show s.errs.length < lim; omega) fun σ2 h2 x2 => RF.to h2 fun σ3 h3 x3 => RF.n ⟨rfl,h3,x1.trans (x2.trans x3)⟩
 refine gn c3 ?_
 refine RF.eq (fun c4 => ?_) fun c4 => ?_
 · refine gy c4 ?_
   refine RF.error h1 (by show s.errs.length < lim; omega) fun σ2 h2 x2 => RF.add_name h2 hd ha (by show a.n.length + 1 <= lim; omega) fun σ3 h3 x3 => RF.n ⟨rfl,?_,x1.trans (x2.trans x3)⟩
   show TP σ3 τ ((s.nxt.error _).deed .put s.cur)
   rw [hput (s.nxt.error _) rfl,if_pos c4]
   delta PS.addName
   rw [Uc5 (s:=s.nxt.error _) hd ha]
   exact h3
 refine gn c4 ?_
 refine RF.mem (l:=["\"","'","<"]) rfl (fun c5 => ?_) fun c5 => ?_
 · refine gy c5 ?_
   exact RF.error h1 (by show s.errs.length < lim; omega) fun σ2 h2 x2 => low h2 (x1.trans x2) hd rfl c4
 refine gn c5 ?_
 exact low h1 x1 hd rfl c4
theorem Uhm (h:TP σ τ s) (f:Fit .aftName s):RF (F_after_attr_name_state p (callK (P p) (d + 4)) (.ref 2 τ.i)) σ (Ends s τ σ (s.go (actAftName s.cur))):=by
 have ho:=f.out
 have he:=f.errs
 refine xEAAAAA (f.ds nofun nofun) fun D hd hk hl hn w0 => ?_
 delta F_after_attr_name_state
 refine RF.next h f.pos fun σ1 h1 x1 => ?_
 delta actAftName
 refine RF.blank (fun c1 => ?_) fun c1 => ?_
 · refine gy c1 ?_
   exact RF.r ⟨rfl,h1,x1⟩
 refine gn c1 ?_; rw [Ua2]
 delta J_after_attr_name_state_0_T0
 refine RF.eq (fun c2 => ?_) fun c2 => ?_
 · refine gy c2 ?_
   exact RF.to h1 fun σ2 h2 x2 => RF.n ⟨rfl,h2,x1.trans x2⟩
 refine gn c2 ?_
 refine RF.eq (fun c3 => ?_) fun c3 => ?_
 · refine gy c3 ?_
   exact RF.to h1 fun σ2 h2 x2 => RF.n ⟨rfl,h2,x1.trans x2⟩
 refine gn c3 ?_
 refine RF.eq (fun c4 => ?_) fun c4 => ?_
 · refine gy c4 ?_
   exact RF.finish h1 hd hk (by show s.out.length < lim; omega) (by show s.errs.length + 1 < lim; omega) (by omega) fun σ2 h2 x2 => RF.n ⟨rfl,h2,x1.trans x2⟩
 refine gn c4 ?_
 refine RF.eq (fun c5 => ?_) fun c5 => ?_
 · refine gy c5 ?_
   exact RF.cut h1 (by show s.out.length < lim; omega) (by show s.errs.length < lim; omega) fun σ2 h2 x2 => RF.n ⟨rfl,h2,x1.trans x2⟩
 refine gn c5 ?_
 refine RF.begin_attr h1 hd (by delta lim; omega) fun σ3 h3 x3 => RF.again h3 fun σ4 h4 x4 => RF.n ⟨rfl,?_,x1.trans (x3.trans x4)⟩
 show TP σ4 τ ((s.nxt.newAttr).again _)
 rw [Ub7 (s:=s.nxt) hd]
 exact h4
theorem Uj4 (h:TP σ τ s) (f:Fit .befVal s):RF (F_before_attr_value_state p (callK (P p) (d + 4)) (.ref 2 τ.i)) σ (Ends s τ σ (s.go (actBefVal s.cur))):=by
 have ho:=f.out
 have he:=f.errs
 refine xEAAAAA (f.ds nofun nofun) fun D hd hk hl hn w0 => ?_
 delta F_before_attr_value_state
 refine RF.next h f.pos fun σ1 h1 x1 => ?_
 delta actBefVal
 refine RF.blank (fun c1 => ?_) fun c1 => ?_
 · refine gy c1 ?_
   exact RF.r ⟨rfl,h1,x1⟩
 refine gn c1 ?_; rw [Uat]
 delta J_before_attr_value_state_0_T0
 refine RF.eq (fun c2 => ?_) fun c2 => ?_
 · refine gy c2 ?_
   exact RF.to h1 fun σ2 h2 x2 => RF.n ⟨rfl,h2,x1.trans x2⟩
 refine gn c2 ?_
 refine RF.eq (fun c3 => ?_) fun c3 => ?_
 · refine gy c3 ?_
   exact RF.to h1 fun σ2 h2 x2 => RF.n ⟨rfl,h2,x1.trans x2⟩
 refine gn c3 ?_
 refine RF.eq (fun c4 => ?_) fun c4 => ?_
 · refine gy c4 ?_
   exact RF.error h1 (by show s.errs.length < lim; omega) fun σ2 h2 x2 => RF.finish h2 hd hk (by show s.out.length < lim; omega) (by show (s.errs ++ [_]).length + 1 < lim; simp; omega) (by omega) fun σ3 h3 x3 => RF.n ⟨rfl,h3,x1.trans (x2.trans x3)⟩
 refine gn c4 ?_
 exact RF.again h1 fun σ4 h4 x4 => RF.n ⟨rfl,h4,x1.trans x4⟩
theorem Ug3 {q:St} {qt:Str} (hq:q = .dq ∨ q = .sq) (h:TP σ τ s) (f:Fit q s):Run (callK (P p) (d + 4) a_quoted_value [.ref 2 τ.i,.str qt]) σ (Ends s τ σ (s.go (actQuoted qt s.cur))):=by
 have ho:=f.out
 have he:=f.errs
 refine xEAAAAA (f.ds (by rcases hq with rfl | rfl <;> nofun) (by rcases hq with rfl | rfl <;> nofun)) fun D hd hk hl hn hx => ?_
 refine xEEAAA (hx (by rcases hq with rfl | rfl <;> simp)) fun init a ha hna hva => ?_
 have hput:∀ s1:PS,s1.state = s.state -> s1.deed .put s.cur = s1.addValue (repl s.cur):=fun s1 e1 => by
   show (if (s1.state == (Y "tag name")) = true then _ else if (s1.state == (Y "attribute name")) = true then _ else _:PS) = _
   rw [e1,f.st]
   rcases hq with rfl | rfl <;> rw [if_neg (by decide),if_neg (by decide)]
 rw [Uf4]
 show RF _ σ _
 delta F_quoted_value
 refine RF.next h f.pos fun σ1 h1 x1 => ?_
 delta actQuoted
 refine RF.eq (fun c1 => ?_) fun c1 => ?_
 · refine gy c1 ?_
   exact RF.to h1 fun σ2 h2 x2 => RF.n ⟨rfl,h2,x1.trans x2⟩
 refine gn c1 ?_
 refine RF.eq (fun c2 => ?_) fun c2 => ?_
 · refine gy c2 ?_
   exact RF.refer h1 fun σ2 h2 x2 => RF.n ⟨rfl,h2,x1.trans x2⟩
 refine gn c2 ?_
 refine RF.eq (fun c4 => ?_) fun c4 => ?_
 · refine gy c4 ?_
   refine RF.error h1 (by show s.errs.length < lim; omega) fun σ2 h2 x2 => RF.add_value h2 hd ha (by show a.v.length + 1 <= lim; omega) fun σ3 h3 x3 => RF.n ⟨rfl,?_,x1.trans (x2.trans x3)⟩
   show TP σ3 τ ((s.nxt.error _).deed .put s.cur)
   rw [hput (s.nxt.error _) rfl]
   delta PS.addValue repl
   rw [if_pos c4,Uc5 (s:=s.nxt.error _) hd ha]
   exact h3
 refine gn c4 ?_
 refine RF.eq (fun c5 => ?_) fun c5 => ?_
 · refine gy c5 ?_
   exact RF.cut h1 (by show s.out.length < lim; omega) (by show s.errs.length < lim; omega) fun σ2 h2 x2 => RF.n ⟨rfl,h2,x1.trans x2⟩
 refine gn c5 ?_
 refine RF.add_value h1 hd ha (by have:=f.cl; omega) fun σ3 h3 x3 => RF.n ⟨rfl,?_,x1.trans x3⟩
 show TP σ3 τ (s.nxt.deed .put s.cur)
 rw [hput s.nxt rfl]
 delta PS.addValue repl
 rw [if_neg (by rw [c4]; decide),Uc5 (s:=s.nxt) hd ha]
 exact h3
theorem dq_run (h:TP σ τ s) (f:Fit .dq s):RF (F_double_quoted_state p (callK (P p) (d + 4)) (.ref 2 τ.i)) σ (Ends s τ σ (s.go (actQuoted "\"" s.cur))):=by
 delta F_double_quoted_state
 exact RF.c (Ug3 (.inl rfl) h f) fun v σ' qq => xAAA qq fun e h' x => RF.n ⟨rfl,h',x⟩
theorem sq_run (h:TP σ τ s) (f:Fit .sq s):RF (F_single_quoted_state p (callK (P p) (d + 4)) (.ref 2 τ.i)) σ (Ends s τ σ (s.go (actQuoted "'" s.cur))):=by
 delta F_single_quoted_state
 exact RF.c (Ug3 (.inr rfl) h f) fun v σ' qq => xAAA qq fun e h' x => RF.n ⟨rfl,h',x⟩
theorem Uqi (h:TP σ τ s) (f:Fit .bare s):RF (F_unquoted_state p (callK (P p) (d + 4)) (.ref 2 τ.i)) σ (Ends s τ σ (s.go (actBare s.cur))):=by
 have ho:=f.out
 have he:=f.errs
 refine xEAAAAA (f.ds nofun nofun) fun D hd hk hl hn hx => ?_
 refine xEEAAA (hx (by simp)) fun init a ha hna hva => ?_
 have hput:∀ s1:PS,s1.state = s.state -> s1.deed .put s.cur = s1.addValue (repl s.cur):=fun s1 e1 => by
   show (if (s1.state == (Y "tag name")) = true then _ else if (s1.state == (Y "attribute name")) = true then _ else _:PS) = _
   rw [e1,f.st,if_neg (by decide),if_neg (by decide)]
 have low:∀ {σ2:Store} {s1:PS},TP σ2 τ s1 -> Fx σ σ2 -> s1.draft = some D -> s1.state = s.state -> (s.cur == (Y "\x00")) = false -> RF (J_unquoted_state_0 p (callK (P p) (d + 4)) [(Y "t",.ref 2 τ.i),(Y "c",.str s.cur)]) σ2 (Ends s τ σ (s1.deed .put s.cur)):=by
   intro σ2 s1 h2 x2 hd2 hs2 c4
   rw [Uca]
   delta J_unquoted_state_0_T0
   refine RF.add_value h2 hd2 ha (by have:=f.cl; omega) fun σ3 h3 x3 => RF.n ⟨rfl,?_,x2.trans x3⟩
   rw [hput s1 hs2]
   delta PS.addValue repl
   rw [if_neg (by rw [c4]; decide),Uc5 hd2 ha]
   exact h3
 delta F_unquoted_state
 refine RF.next h f.pos fun σ1 h1 x1 => ?_
 delta actBare
 refine RF.blank (fun c1 => ?_) fun c1 => ?_
 · refine gy c1 ?_
   exact RF.to h1 fun σ2 h2 x2 => RF.n ⟨rfl,h2,x1.trans x2⟩
 refine gn c1 ?_
 refine RF.eq (fun c2 => ?_) fun c2 => ?_
 · refine gy c2 ?_
   exact RF.refer h1 fun σ2 h2 x2 => RF.n ⟨rfl,h2,x1.trans x2⟩
 refine gn c2 ?_
 refine RF.eq (fun c3 => ?_) fun c3 => ?_
 · refine gy c3 ?_
   exact RF.finish h1 hd hk (by show s.out.length < lim; omega) (by show s.errs.length + 1 < lim; omega) (by omega) fun σ2 h2 x2 => RF.n ⟨rfl,h2,x1.trans x2⟩
 refine gn c3 ?_
 refine RF.eq (fun c4 => ?_) fun c4 => ?_
 · refine gy c4 ?_
   refine RF.error h1 (by show s.errs.length < lim; omega) fun σ2 h2 x2 => RF.add_value h2 hd ha (by show a.v.length + 1 <= lim; omega) fun σ3 h3 x3 => RF.n ⟨rfl,?_,x1.trans (x2.trans x3)⟩
   show TP σ3 τ ((s.nxt.error _).deed .put s.cur)
   rw [hput (s.nxt.error _) rfl]
   delta PS.addValue repl
   rw [if_pos c4,Uc5 (s:=s.nxt.error _) hd ha]
   exact h3
 refine gn c4 ?_
 refine RF.eq (fun c5 => ?_) fun c5 => ?_
 · refine gy c5 ?_
   exact RF.cut h1 (by show s.out.length < lim; omega) (by show s.errs.length < lim; omega) fun σ2 h2 x2 => RF.n ⟨rfl,h2,x1.trans x2⟩
 refine gn c5 ?_
 refine RF.mem (l:=["\"","'","<","=","`"]) rfl (fun c6 => ?_) fun c6 => ?_
 · refine gy c6 ?_
   exact RF.error h1 (by show s.errs.length < lim; omega) fun σ2 h2 x2 => low h2 (x1.trans x2) hd rfl c4
 refine gn c6 ?_
 exact low h1 x1 hd rfl c4
theorem Ujm (h:TP σ τ s) (f:Fit .aftVal s):RF (F_after_quoted_state p (callK (P p) (d + 4)) (.ref 2 τ.i)) σ (Ends s τ σ (s.go (actAftVal s.cur))):=by
 have ho:=f.out
 have he:=f.errs
 refine xEAAAAA (f.ds nofun nofun) fun D hd hk hl hn w0 => ?_
 delta F_after_quoted_state
 refine RF.next h f.pos fun σ1 h1 x1 => ?_
 delta actAftVal
 refine RF.blank (fun c1 => ?_) fun c1 => ?_
 · refine gy c1 ?_
   exact RF.to h1 fun σ2 h2 x2 => RF.n ⟨rfl,h2,x1.trans x2⟩
 refine gn c1 ?_
 refine RF.eq (fun c2 => ?_) fun c2 => ?_
 · refine gy c2 ?_
   exact RF.to h1 fun σ2 h2 x2 => RF.n ⟨rfl,h2,x1.trans x2⟩
 refine gn c2 ?_
 refine RF.eq (fun c4 => ?_) fun c4 => ?_
 · refine gy c4 ?_
   exact RF.finish h1 hd hk (by show s.out.length < lim; omega) (by show s.errs.length + 1 < lim; omega) (by omega) fun σ2 h2 x2 => RF.n ⟨rfl,h2,x1.trans x2⟩
 refine gn c4 ?_
 refine RF.eq (fun c5 => ?_) fun c5 => ?_
 · refine gy c5 ?_
   exact RF.cut h1 (by show s.out.length < lim; omega) (by show s.errs.length < lim; omega) fun σ2 h2 x2 => RF.n ⟨rfl,h2,x1.trans x2⟩
 refine gn c5 ?_
 exact RF.error h1 (by show s.errs.length < lim; omega) fun σ2 h2 x2 => RF.again h2 fun σ4 h4 x4 => RF.n ⟨rfl,h4,x1.trans (x2.trans x4)⟩
end
end Mine
end
section
open PySem PySem.W
namespace Mine
noncomputable def okL:List Nat:=[0,9,10,12,13,0xC9,0x212A,0xFFFD] ++ (List.range 95).map (· + 32)
noncomputable def feedL:Bool -> List Nat -> List Str
 | _,[] => []
 | r,c :: cs => (if c == 13 then [(Y "\n")] else if c != 10 || !r then [ch c] else []) ++ feedL (c == 13) cs
noncomputable def lastR (r:Bool) (cs:List Nat):Bool:=match cs.getLast? with
 | some c => c == 13
 | none => r
noncomputable def PS.feed (s:PS) (x:Str):PS:={ s with signs:=s.signs ++ feedL s.isret x.cps.toList,isret:=lastR s.isret x.cps.toList }
noncomputable def PS.end (s:PS):PS:={ s with closed:=true }
theorem Uex:∀ (r:Bool) (a b:List Nat),feedL r (a ++ b) = feedL r a ++ feedL (lastR r a) b
 | r,[],b => rfl
 | r,c :: cs,b => by
   have e:lastR (c == 13) cs = lastR r (c :: cs):=by
     delta lastR
     cases cs with
     | nil => rfl
     | cons x y =>
       rw [List.getLast?_cons_cons]
       cases h:(x :: y).getLast? with
       | none => rw [List.getLast?_eq_none_iff] at h; cases h
       | some z => rfl
   simp only [feedL,List.cons_append,Uex (c == 13) cs b,List.append_assoc,e]
theorem Uhv (r:Bool) (a b:List Nat):lastR r (a ++ b) = lastR (lastR r a) b:=by
 delta lastR
 cases h:b.getLast? with
 | none => rw [List.getLast?_eq_none_iff] at h; subst h; simp
 | some x => simp [h]
section
variable {p:Params} {σ σ' σ₁:Store} {τ:Rf} {t:TS} {s:PS} {n d:Nat} {D:PD} {dr:Dr} {init:List PA} {a:PA} {Q:V -> Store -> Prop} {k:V -> M Fl} {A B:M Fl}
theorem Um3:okL.map (fun n => callK (P p) (d + 2) a_input_error [.int (Int.ofNat n)] σ) = okL.map (fun w0 => some (V.str (Y ""),σ)):=by kernel_rfl
theorem Uge {n:Nat} (h:n ∈ okL):callK (P p) (d + 2) a_input_error [.int n] σ = some (.str "",σ):=by
 have:=List.map_inj_left.mp (Um3 (p:=p) (d:=d) (σ:=σ)) n h
 exact this
theorem TR.setSg {l:List Str} (h:TR σ τ t):TR (σ.put 7 τ.sg (.list (l.map .str))) τ { t with signs:=l } ∧ Fx σ (σ.put 7 τ.sg (.list (l.map .str))) :=
 ⟨⟨Uav.trans h.len,(Uac h.sg (by decide)).trans h.tok,(Uac h.sg (by decide)).trans h.str,Uam h.sg,(Uac h.sg (by decide)).trans h.se,(Uac h.sg (by decide)).trans h.out,(Uac h.sg (by decide)).trans h.err,
   (Uac h.sg (by decide)).trans h.sd,fun d e => (h.dr d e).put h.sg ⟨by decide,by decide,by decide⟩⟩,Fx.put rfl⟩
theorem TR.setStr {b c:Bool} (h:TR σ τ t):TR (σ.put 1 τ.s (.inst c_Stream (strEs τ { t with closed:=b,isret:=c }))) τ { t with closed:=b,isret:=c } ∧ Fx σ (σ.put 1 τ.s (.inst c_Stream (strEs τ { t with closed:=b,isret:=c }))) :=
 ⟨⟨Uav.trans h.len,(Uac h.str (by decide)).trans h.tok,Uam h.str,(Uac h.str (by decide)).trans h.sg,(Uac h.str (by decide)).trans h.se,(Uac h.str (by decide)).trans h.out,(Uac h.str (by decide)).trans h.err,
   (Uac h.str (by decide)).trans h.sd,fun d e => (h.dr d e).put h.str ⟨by decide,by decide,by decide⟩⟩,Fx.put rfl⟩
theorem Uml (h:TR σ τ t):∃ σ',setAttrV (P p) (.ref 1 τ.s) (Y "is_closed") (.bool true) σ = some ((),σ') ∧ TR σ' τ { t with closed:=true } ∧ Fx σ σ' :=
 ⟨_,Uae (es':=strEs τ { t with closed:=true,isret:=t.isret }) h.str (by kernel_rfl) (by show 4 < 100; decide) (by kernel_rfl),h.setStr⟩
theorem Ulo (h:TR σ τ t) (b:Bool):∃ σ',setAttrV (P p) (.ref 1 τ.s) (Y "is_return") (.bool b) σ = some ((),σ') ∧ TR σ' τ { t with isret:=b } ∧ Fx σ σ' :=
 ⟨_,Uae (es':=strEs τ { t with closed:=t.closed,isret:=b }) h.str (by kernel_rfl) (by show 4 < 100; decide) (by kernel_rfl),h.setStr⟩
theorem Run.ct {α:Type} {a b:M α} {Q:α -> Store -> Prop} (h:Run a σ Q):Run (cond true a b) σ Q:=h
theorem Run.cf {α:Type} {a b:M α} {Q:α -> Store -> Prop} (h:Run b σ Q):Run (cond false a b) σ Q:=h
noncomputable def Shape (τ:Rf) (x:Str) (fr:Fr):Prop:=fr = [(Y "self",.ref 1 τ.s),(Y "text",.str x)] ∨ (∃ v,fr = [(Y "self",.ref 1 τ.s),(Y "text",.str x),(Y "c",v)]) ∨
 ∃ v w,fr = [(Y "self",.ref 1 τ.s),(Y "text",.str x),(Y "c",v),(Y "code",w)]
noncomputable def Turned (τ:Rf) (x:Str) (σ:Store) (t:TS):Fl -> Store -> Prop:=fun fl σ' => ∃ fr',fl = .next fr' ∧ Shape τ x fr' ∧ TR σ' τ t ∧ Fx σ σ'
noncomputable def TS.add (t:TS) (l:List Str) (b:Bool):TS:={ t with signs:=t.signs ++ l,isret:=b }
theorem Uan (c k:Nat):(ch c == ch k) = (c == k):=by
 delta ch
 by_cases h:c = k
 · subst h; simp
 · have:(⟨#[c]⟩:Str) ≠ ⟨#[k]⟩:=fun e => h (by cases e; rfl)
   rw [beq_eq_false_iff_ne.mpr this,beq_eq_false_iff_ne.mpr h]
theorem Ukv {x:Str} {c:Nat} {l:List Str} (h:TR σ τ { t with signs:=t.signs ++ l }) (f:Fx σ₁ σ):Run (J_Stream_feed_2 p (callK (P p) d) [(Y "self",.ref 1 τ.s),(Y "text",.str x),(Y "c",.str (ch c))]) σ (Turned τ x σ₁ (t.add l (c == 13))):=by
 rw [Uc7]
 refine xEAAA (Ulo (p:=p) h (c == 13)) fun σ2 e2 h2 f2 => ?_
 exact Run.l (a:=c == 13) (congrArg some (Uan c 13)) (Run.b e2 (Run.next ⟨_,rfl,.inr (.inl ⟨_,rfl⟩),h2,f.trans f2⟩))
theorem Uhk {x:Str} {w:V} {c:Nat} {l:List Str} (h:TR σ τ { t with signs:=t.signs ++ l }) (f:Fx σ₁ σ):Run (J_Stream_feed_2 p (callK (P p) d) [(Y "self",.ref 1 τ.s),(Y "text",.str x),(Y "c",.str (ch c)),(Y "code",w)]) σ (Turned τ x σ₁ (t.add l (c == 13))):=by
 rw [Udp]
 refine xEAAA (Ulo (p:=p) h (c == 13)) fun σ2 e2 h2 f2 => ?_
 exact Run.l (a:=c == 13) (congrArg some (Uan c 13)) (Run.b e2 (Run.next ⟨_,rfl,.inr (.inr ⟨_,_,rfl⟩),h2,f.trans f2⟩))
theorem app_sg (h:TR σ τ t) (x:Str) (hl:t.signs.length < lim) {c:CC}:∃ σ',methodV c (.bi .append) (.ref 7 τ.sg) [.str x] σ = some (.none,σ') ∧ TR σ' τ { t with signs:=t.signs ++ [x] } ∧ Fx σ σ':=by
 have:=h.setSg (l:=t.signs ++ [x])
 rw [List.map_append] at this
 exact ⟨_,Uai h.sg (by rw [List.length_map]; exact hl),this⟩
theorem Uiq {x:Str} {w:V} {c:Nat} (h:TR σ τ t) (f:Fx σ₁ σ) (hl:t.signs.length < lim):Run (J_Stream_feed_3 p (callK (P p) d) [(Y "self",.ref 1 τ.s),(Y "text",.str x),(Y "c",.str (ch c)),(Y "code",w)]) σ (Turned τ x σ₁ (t.add [ch c] (c == 13))):=by
 rw [Udm]
 delta J_Stream_feed_3_T0
 refine xEAAA (app_sg h (ch c) hl (c:=callK (P p) d)) fun σ2 e2 h2 f2 => ?_
 exact Run.b (Ud4 h) (Run.app h.sg (Run.b e2 (Uhk h2 (f.trans f2))))
theorem ord_of (c:Nat):builtinV .ord [.str (ch c)] σ = some (.int c,σ):=rfl
theorem Ug6 {x:Str} {w:V} {c:Nat} (h:TR σ τ t) (hl:t.signs.length < lim) (hc:c ∈ okL):Run (T_Stream_feed_l0_0 p (callK (P p) (d + 2)) (.ref 1 τ.s) (.str x) (.str (ch c))) σ
   (Turned τ x σ (t.add (if c == 13 then [(Y "\n")] else if c != 10 || !t.isret then [ch c] else []) (c == 13))):=by
 delta T_Stream_feed_l0_0
 refine Run.l (a:=c == 13) (congrArg some (Uan c 13)) ?_
 cases c13:c == 13 with
 | true =>
   refine xEAAA (app_sg h (Y "\n") hl (c:=callK (P p) (d + 2))) fun σ2 e2 h2 f2 => ?_
   refine Run.pos rfl (Run.b (Ud4 h) (Run.app h.sg (Run.b e2 ?_)))
   have:=Ukv (p:=p) (d:=d + 2) (x:=x) (c:=c) (t:=t) (l:=["\n"]) h2 f2
   rw [c13] at this
   exact this
 | false =>
   have two:∀ {w:V},Run (bnd (builtinV .ord [V.str (ch c)]) fun x8 => bnd (callK (P p) (d + 2) a_input_error [x8]) fun x9 => bnd (look (cmpV .NotEq x9 (.str (Y "")))) fun x10 =>
       (if x10 then fail else J_Stream_feed_3 p (callK (P p) (d + 2)) [(Y "self",.ref 1 τ.s),(Y "text",.str x),(Y "c",.str (ch c)),(Y "code",x9)])) σ (Turned τ x σ (t.add [ch c] false)):=by
     intro w
     refine Run.b (ord_of c) (Run.b (Uge hc) (Run.l (a:=false) (by kernel_rfl) (Run.neg Bool.false_ne_true ?_)))
     have:=Uiq (p:=p) (d:=d + 2) (x:=x) (w:=.str "") (c:=c) h Fx.rfl hl
     rw [c13] at this
     exact this
   have three:∀ (K:V -> V -> M Fl),Run (bnd (builtinV .ord [V.str (ch c)]) fun x8 => bnd (callK (P p) (d + 2) a_input_error [x8]) fun x9 => bnd (look (cmpV .NotEq x9 (.str (Y "")))) fun x10 =>
       (if x10 then K x8 x9 else J_Stream_feed_3 p (callK (P p) (d + 2)) [(Y "self",.ref 1 τ.s),(Y "text",.str x),(Y "c",.str (ch c)),(Y "code",x9)])) σ (Turned τ x σ (t.add [ch c] false)):=by
     intro K
     refine Run.b (ord_of c) (Run.b (Uge hc) (Run.l (a:=false) (by kernel_rfl) (Run.neg Bool.false_ne_true ?_)))
     have:=Uiq (p:=p) (d:=d + 2) (x:=x) (w:=.str "") (c:=c) h Fx.rfl hl
     rw [c13] at this
     exact this
   refine Run.neg Bool.false_ne_true (Run.l (a:=!(c == 10)) (congrArg (fun b => some (!b)) (Uan c 10)) ?_)
   simp only [Bool.false_eq_true,if_false]
   cases c10:c == 10 with
   | false =>
     have e:(c != 10 || !t.isret) = true:=by simp only [bne,c10]; rfl
     rw [e]
     exact Run.ct (three _)
   | true =>
     have e:(c != 10 || !t.isret) = !t.isret:=by simp only [bne,c10]; rfl
     rw [e]
     refine Run.cf (Run.b (Ufe h) ?_)
     show Run (cond (!t.isret) _ _) σ _
     cases hr:t.isret with
     | false =>
       exact Run.ct (three _)
     | true =>
       have:=Ukv (p:=p) (d:=d + 2) (x:=x) (c:=c) (t:=t) (l:=[]) (by rw [List.append_nil]; exact h) Fx.rfl
       rw [c13] at this
       exact Run.cf this
theorem Ukj {x:Str} {w:V} {c:Nat} (h:TR σ τ t) (hl:t.signs.length < lim) (hc:c ∈ okL):Run (T_Stream_feed_l0_1 p (callK (P p) (d + 2)) (.ref 1 τ.s) (.str x) (.str (ch c)) w) σ
   (Turned τ x σ (t.add (if c == 13 then [(Y "\n")] else if c != 10 || !t.isret then [ch c] else []) (c == 13))):=by
 delta T_Stream_feed_l0_1
 refine Run.l (a:=c == 13) (congrArg some (Uan c 13)) ?_
 cases c13:c == 13 with
 | true =>
   refine xEAAA (app_sg h (Y "\n") hl (c:=callK (P p) (d + 2))) fun σ2 e2 h2 f2 => ?_
   refine Run.pos rfl (Run.b (Ud4 h) (Run.app h.sg (Run.b e2 ?_)))
   have:=Uhk (p:=p) (d:=d + 2) (x:=x) (w:=w) (c:=c) (t:=t) (l:=["\n"]) h2 f2
   rw [c13] at this
   exact this
 | false =>
   have two:∀ {w:V},Run (bnd (builtinV .ord [V.str (ch c)]) fun x8 => bnd (callK (P p) (d + 2) a_input_error [x8]) fun x9 => bnd (look (cmpV .NotEq x9 (.str (Y "")))) fun x10 =>
       (if x10 then fail else J_Stream_feed_3 p (callK (P p) (d + 2)) [(Y "self",.ref 1 τ.s),(Y "text",.str x),(Y "c",.str (ch c)),(Y "code",x9)])) σ (Turned τ x σ (t.add [ch c] false)):=by
     intro w
     refine Run.b (ord_of c) (Run.b (Uge hc) (Run.l (a:=false) (by kernel_rfl) (Run.neg Bool.false_ne_true ?_)))
     have:=Uiq (p:=p) (d:=d + 2) (x:=x) (w:=.str "") (c:=c) h Fx.rfl hl
     rw [c13] at this
     exact this
   have three:∀ (K:V -> V -> M Fl),Run (bnd (builtinV .ord [V.str (ch c)]) fun x8 => bnd (callK (P p) (d + 2) a_input_error [x8]) fun x9 => bnd (look (cmpV .NotEq x9 (.str (Y "")))) fun x10 =>
       (if x10 then K x8 x9 else J_Stream_feed_3 p (callK (P p) (d + 2)) [(Y "self",.ref 1 τ.s),(Y "text",.str x),(Y "c",.str (ch c)),(Y "code",x9)])) σ (Turned τ x σ (t.add [ch c] false)):=by
     intro K
     refine Run.b (ord_of c) (Run.b (Uge hc) (Run.l (a:=false) (by kernel_rfl) (Run.neg Bool.false_ne_true ?_)))
     have:=Uiq (p:=p) (d:=d + 2) (x:=x) (w:=.str "") (c:=c) h Fx.rfl hl
     rw [c13] at this
     exact this
   refine Run.neg Bool.false_ne_true (Run.l (a:=!(c == 10)) (congrArg (fun b => some (!b)) (Uan c 10)) ?_)
   simp only [Bool.false_eq_true,if_false]
   cases c10:c == 10 with
   | false =>
     have e:(c != 10 || !t.isret) = true:=by simp only [bne,c10]; rfl
     rw [e]
     exact Run.ct (three _)
   | true =>
     have e:(c != 10 || !t.isret) = !t.isret:=by simp only [bne,c10]; rfl
     rw [e]
     refine Run.cf (Run.b (Ufe h) ?_)
     show Run (cond (!t.isret) _ _) σ _
     cases hr:t.isret with
     | false =>
       exact Run.ct (three _)
     | true =>
       have:=Uhk (p:=p) (d:=d + 2) (x:=x) (w:=w) (c:=c) (t:=t) (l:=[]) (by rw [List.append_nil]; exact h) Fx.rfl
       rw [c13] at this
       exact Run.cf this
theorem Ufk (h:TR σ τ t) (hc:t.closed = false) (x:Str) (hx:∀ c ∈ x.cps.toList,c ∈ okL) (hl:t.signs.length + x.cps.toList.length < 5000) :
   Run (callK (P p) (d + 3) a_Stream_feed [.ref 1 τ.s,.str x]) σ fun v σ' => v = .none ∧ TR σ' τ (t.add (feedL t.isret x.cps.toList) (lastR t.isret x.cps.toList)) ∧ Fx σ σ':=by
 rw [Ugt]
 show RF _ σ _
 delta F_Stream_feed
 refine RF.b (Ue6 h) ?_
 rw [hc]
 refine RF.neg Bool.false_ne_true ?_
 rw [Uc9]
 delta J_Stream_feed_0_T0
 have fl:∀ (r:Bool) (l:List Nat),(feedL r l).length <= l.length:=by
   intro r l
   induction l generalizing r with
   | nil => exact Nat.le_refl 0
   | cons c cs ih =>
     simp only [feedL,List.length_cons,List.length_append]
     have:=ih (c == 13)
     have h1:(if (c == 13) = true then [(Y "\n")] else if (c != 10 || !r) = true then [ch c] else []).length <= 1:=by
       split
       · exact Nat.le_refl 1
       · split
         · exact Nat.le_refl 1
         · exact Nat.zero_le 1
     omega
 refine forRun (fun k fr s => TR s τ (t.add (feedL t.isret (x.cps.toList.take k)) (lastR t.isret (x.cps.toList.take k))) ∧ Fx σ s ∧ Shape τ x fr)
   (x.cps.toList.map fun c => .str (ch c)) ⟨by simpa [feedL,lastR,TS.add] using h,Fx.rfl,.inl rfl⟩ (by rw [List.length_map]; omega) (fun k v fr s hv hI => ?_) (fun fr s hI => ?_) fun fr s hI => ?_
 · refine xAAA hI fun hT hX hfr => ?_
   rw [List.getElem?_map] at hv
   obtain ⟨c,hcc,rfl⟩:=Option.map_eq_some_iff.mp hv
   have hk:k < x.cps.toList.length:=by rw [List.getElem?_eq_some_iff] at hcc; exact hcc.1
   have hc':x.cps.toList[k] = c:=by rw [List.getElem?_eq_some_iff] at hcc; exact hcc.2
   have hm:c ∈ okL:=hx c (List.mem_of_getElem? hcc)
   refine ⟨Uh1 (by rw [<- hcc]; simp),?_⟩
   have hll:(t.add (feedL t.isret (x.cps.toList.take k)) (lastR t.isret (x.cps.toList.take k))).signs.length < lim:=by
     have h1:=fl t.isret (x.cps.toList.take k)
     have h2:=List.length_take_le k x.cps.toList
     show (t.signs ++ _).length < lim
     rw [List.length_append]
     delta lim
     omega
   have tk:t.add (feedL t.isret (x.cps.toList.take (k + 1))) (lastR t.isret (x.cps.toList.take (k + 1))) =
       (t.add (feedL t.isret (x.cps.toList.take k)) (lastR t.isret (x.cps.toList.take k))).add (if c == 13 then [(Y "\n")] else if c != 10 || !(lastR t.isret (x.cps.toList.take k)) then [ch c] else []) (c == 13):=by
     rw [List.take_succ_eq_append_getElem hk,Uex,Uhv,hc']
     simp [TS.add,feedL,lastR]
   have done:∀ {fl:Fl} {s':Store},Turned τ x s ((t.add (feedL t.isret (x.cps.toList.take k)) (lastR t.isret (x.cps.toList.take k))).add (if c == 13 then [(Y "\n")] else if c != 10 || !(lastR t.isret (x.cps.toList.take k)) then [ch c] else []) (c == 13)) fl s' ->
       (∃ fr',fl = .next fr' ∧ TR s' τ (t.add (feedL t.isret (x.cps.toList.take (k + 1))) (lastR t.isret (x.cps.toList.take (k + 1)))) ∧ Fx σ s' ∧ Shape τ x fr') ∨ ∃ v,fl = .ret v ∧ (v = V.none ∧ TR s' τ (t.add (feedL t.isret x.cps.toList) (lastR t.isret x.cps.toList)) ∧ Fx σ s'):=by
     intro fl s' ⟨fr',e,sh,hT',f'⟩
     exact .inl ⟨fr',e,by rw [tk]; exact hT',hX.trans f',sh⟩
   rcases hfr with rfl | ⟨v,rfl⟩ | ⟨v,w,rfl⟩
   · exact ⟨[(Y "self",.ref 1 τ.s),(Y "text",.str x),(Y "c",.str (ch c))],by rw [Ufc (by kernel_rfl)]; kernel_rfl,by rw [Ua0]; exact (Ug6 (w:=.none) hT hll hm).mono fun fl s' h => done h⟩
   · exact ⟨[(Y "self",.ref 1 τ.s),(Y "text",.str x),(Y "c",.str (ch c))],by rw [Ufc (by kernel_rfl)]; kernel_rfl,by rw [Ua0]; exact (Ug6 (w:=.none) hT hll hm).mono fun fl s' h => done h⟩
   · exact ⟨[(Y "self",.ref 1 τ.s),(Y "text",.str x),(Y "c",.str (ch c)),(Y "code",w)],by rw [Ufc (by kernel_rfl)]; kernel_rfl,by rw [Uci]; exact (Ukj hT hll hm).mono fun fl s' h => done h⟩
 · exact Ume (by simp)
 · obtain ⟨hT,hX,hfr⟩:=hI
   rw [List.length_map,List.take_length] at hT
   rcases hfr with rfl | ⟨v,rfl⟩ | ⟨v,w,rfl⟩
   · rw [Udb]; exact RF.n ⟨rfl,hT,hX⟩
   · rw [Udo]; exact RF.n ⟨rfl,hT,hX⟩
   · rw [Uc6]; exact RF.n ⟨rfl,hT,hX⟩
theorem Up1 (h:TP σ τ s) (hc:s.closed = false) (x:Str) (hx:∀ c ∈ x.cps.toList,c ∈ okL) (hl:s.signs.length + x.cps.toList.length < 5000) :
   Run (callK (P p) (d + 4) a_Tokenizer_feed [.ref 2 τ.i,.str x]) σ fun v σ' => v = .none ∧ TP σ' τ (s.feed x) ∧ Fx σ σ':=by
 rw [Ue4]
 show RF _ σ _
 delta F_Tokenizer_feed
 obtain ⟨t,h,hw,rfl⟩:=h
 refine RF.b (Ubs h) (RF.mk (Usk h) (RF.c (Ufk h hc x hx hl) fun v σ' ⟨e,h',f⟩ => ?_))
 subst e
 obtain ⟨σ2,e2,h2,f2⟩:=Ucc (p:=p) h' false
 exact RF.b e2 (RF.n ⟨rfl,⟨_,h2,rfl,rfl⟩,f.trans f2⟩)
theorem Urd (h:TP σ τ s):Run (callK (P p) (d + 2) a_Tokenizer_end [.ref 2 τ.i]) σ fun v σ' => v = .none ∧ TP σ' τ s.end ∧ Fx σ σ':=by
 rw [Ufh]
 show RF _ σ _
 delta F_Tokenizer_end
 obtain ⟨t,h,hw,rfl⟩:=h
 obtain ⟨σ1,e1,h1,f1⟩:=Uml (p:=p) h
 obtain ⟨σ2,e2,h2,f2⟩:=Ucc (p:=p) h1 false
 refine RF.b (Ubs h) (RF.mk (ms_end h) (RF.b (a:=.none) (σ₁:=σ1) ?_ (RF.b e2 (RF.n ⟨rfl,⟨_,h2,rfl,rfl⟩,f1.trans f2⟩))))
 show callK (P p) (d + 1) a_Stream_end [.ref 1 τ.s] σ = _
 rw [Uhj]
 delta F_Stream_end
 refine ba_of e1 ?_
 rfl
end
end Mine
end
section
open PySem PySem.W
namespace Mine
noncomputable def PS.step (s:PS):PS:=match ofStr s.state with
 | some q => s.go (act q s.cur)
 | none => s
noncomputable def PS.ready (s:PS):Bool:=!s.done && ((ofStr s.state).isSome && (s.closed || decide (s.pos < s.signs.length)))
noncomputable def PS.fit (s:PS):Prop:=∃ q,Fit q s
inductive Runs:PS -> Nat -> PS -> Prop
 | stop {s:PS}:s.ready = false -> Runs s 0 s
 | go {s s':PS} {n:Nat}:s.ready = true -> s.fit -> Runs s.step n s' -> Runs s (n + 1) s'
theorem Uor {α β:Type} (f:β -> Str) (g:β -> α) (x:Str):∀ l:List β,lk x (l.map fun q => (f q,g q)) = (l.find? fun q => f q == x).map g
 | [] => rfl
 | q :: r => by
   simp only [List.map_cons,lk,List.find?_cons,Uor f g x r]
   cases f q == x <;> rfl
theorem Uom (x:Str):lk x stEs = (ofStr x).map fun q => .fn q.addr:=by
 have e:stEs = allSt.map fun q => (q.str,V.fn q.addr):=by kernel_rfl
 rw [e,Uor]; rfl
theorem Uaq (q:St):ofStr q.str = some q:=by cases q <;> kernel_rfl
section
variable {p:Params} {σ σ' σ₁:Store} {τ:Rf} {t:TS} {s s':PS} {n d:Nat} {D:PD} {dr:Dr} {init:List PA} {a:PA} {Q:V -> Store -> Prop} {k:V -> M Fl} {A B:M Fl}
theorem Uow {q:St} (h:TP σ τ s) (f:Fit q s):Run (callK (P p) (d + 5) q.addr [.ref 2 τ.i]) σ (Ends s τ σ (s.go (act q s.cur))):=by
 cases q with
 | tagOpen => show Run (callK (P p) (d + 5) a_tag_open_state _) σ _; rw [Ue8]; exact Uhx (d:=d + 1) h f
 | endOpen => show Run (callK (P p) (d + 5) a_end_tag_open_state _) σ _; rw [Ucs]; exact Uh9 (d:=d + 1) h f
 | tagName => show Run (callK (P p) (d + 5) a_tag_name_state _) σ _; rw [Ue1]; exact Uhy (d:=d + 1) h f
 | self => show Run (callK (P p) (d + 5) a_self_closing_state _) σ _; rw [Uc2]; exact Up7 (d:=d + 1) h f
 | befName => show Run (callK (P p) (d + 5) a_before_attr_name_state _) σ _; rw [Ubw]; exact Uic (d:=d + 1) h f
 | name => show Run (callK (P p) (d + 5) a_attr_name_state _) σ _; rw [Ueh]; exact Uqj (d:=d + 1) h f
 | aftName => show Run (callK (P p) (d + 5) a_after_attr_name_state _) σ _; rw [Ub6]; exact Uhm (d:=d) h f
 | befVal => show Run (callK (P p) (d + 5) a_before_attr_value_state _) σ _; rw [Ubo]; exact Uj4 (d:=d) h f
 | dq => show Run (callK (P p) (d + 5) a_double_quoted_state _) σ _; rw [Uco]; exact dq_run (d:=d) h f
 | sq => show Run (callK (P p) (d + 5) a_single_quoted_state _) σ _; rw [Ucm]; exact sq_run (d:=d) h f
 | bare => show Run (callK (P p) (d + 5) a_unquoted_state _) σ _; rw [Uez]; exact Uqi (d:=d) h f
 | aftVal => show Run (callK (P p) (d + 5) a_after_quoted_state _) σ _; rw [Ucq]; exact Ujm (d:=d) h f
theorem Uj8 {q:St} {c:CC} {vs:List V}:applyV (P p) c (.fn q.addr) vs = c q.addr vs:=by
 have e:lkN q.addr clsL = none:=by cases q <;> kernel_rfl
 show (match lkN q.addr clsL with | some c => _ | none => _) = _
 rw [e]
theorem Upa (h:TP σ τ s) (f:s.fit):Run (callK (P p) (d + 6) a_Tokenizer_step [.ref 2 τ.i]) σ (Ends s τ σ s.step):=by
 refine xEA f fun q f => ?_
 have es:s.step = s.go (act q s.cur):=by delta PS.step; rw [f.st,Uaq]
 have hlk:lk s.state stEs = some (.fn q.addr):=by rw [f.st,Uom,Uaq]; rfl
 rw [es,Ufa]
 show RF _ σ _
 delta F_Tokenizer_step
 obtain ⟨t,h,hw,rfl⟩:=h
 have hlk:lk t.state stEs = some (.fn q.addr):=hlk
 refine RF.b (Uev h) (RF.b (Uf2 h) (RF.l (a:=false) (by show (inV σ _ _).map (!·) = _; rw [Uog h.sd,hlk]; rfl) (RF.neg Bool.false_ne_true ?_)))
 rw [Ucd]
 delta J_Tokenizer_step_0_T0
 refine xEAAA (Ucc (p:=p) h false) fun σ1 e1 h1 f1 => ?_
 refine RF.b e1 (RF.b (ga_at h1) (RF.b (Uf2 h1) (RF.b (Uev h1) (RF.l (a:=.fn q.addr) (Urk h1.sd hlk) ?_))))
 have hp:TP σ1 τ t.pl:=⟨_,h1,rfl,rfl⟩
 rw [Uj8]
 refine RF.c (Uow (p:=p) (d:=d) hp f) fun v σ2 ⟨ev,⟨t2,h2,w2,e2⟩,f2⟩ => ?_
 refine RF.b (Ud8 h2) ?_
 show RF (if t2.waiting = true then _ else _) σ2 _
 rw [w2]
 exact RF.neg Bool.false_ne_true (RF.n ⟨rfl,⟨t2,h2,w2,e2⟩,f1.trans f2⟩)
theorem Umn (h:TP σ τ s):callK (P p) (d + 1) a_Tokenizer_is_ready [.ref 2 τ.i] σ = some (.bool s.ready,σ):=by
 obtain ⟨t,h,hw,rfl⟩:=h
 have e:RF (F_Tokenizer_is_ready p (callK (P p) d) (.ref 2 τ.i)) σ fun v σ' => v = .bool t.pl.ready ∧ σ' = σ:=by
   delta F_Tokenizer_is_ready PS.ready
   refine RF.b (Ugm h) ?_
   show RF (cond t.done _ _) σ _
   show RF _ σ fun v σ' => v = .bool (!t.done && ((ofStr t.state).isSome && (t.closed || decide (t.pos < t.signs.length)))) ∧ σ' = σ
   cases hd:t.done with
   | true => exact RF.r ⟨rfl,rfl⟩
   | false =>
     show RF (bnd (attrV (P p) (.ref 2 τ.i) (Y "is_waiting")) _) σ _
     refine RF.b (Ud8 h) ?_
     show RF (cond t.waiting _ _) σ _
     rw [hw]
     show RF (bnd (attrV (P p) (.ref 2 τ.i) (Y "state")) _) σ _
     refine RF.b (Uev h) (RF.b (Uf2 h) (RF.l (a:=!(ofStr t.state).isSome) (by show (inV σ _ _).map (!·) = _; rw [Uog h.sd,Uom]; cases ofStr t.state <;> rfl) ?_))
     cases ho:(ofStr t.state).isSome with
     | false => exact RF.r ⟨rfl,rfl⟩
     | true =>
       show RF (J_Tokenizer_is_ready_0 p _ _) σ _
       rw [Ubj]
       delta J_Tokenizer_is_ready_0_T0
       refine RF.b (Ubs h) (RF.b (Ue6 h) ?_)
       show RF (cond t.closed _ _) σ _
       cases hc:t.closed with
       | true => exact RF.r ⟨rfl,rfl⟩
       | false =>
         show RF (bnd (attrV (P p) (.ref 2 τ.i) (Y "at")) _) σ _
         refine RF.b (ga_at h) (RF.b (Ubs h) (RF.b (Ud4 h) (RF.b (len_list h.sg) (RF.l (a:=decide (t.pos < t.signs.length)) (by rw [List.length_map]; rfl) (RF.r ⟨rfl,rfl⟩)))))
 rw [Uc3]
 refine xEEAAA e fun v σ' e qz1 qz2 => ?_; subst qz1; subst qz2
 exact e
theorem Uql (r:Runs s n s'):∀ {σ:Store} {m:Nat},TP σ τ s -> n < m ->
   Run (loopW (testL (P p) (callK (P p) (d + 6)) (sc_Tokenizer_run p) 58 (st_Tokenizer_run_l0 p)) (turnL (P p) (callK (P p) (d + 6)) (sc_Tokenizer_run p) 58 (st_Tokenizer_run_l0 p)) m [(Y "self",.ref 2 τ.i)]) σ
     fun fl σ' => fl = .next [(Y "self",.ref 2 τ.i)] ∧ TP σ' τ s' ∧ Fx σ σ':=by
 have test:∀ {s:PS} {σ:Store},TP σ τ s -> testL (P p) (callK (P p) (d + 6)) (sc_Tokenizer_run p) 58 (st_Tokenizer_run_l0 p) [(Y "self",.ref 2 τ.i)] σ = some (s.ready,σ):=by
   intro s σ h
   rw [Ub3]
   delta Q_Tokenizer_run_l0_0
   have hr:=Umn (p:=p) (d:=d + 5) h
   obtain ⟨t,h,hw,rfl⟩:=h
   have e:Run (bnd (look (methK (P p) (.ref 2 τ.i) (Y "is_ready"))) fun x3 => if isRepl x3 then fail else bnd (methodV (callK (P p) (d + 6)) x3 (.ref 2 τ.i) []) fun x4 => (match isT x4 with
     | some x5 => ret (Fl.ret (.bool x5))
     | none => fail)) σ fun fl σ' => fl = .ret (.bool t.pl.ready) ∧ σ' = σ:=Run.m (Uju h) (Run.b hr ⟨_,_,rfl,rfl,rfl⟩)
   refine xEEAAA e fun fl σ' e qz1 qz2 => ?_; subst qz1; subst qz2
   exact bnd_of e
 induction r with
 | stop hs =>
   intro σ m h hm
   obtain ⟨m,rfl⟩:∃ k,m = k + 1:=⟨m - 1,by omega⟩
   rw [loopW]
   refine Run.b (test h) ?_
   rw [hs]
   exact Run.neg Bool.false_ne_true (Run.r ⟨rfl,h,Fx.rfl⟩)
 | @go u u' m' hs hf r ih =>
   intro σ m h hm
   obtain ⟨m,rfl⟩:∃ k,m = k + 1:=⟨m - 1,by omega⟩
   rw [loopW]
   refine Run.b (test h) ?_
   rw [hs]
   refine Run.pos rfl ?_
   rw [Ub5]
   delta T_Tokenizer_run_l0_0
   have hstep:=Upa (p:=p) (d:=d) h hf
   refine Run.c (Q₁:=fun fl σ' => fl = .next [(Y "self",.ref 2 τ.i)] ∧ TP σ' τ u.step ∧ Fx σ σ') ?_ fun fl σ1 qq => xAAA qq fun e h1 f1 => ?_
   · obtain ⟨t,h,hw,rfl⟩:=h
     exact Run.m (Uq8 h) (Run.c hstep fun v σ1 ⟨e,h1,f1⟩ => Run.next ⟨rfl,h1,f1⟩)
   · subst e
     exact (ih h1 (by omega)).mono fun fl σ2 qq => xAAA qq fun e h2 f2 => ⟨e,h2,f1.trans f2⟩
theorem Uoo (h:TP σ τ s) (r:Runs s n s') (hn:n < 5000):Run (callK (P p) (d + 7) a_Tokenizer_run [.ref 2 τ.i]) σ fun v σ' => v = .bool s'.done ∧ TP σ' τ s' ∧ Fx σ σ':=by
 rw [Ufi]
 show RF _ σ _
 delta F_Tokenizer_run
 refine RF.c (Uql r h hn) fun fl σ1 qq => xAAA qq fun e h1 f1 => ?_
 subst e
 show RF (J_Tokenizer_run_0 p _ _) σ1 _
 rw [Ucl]
 refine xEAAA h1 fun t h hw qz1 => ?_; subst qz1
 exact RF.b (Ugm h) (RF.r ⟨rfl,⟨t,h,hw,rfl⟩,f1⟩)
end
end Mine
end
section
open PySem PySem.W
namespace Mine
noncomputable def PS.new (state last:Str):PS:=⟨0,state,"data",last,[],[],none,false,[],false,false,[]⟩
section
variable {p:Params} {σ σ' σ₁:Store} {τ:Rf} {t:TS} {s s':PS} {n d:Nat} {Q:V -> Store -> Prop} {k:V -> M Fl}
theorem Uag {r i r' i':Nat} {o:Ob} (hr:r' ≠ r):(σ.put r i o).get r' i' = σ.get r' i':=by delta Store.get; rw [Uce hr]
theorem Uad {r r' i':Nat} {o:Ob} (hr:r' ≠ r):(σ.add r o).get r' i' = σ.get r' i':=by delta Store.get; rw [Ucp hr]
theorem Fx.put' {r i:Nat} {o:Ob} (f:Fx σ₁ σ) (h:tokR r = true):Fx σ₁ (σ.put r i o):=f.trans (Fx.put h)
theorem Fx.add' {r:Nat} {o:Ob} (f:Fx σ₁ σ) (h:tokR r = true):Fx σ₁ (σ.add r o):=f.trans (Fx.add h)
theorem RF.nl {r:Nat} {vs:List V} (hlen:σ.length = 24) (hr:r < 24) (g:∀ i,(σ.add r (.list vs)).get r i = some (.list vs) -> (∀ r' i' o,σ.get r' i' = some o -> (σ.add r (.list vs)).get r' i' = some o) -> RF (k (.ref r i)) (σ.add r (.list vs)) Q):RF (bnd (newL r vs) k) σ Q:=by
 refine xEA (reg_of hlen hr) fun l hl => ?_
 exact RF.b (Ugx hl) (g l.length (Ubd hl) fun r' i' o e => Ubq hl e)
theorem Ufj {i:Nat} (h0:σ.get 1 i = some (.inst c_Stream [])) (hlen:σ.length = 24):Run (callK (P p) (d + 1) a_Stream_init [.ref 1 i]) σ fun v σ' => v = .none ∧ (∃ sg se,σ'.length = 24 ∧
   σ'.get 1 i = some (.inst c_Stream [(Y "signs",.ref 7 sg),(Y "is_closed",.bool false),(Y "is_return",.bool false),(Y "errors",.ref 8 se)]) ∧ σ'.get 7 sg = some (.list []) ∧ σ'.get 8 se = some (.list []) ∧ (∀ r,r ≠ 1 -> r ≠ 7 -> r ≠ 8 -> σ'[r]? = σ[r]?)):=by
 rw [Ugp]
 show RF _ σ _
 delta F_Stream_init
 refine RF.nl hlen (by decide) fun sg h7 o7 => ?_
 refine RF.sg (o7 _ _ _ h0) (by kernel_rfl) (by kernel_rfl) fun h1 => RF.sg h1 (by kernel_rfl) (by kernel_rfl) fun h2 => RF.sg h2 (by kernel_rfl) (by kernel_rfl) fun h3 => ?_
 refine RF.nl (by simp only [Uav,Ubi]; exact hlen) (by decide) fun se h8 o8 => ?_
 refine RF.sg (o8 _ _ _ h3) (by kernel_rfl) (by kernel_rfl) fun h4 => RF.n ⟨rfl,sg,se,by simp only [Uav,Ubi]; exact hlen,?_,?_,?_,?_⟩
 · rw [h4]
   have e:∀ a b:V,setK (Y "errors") b (setK (Y "is_return") (.bool false) (setK (Y "is_closed") (.bool false) (setK (Y "signs") a []))) = [(Y "signs",a),(Y "is_closed",.bool false),(Y "is_return",.bool false),(Y "errors",b)]:=fun a b => by kernel_rfl
   exact congrArg (fun q => some (Ob.inst c_Stream q)) (e _ _)
 · repeat first | rw [Uag (by decide)] | rw [Uad (by decide)]
   exact h7
 · rw [Uag (by decide)]
   exact h8
 · intro r r1 r7 r8
   simp only [Uce r1,Ucp r7,Ucp r8]
theorem Umg (hlen:σ.length = 24):Run (applyV (P p) (callK (P p) (d + 1)) (.fn c_Stream) []) σ fun v σ' => ∃ i sg se,v = .ref 1 i ∧ σ'.length = 24 ∧
   σ'.get 1 i = some (.inst c_Stream [(Y "signs",.ref 7 sg),(Y "is_closed",.bool false),(Y "is_return",.bool false),(Y "errors",.ref 8 se)]) ∧ σ'.get 7 sg = some (.list []) ∧ σ'.get 8 se = some (.list []) ∧ (∀ r,r ≠ 1 -> r ≠ 7 -> r ≠ 8 -> σ'[r]? = σ[r]?):=by
 refine xEA (reg_of (r:=1) (σ:=σ) hlen (by decide)) fun l hl => ?_
 refine (new_of (f:=a_Stream_init) (R:=fun σ' => ∃ sg se,σ'.length = 24 ∧
   σ'.get 1 l.length = some (.inst c_Stream [(Y "signs",.ref 7 sg),(Y "is_closed",.bool false),(Y "is_return",.bool false),(Y "errors",.ref 8 se)]) ∧ σ'.get 7 sg = some (.list []) ∧ σ'.get 8 se = some (.list []) ∧ (∀ r,r ≠ 1 -> r ≠ 7 -> r ≠ 8 -> σ'[r]? = σ[r]?)) (by kernel_rfl) hl ?_).mono fun v σ' qq => xAEEA qq fun e sg se h => ⟨l.length,sg,se,e,h⟩
 refine (Ufj (Ubd hl) (Ubi.trans hlen)).mono fun v σ' qq => xAEEAAAAA qq fun e sg se h1 h2 h3 h4 h5 => ⟨e,sg,se,h1,h2,h3,h4,fun r r1 r7 r8 => (h5 r r1 r7 r8).trans (Ucp r1)⟩
theorem Uhu {i sd:Nat} {state last:Str} (h0:σ.get 2 i = some (.inst c_Tokenizer [])) (hlen:σ.length = 24) (hsd:σ.get 3 sd = some (.dict stEs)) :
   Run (bnd (F_Tokenizer_init p (callK (P p) (d + 1)) (.ref 2 i) (.ref 3 sd) (.str state) (.str last)) unFl) σ fun v σ' => v = .none ∧ (∃ τ:Rf,τ.i = i ∧ TP σ' τ (PS.new state last)) ∧ Fx σ σ':=by
 show RF _ σ _
 delta F_Tokenizer_init
 refine RF.sg h0 (by kernel_rfl) (by kernel_rfl) fun h1 => RF.c (Umg (by simp only [Uav]; exact hlen)) fun v σ2 qq => xEEEAAAAAA qq fun j sg se ev l2 g1 g7 g8 k2 => ?_
 subst ev
 have h2:σ2.get 2 i = some (.inst c_Tokenizer (setK (Y "states") (.ref 3 sd) [])):=by delta Store.get; rw [k2 2 (by decide) (by decide) (by decide)]; exact h1
 have s2:σ2.get 3 sd = some (.dict stEs):=by delta Store.get; rw [k2 3 (by decide) (by decide) (by decide),Uce (by decide)]; exact hsd
 have f2:Fx σ σ2:=fun r hr => (k2 r (by rintro rfl; cases hr) (by rintro rfl; cases hr) (by rintro rfl; cases hr)).trans (Uce (by rintro rfl; cases hr))
 refine RF.sg h2 (by kernel_rfl) (by kernel_rfl) fun h3 => RF.sg h3 (by kernel_rfl) (by kernel_rfl) fun h4 => RF.sg h4 (by kernel_rfl) (by kernel_rfl) fun h5 => RF.sg h5 (by kernel_rfl) (by kernel_rfl) fun h6 => ?_
 refine RF.nl (by simp only [Uav]; exact l2) (by decide) fun o h9 o9 => ?_
 refine RF.sg (o9 _ _ _ h6) (by kernel_rfl) (by kernel_rfl) fun h7 => RF.nl (by simp only [Uav,Ubi]; exact l2) (by decide) fun er h10 o10 => ?_
 refine RF.sg (o10 _ _ _ h7) (by kernel_rfl) (by kernel_rfl) fun h11 => RF.sg h11 (by kernel_rfl) (by kernel_rfl) fun h12 => RF.sg h12 (by kernel_rfl) (by kernel_rfl) fun h13 => RF.sg h13 (by kernel_rfl) (by kernel_rfl) fun h14 =>
   RF.sg h14 (by kernel_rfl) (by kernel_rfl) fun h15 => RF.sg h15 (by kernel_rfl) (by kernel_rfl) fun h16 => RF.sg h16 (by kernel_rfl) (by kernel_rfl) fun h17 => RF.sg h17 (by kernel_rfl) (by kernel_rfl) fun h18 => ?_
 refine RF.n ⟨rfl,⟨⟨i,j,o,er,sg,se,sd⟩,rfl,⟨⟨0,state,"data",last,[],[],none,false,false,[],false,false,[]⟩,⟨?_,?_,?_,?_,?_,?_,?_,?_,fun d e => by cases e⟩,rfl,rfl⟩⟩,?_⟩
 · simp only [Uav,Ubi]; exact l2
 · rw [h18]
   kernel_rfl
 · repeat first | rw [Uag (by decide)] | rw [Uad (by decide)]
   exact g1
 · repeat first | rw [Uag (by decide)] | rw [Uad (by decide)]
   exact g7
 · repeat first | rw [Uag (by decide)] | rw [Uad (by decide)]
   exact g8
 · repeat first | rw [Uag (by decide)] | rw [Uad (by decide)]
   exact h9
 · repeat first | rw [Uag (by decide)] | rw [Uad (by decide)]
   exact h10
 · repeat first | rw [Uag (by decide)] | rw [Uad (by decide)]
   exact s2
 · repeat first | refine Fx.put' ?_ rfl | refine Fx.add' ?_ rfl
   exact f2
theorem Uec (p:Params) (d:Nat) (vself vstates vstate:V):callK (P p) (d + 1) a_Tokenizer_init [vself,vstates,vstate] = bnd (F_Tokenizer_init p (callK (P p) d) vself vstates vstate (.str (Y ""))) unFl:=by kernel_rfl
theorem Upy {sd:Nat} (hlen:σ.length = 24) (hsd:σ.get 3 sd = some (.dict stEs)) (state:Str):Run (applyV (P p) (callK (P p) (d + 2)) (.fn c_Tokenizer) [.ref 3 sd,.str state]) σ fun v σ' => ∃ τ:Rf,v = .ref 2 τ.i ∧ TP σ' τ (PS.new state "") ∧ Fx σ σ':=by
 refine xEA (reg_of (r:=2) (σ:=σ) hlen (by decide)) fun l hl => ?_
 refine (new_of (f:=a_Tokenizer_init) (R:=fun σ' => (∃ τ:Rf,τ.i = l.length ∧ TP σ' τ (PS.new state "")) ∧ Fx σ σ') (by kernel_rfl) hl ?_).mono fun v σ' ⟨e,⟨τ,ht,h⟩,x⟩ => ⟨τ,by rw [ht]; exact e,h,x⟩
 rw [Uec]
 exact (Uhu (Ubd hl) (Ubi.trans hlen) (by rw [Uad (by decide)]; exact hsd)).mono fun v σ' qq => xAAA qq fun e h x => ⟨e,h,(Fx.add rfl).trans x⟩
noncomputable def tagEs:List (Str × V):=stEs.take 4
noncomputable def attrEs:List (Str × V):=stEs.drop 4
theorem Ui5 {r:Nat} {l:List Ob} {es:List (Str × V)} (h:σ[r]? = some l):newD r es σ = some (.ref r l.length,σ.add r (.dict es)):=by delta newD; rw [h]
theorem Ug7 {l:List Ob} (h:σ[3]? = some l):callK (P p) (d + 1) a_tag_states [] σ = some (.ref 3 l.length,σ.add 3 (.dict tagEs)):=by
 rw [Uh2]
 delta F_tag_states
 rw [Uak]
 exact bnd_of (Ui5 h)
theorem Ugj {l:List Ob} (h:σ[3]? = some l):callK (P p) (d + 1) a_attr_states [] σ = some (.ref 3 l.length,σ.add 3 (.dict attrEs)):=by
 rw [Ugq]
 delta F_attr_states
 rw [Uak]
 exact bnd_of (Ui5 h)
end
end Mine
end
section
open PySem PySem.W
namespace Mine
noncomputable def PS.goC (s:PS) (a:Act) (c:Str):PS :=
 let s1:=match a.err with
   | some e => s.nxt.error e
   | none => s.nxt
 let s2:=s1.deed a.deed c
 match a.goal with
 | some g => if a.again then s2.again g else s2.to g
 | none => s2
structure Sz (k:Nat) (s:PS):Prop where
 out:s.out.length <= 3 * k
 errs:s.errs.length <= 3 * k
 dr:∀ D,s.draft = some D -> D.name.length <= k ∧ D.attrs.length <= k ∧ ∀ a ∈ D.attrs,a.n.length <= k ∧ a.v.length <= k
noncomputable def Dk (s:PS):Nat -> Prop
 | 0 => s.draft = none
 | 1 => ∃ D,s.draft = some D ∧ (D.kind = "start" ∨ D.kind = "end")
 | _ => ∃ D,s.draft = some D ∧ (D.kind = "start" ∨ D.kind = "end") ∧ D.attrs ≠ []
noncomputable def slashy (c:Str):Bool:=[(Y "/"),">",""].any (· == c)
noncomputable def need (q:St) (c:Option Str):Nat:=match q with
 | .tagOpen | .endOpen => 0
 | .tagName | .self | .befName | .aftVal => 1
 | .name | .befVal | .dq | .sq | .bare => 2
 | .aftName => match c with
   | some c => if slashy c then 1 else 2
   | none => 2
structure Inv (k:Nat) (s:PS) (c:Option Str):Prop where
 pos:0 <= s.pos
 sz:Sz k s
 dk:∀ q:St,s.state = q.str -> Dk s (need q c)
theorem Dk.le {s:PS} {m n:Nat} (h:Dk s n) (hm:m <= n) (h1:1 <= m):Dk s m:=by
 match m,n,h,hm,h1 with
 | 1,1,h,_,_ => exact h
 | 1,n + 2,h,_,_ => refine xEAAA h fun D h1 h2 w0 => ?_; exact ⟨D,h1,h2⟩
 | m + 2,n + 2,h,_,_ => exact h
theorem St.inj {q q':St} (h:q.str = q'.str):q = q':=by
 have:=congrArg ofStr h
 rw [Uaq,Uaq] at this
 exact Option.some.inj this
section
variable {s s':PS} {k:Nat} {c:Str} {D:PD}
theorem Sz.mono (h:Sz k s) {k':Nat} (hk:k <= k'):Sz k' s :=
 ⟨by have:=h.out; omega,by have:=h.errs; omega,fun D e => by
   refine xAAA (h.dr D e) fun h1 h2 h3 => ?_
   exact ⟨by omega,by omega,fun a m => ⟨by have:=(h3 a m).1; omega,by have:=(h3 a m).2; omega⟩⟩⟩
theorem Ui3 {as:List PA} {f:List PA -> PA -> PA} {a:PA} (h:as.getLast? = some a):as = as.dropLast ++ [a]:=by
 refine xEA (List.getLast?_eq_some_iff.mp h) fun l qz1 => ?_; subst qz1
 simp
theorem Uey {f:List PA -> PA -> PA} (hd:s.draft = some D):∃ as,(s.last' f).draft = some { D with attrs:=as } ∧ as.length = D.attrs.length ∧ ∀ b ∈ as,b ∈ D.attrs ∨ ∃ a ∈ D.attrs,b = f D.attrs.dropLast a:=by
 delta PS.last'
 rw [hd]
 dsimp only
 cases h:D.attrs.getLast? with
 | none => exact ⟨D.attrs,hd,rfl,fun b m => .inl m⟩
 | some a =>
   have e:=Ui3 (f:=f) h
   refine ⟨_,rfl,?_,fun b m => ?_⟩
   · conv => rhs; rw [e]
     simp
   · rcases List.mem_append.mp m with m | m
     · left; rw [e]; exact List.mem_append_left _ m
     · right
       rw [List.mem_singleton] at m
       exact ⟨a,by rw [e]; simp,m⟩
theorem Ub0 {f:List PA -> PA -> PA}:(s.last' f).out = s.out ∧ (s.last' f).errs = s.errs:=by
 delta PS.last'
 cases s.draft with
 | none => exact ⟨rfl,rfl⟩
 | some D => dsimp only; cases D.attrs.getLast? <;> exact ⟨rfl,rfl⟩
theorem Ul6:s.emitDraft.out.length <= s.out.length + 1 ∧ s.emitDraft.errs.length <= s.errs.length + 2 ∧ (∀ D,s.emitDraft.draft = some D -> s.draft = some D):=by
 delta PS.emitDraft
 cases h:s.draft with
 | none => exact ⟨by simp,by simp,fun D e => by rw [h] at e; cases e⟩
 | some D =>
   refine ⟨by simp,?_,fun D e => by cases e⟩
   dsimp only
   split <;> split <;> simp
theorem Uol (h:Sz k s) (he:s'.errs.length <= s.errs.length + 1) (ho:s'.out = s.out) (hd:s'.draft = s.draft) (hc:c.length <= 1) (d:Deed):Sz (k + 1) (s'.deed d c):=by
 obtain ⟨h1,h2,h3⟩:=h
 have hD:∀ D,s'.draft = some D -> D.name.length <= k + 1 ∧ D.attrs.length <= k + 1 ∧ ∀ a ∈ D.attrs,a.n.length <= k + 1 ∧ a.v.length <= k + 1:=fun D e => by
   refine xAAA (h3 D (hd ▸ e)) fun a b z => ?_
   exact ⟨Nat.le_succ_of_le a,Nat.le_succ_of_le b,fun x m => ⟨Nat.le_succ_of_le (z x m).1,Nat.le_succ_of_le (z x m).2⟩⟩
 have ho3:s'.out.length <= 3 * k:=by rw [ho]; exact h1
 have hE:s'.errs.length <= 3 * (k + 1):=Nat.le_trans he (Nat.add_le_add h2 (by decide:1 <= 3))
 have hO:s'.out.length <= 3 * (k + 1):=Nat.le_trans ho3 (Nat.le_add_right _ 3)
 have o1:∀ l:List V,l.length <= 3 -> (s'.out ++ l).length <= 3 * (k + 1):=fun l q => by rw [List.length_append]; exact Nat.add_le_add ho3 q
 have hs:Sz (k + 1) s':=⟨hO,hE,hD⟩
 have low:∀ x:Str,x = (if c == (Y "\x00") then (Str.ofString "�") else lowerS c) -> x.length <= 1:=fun x e => by
   rw [e]; split
   · exact Nat.le_refl 1
   · exact Ul5 hc
 have lrep:(repl c).length <= 1:=by
   delta repl; split
   · exact Nat.le_refl 1
   · exact hc
 have len_add:∀ x y:Str,(x ++ y).length = x.length + y.length:=fun x y => by
   show (x.cps ++ y.cps).size = _
   rw [Array.size_append]; rfl
 have addL:∀ f:List PA -> PA -> PA,(∀ l a,(f l a).n.length <= a.n.length + 1 ∧ (f l a).v.length <= a.v.length + 1) -> Sz (k + 1) (s'.last' f):=fun f hf => by
   refine ⟨by rw [Ub0.1,ho]; omega,by rw [Ub0.2]; omega,fun D' e => ?_⟩
   cases hdr:s'.draft with
   | none =>
     unfold PS.last' at e
     rw [hdr] at e
     dsimp only at e
     rw [hdr] at e; cases e
   | some D =>
     refine xEAAA (Uey (f:=f) hdr) fun as e2 hl hm => ?_
     rw [e2] at e
     cases e
     refine xAAA (h3 D (hd ▸ hdr)) fun a1 b1 z1 => ?_
     refine ⟨Nat.le_succ_of_le a1,by show as.length <= _; omega,fun b m => ?_⟩
     rcases hm b m with m | ⟨a,m2,rfl⟩
     · exact ⟨Nat.le_succ_of_le (z1 b m).1,Nat.le_succ_of_le (z1 b m).2⟩
     · have:=z1 a m2
       have:=hf D.attrs.dropLast a
       omega
 have newA:Sz (k + 1) s'.newAttr:=by
   delta PS.newAttr
   cases hdr:s'.draft with
   | none => exact hs
   | some D =>
     refine ⟨hO,hE,fun D' e => ?_⟩
     cases e
     refine xAAA (h3 D (hd ▸ hdr)) fun a1 b1 z1 => ?_
     refine ⟨Nat.le_succ_of_le a1,by rw [List.length_append]; exact Nat.succ_le_succ b1,fun b m => ?_⟩
     rcases List.mem_append.mp m with m | m
     · exact ⟨Nat.le_succ_of_le (z1 b m).1,Nat.le_succ_of_le (z1 b m).2⟩
     · rw [List.mem_singleton] at m
       subst m
       exact ⟨Nat.zero_le _,Nat.zero_le _⟩
 have beg:∀ kd:Str,Sz (k + 1) (s'.begin kd):=fun kd => ⟨hO,hE,fun D e => by
   cases e; exact ⟨Nat.zero_le _,Nat.zero_le _,fun a m => by cases m⟩⟩
 cases d with
 | none => exact hs
 | start => exact beg _
 | end_ => exact beg _
 | comment => exact beg _
 | lost =>
   show Sz (k + 1) (if (s'.state == (Y "tag open")) = true then _ else _:PS).eof
   split
   · exact ⟨by show ((s'.out ++ [_]) ++ [_]).length <= _; rw [List.append_assoc]; exact o1 _ (Nat.le_succ 2),hE,hD⟩
   · exact ⟨by show (((s'.out ++ [_]) ++ [_]) ++ [_]).length <= _; rw [List.append_assoc,List.append_assoc]; exact o1 _ (Nat.le_refl 3),hE,hD⟩
 | lone => exact ⟨o1 [_] (by decide:1 <= 3),hE,hD⟩
 | give =>
   refine xAAA (Ul6 (s:=s')) fun a b z => ?_
   exact ⟨by show s'.emitDraft.out.length <= _; rw [ho] at a; omega,by show s'.emitDraft.errs.length <= _; omega,fun D e => hD D (z D e)⟩
 | close =>
   refine xAAA (Ul6 (s:=s'.closeIt)) fun a b z => ?_
   have ec:s'.closeIt.out = s'.out ∧ s'.closeIt.errs = s'.errs ∧ ∀ D,s'.closeIt.draft = some D -> D.name.length <= k + 1 ∧ D.attrs.length <= k + 1 ∧ ∀ a ∈ D.attrs,a.n.length <= k + 1 ∧ a.v.length <= k + 1:=by
     delta PS.closeIt
     cases hdr:s'.draft with
     | none => exact ⟨rfl,rfl,fun D e => hD D e⟩
     | some D => exact ⟨rfl,rfl,fun D' e => by cases e; exact hD D hdr⟩
   exact ⟨by show s'.closeIt.emitDraft.out.length <= _; rw [ec.1,ho] at a; omega,by show s'.closeIt.emitDraft.errs.length <= _; rw [ec.2.1] at b; omega,fun D e => ec.2.2 D (z D e)⟩
 | put =>
   show Sz (k + 1) (if (s'.state == (Y "tag name")) = true then _ else if (s'.state == (Y "attribute name")) = true then _ else _:PS)
   split
   · delta PS.tagName
     cases hdr:s'.draft with
     | none => exact hs
     | some D =>
       refine ⟨hO,hE,fun D' e => ?_⟩
       cases e
       refine xAAA (h3 D (hd ▸ hdr)) fun a1 b1 z1 => ?_
       refine ⟨?_,Nat.le_succ_of_le b1,(hD D hdr).2.2⟩
       show (D.name ++ _).length <= _
       rw [len_add]
       have:=low _ rfl
       omega
   · split
     · exact addL _ fun l a => ⟨by show (a.n ++ _).length <= _; rw [len_add]; have:=low _ rfl; omega,by show a.v.length <= _; omega⟩
     · exact addL _ fun l a => ⟨by show a.n.length <= _; omega,by show (a.v ++ _).length <= _; rw [len_add]; omega⟩
 | quit => exact ⟨o1 [_] (by decide:1 <= 3),hE,hD⟩
 | new => exact newA
 | first =>
   obtain ⟨n1,n2,n3⟩:=newA
   refine ⟨by show (s'.newAttr.last' _).out.length <= _; rw [Ub0.1]; exact n1,by show (s'.newAttr.last' _).errs.length <= _; rw [Ub0.2]; exact n2,fun D' e => ?_⟩
   cases hdr:s'.draft with
   | none =>
     have e:(s'.newAttr.last' fun w0 a => { a with n:=a.n ++ c }).draft = some D':=e
     have:s'.newAttr = s':=by delta PS.newAttr; rw [hdr]
     rw [this] at e
     delta PS.last' at e
     rw [hdr] at e
     dsimp only at e
     rw [hdr] at e; cases e
   | some D =>
     have e:(s'.newAttr.last' fun w0 a => { a with n:=a.n ++ c }).draft = some D':=e
     rw [Ub7 hdr,Uc5 (init:=D.attrs) (a:=⟨"","",true⟩) rfl rfl] at e
     cases e
     refine xAAA (h3 D (hd ▸ hdr)) fun a1 b1 z1 => ?_
     refine ⟨Nat.le_succ_of_le a1,by rw [List.length_append]; exact Nat.succ_le_succ b1,fun b m => ?_⟩
     rcases List.mem_append.mp m with m | m
     · exact ⟨Nat.le_succ_of_le (z1 b m).1,Nat.le_succ_of_le (z1 b m).2⟩
     · rw [List.mem_singleton] at m
       subst m
       exact ⟨by show ((Y "") ++ c).length <= _; rw [len_add]; show 0 + _ <= _; omega,Nat.zero_le _⟩
 | check =>
   show Sz (k + 1) s'.check
   delta PS.check
   split
   · rename_i ht
     obtain ⟨n1,n2,n3⟩:=addL (fun w0 a => { a with k:=false }) fun l a => ⟨Nat.le_succ _,Nat.le_succ _⟩
     refine ⟨n1,?_,n3⟩
     show ((s'.last' _).errs ++ [_]).length <= _
     rw [Ub0.2]
     simp
     omega
   · exact hs
 | refer => exact ⟨hO,hE,hD⟩
end
end Mine
end
section
open PySem PySem.W
namespace Mine
noncomputable def Deed.isEnd:Deed -> Bool
 | .quit | .lost => true
 | _ => false
noncomputable def post (d:Deed) (x:Nat):Option Nat:=match d with
 | .none | .refer | .put | .check => some x
 | .start | .end_ => some 1
 | .new | .first => if Nat.ble 1 x then some 2 else Option.none
 | _ => Option.none
noncomputable def okk (m n:Nat):Bool:=Nat.beq m n || (Nat.ble 1 m && Nat.ble m n)
noncomputable def statA (q:St) (c:Str) (x:Nat) (a:Act):Bool:=match a.goal with
 | some g => match ofStr g with
   | some q' => match post a.deed x with
     | some y => okk (need q' (if a.again then some c else none)) y
     | none => false
   | none => true
 | none => a.deed.isEnd || match post a.deed x with
   | some y => okk (need q none) y
   | none => false
theorem iteA {P:Act -> Prop} {b:Bool} {x y:Act} (h1:b = true -> P x) (h2:b = false -> P y):P (if b = true then x else y):=by
 cases b
 · exact h2 rfl
 · exact h1 rfl
theorem Uif {c:Str} (h:slashy c = true):c = "/" ∨ c = ">" ∨ c = "":=by
 delta slashy at h
 simp only [List.any_cons,List.any_nil,Bool.or_false,Bool.or_eq_true] at h
 rcases h with h | h | h
 · exact .inl (eq_of_beq h).symm
 · exact .inr (.inl (eq_of_beq h).symm)
 · exact .inr (.inr (eq_of_beq h).symm)
theorem Urn (q:St) (c:Str):statA q c (need q (some c)) (act q c) = true:=by
 cases hs:slashy c with
 | true =>
   rcases Uif hs with rfl | rfl | rfl <;> cases q <;> kernel_rfl
 | false =>
   have hn:need .aftName (some c) = 2:=by show (if slashy c = true then 1 else 2) = 2; rw [hs]; rfl
   have hm:∀ {A:Act},([(Y "/"),">",""].any (· == c)) = true -> statA .befName c 1 A = true:=fun h => by rw [show ([(Y "/"),">",""].any (· == c)) = slashy c from rfl,hs] at h; cases h
   have hm2:∀ {A:Act},([(Y "/"),">",""].any (· == c)) = true -> statA .name c 2 A = true:=fun h => by rw [show ([(Y "/"),">",""].any (· == c)) = slashy c from rfl,hs] at h; cases h
   cases q with
   | tagOpen =>
     let P:Act -> Prop:=fun a => statA .tagOpen c 0 a = true
     exact iteA (P:=P) (fun w0 => by kernel_rfl) fun w0 => iteA (P:=P) (fun w0 => by kernel_rfl) fun w0 => iteA (P:=P) (fun w0 => by kernel_rfl) fun w0 => iteA (P:=P) (fun w0 => by kernel_rfl) fun w0 => iteA (P:=P) (fun w0 => by kernel_rfl) fun w0 => by kernel_rfl
   | endOpen =>
     let P:Act -> Prop:=fun a => statA .endOpen c 0 a = true
     exact iteA (P:=P) (fun w0 => by kernel_rfl) fun w0 => iteA (P:=P) (fun w0 => by kernel_rfl) fun w0 => iteA (P:=P) (fun w0 => by kernel_rfl) fun w0 => by kernel_rfl
   | tagName =>
     let P:Act -> Prop:=fun a => statA .tagName c 1 a = true
     exact iteA (P:=P) (fun w0 => by kernel_rfl) fun w0 => iteA (P:=P) (fun w0 => by kernel_rfl) fun w0 => iteA (P:=P) (fun w0 => by kernel_rfl) fun w0 => iteA (P:=P) (fun w0 => by kernel_rfl) fun w0 => iteA (P:=P) (fun w0 => by kernel_rfl) fun w0 => by kernel_rfl
   | self =>
     let P:Act -> Prop:=fun a => statA .self c 1 a = true
     exact iteA (P:=P) (fun w0 => by kernel_rfl) fun w0 => iteA (P:=P) (fun w0 => by kernel_rfl) fun w0 => by kernel_rfl
   | befName =>
     let P:Act -> Prop:=fun a => statA .befName c 1 a = true
     exact iteA (P:=P) (fun w0 => by kernel_rfl) fun w0 => iteA (P:=P) hm (fun w0 => iteA (P:=P) (fun w0 => by kernel_rfl) fun w0 => by kernel_rfl)
   | name =>
     let P:Act -> Prop:=fun a => statA .name c 2 a = true
     exact iteA (P:=P) (fun w0 => by show okk (need .aftName (some c)) 2 = true; rw [hn]; rfl) fun w0 => iteA (P:=P) hm2 fun w0 => iteA (P:=P) (fun w0 => by kernel_rfl) fun w0 => iteA (P:=P) (fun w0 => by kernel_rfl) fun w0 => iteA (P:=P) (fun w0 => by kernel_rfl) fun w0 => by kernel_rfl
   | aftName =>
     rw [hn]; let P:Act -> Prop:=fun a => statA .aftName c 2 a = true
     exact iteA (P:=P) (fun w0 => by kernel_rfl) fun w0 => iteA (P:=P) (fun w0 => by kernel_rfl) fun w0 => iteA (P:=P) (fun w0 => by kernel_rfl) fun w0 => iteA (P:=P) (fun w0 => by kernel_rfl) fun w0 => iteA (P:=P) (fun w0 => by kernel_rfl) fun w0 => by kernel_rfl
   | befVal =>
     let P:Act -> Prop:=fun a => statA .befVal c 2 a = true
     exact iteA (P:=P) (fun w0 => by kernel_rfl) fun w0 => iteA (P:=P) (fun w0 => by kernel_rfl) fun w0 => iteA (P:=P) (fun w0 => by kernel_rfl) fun w0 => iteA (P:=P) (fun w0 => by kernel_rfl) fun w0 => by kernel_rfl
   | dq =>
     let P:Act -> Prop:=fun a => statA .dq c 2 a = true
     exact iteA (P:=P) (fun w0 => by kernel_rfl) fun w0 => iteA (P:=P) (fun w0 => by kernel_rfl) fun w0 => iteA (P:=P) (fun w0 => by kernel_rfl) fun w0 => iteA (P:=P) (fun w0 => by kernel_rfl) fun w0 => by kernel_rfl
   | sq =>
     let P:Act -> Prop:=fun a => statA .sq c 2 a = true
     exact iteA (P:=P) (fun w0 => by kernel_rfl) fun w0 => iteA (P:=P) (fun w0 => by kernel_rfl) fun w0 => iteA (P:=P) (fun w0 => by kernel_rfl) fun w0 => iteA (P:=P) (fun w0 => by kernel_rfl) fun w0 => by kernel_rfl
   | bare =>
     let P:Act -> Prop:=fun a => statA .bare c 2 a = true
     exact iteA (P:=P) (fun w0 => by kernel_rfl) fun w0 => iteA (P:=P) (fun w0 => by kernel_rfl) fun w0 => iteA (P:=P) (fun w0 => by kernel_rfl) fun w0 => iteA (P:=P) (fun w0 => by kernel_rfl) fun w0 => iteA (P:=P) (fun w0 => by kernel_rfl) fun w0 => iteA (P:=P) (fun w0 => by kernel_rfl) fun w0 => by kernel_rfl
   | aftVal =>
     let P:Act -> Prop:=fun a => statA .aftVal c 1 a = true
     exact iteA (P:=P) (fun w0 => by kernel_rfl) fun w0 => iteA (P:=P) (fun w0 => by kernel_rfl) fun w0 => iteA (P:=P) (fun w0 => by kernel_rfl) fun w0 => iteA (P:=P) (fun w0 => by kernel_rfl) fun w0 => by kernel_rfl
theorem Ugg (q:St) (c:Str):(fun a:Act => !a.again || (a.goal.isSome && !a.deed.isEnd)) (act q c) = true:=by
 let P:Act -> Prop:=fun a => (fun a:Act => !a.again || (a.goal.isSome && !a.deed.isEnd)) a = true
 cases q with
 | tagOpen => exact iteA (P:=P) (fun w0 => rfl) fun w0 => iteA (P:=P) (fun w0 => rfl) fun w0 => iteA (P:=P) (fun w0 => rfl) fun w0 => iteA (P:=P) (fun w0 => rfl) fun w0 => iteA (P:=P) (fun w0 => rfl) fun w0 => rfl
 | endOpen => exact iteA (P:=P) (fun w0 => rfl) fun w0 => iteA (P:=P) (fun w0 => rfl) fun w0 => iteA (P:=P) (fun w0 => rfl) fun w0 => rfl
 | tagName => exact iteA (P:=P) (fun w0 => rfl) fun w0 => iteA (P:=P) (fun w0 => rfl) fun w0 => iteA (P:=P) (fun w0 => rfl) fun w0 => iteA (P:=P) (fun w0 => rfl) fun w0 => iteA (P:=P) (fun w0 => rfl) fun w0 => rfl
 | self => exact iteA (P:=P) (fun w0 => rfl) fun w0 => iteA (P:=P) (fun w0 => rfl) fun w0 => rfl
 | befName => exact iteA (P:=P) (fun w0 => rfl) fun w0 => iteA (P:=P) (fun w0 => rfl) fun w0 => iteA (P:=P) (fun w0 => rfl) fun w0 => rfl
 | name => exact iteA (P:=P) (fun w0 => rfl) fun w0 => iteA (P:=P) (fun w0 => rfl) fun w0 => iteA (P:=P) (fun w0 => rfl) fun w0 => iteA (P:=P) (fun w0 => rfl) fun w0 => iteA (P:=P) (fun w0 => rfl) fun w0 => rfl
 | aftName => exact iteA (P:=P) (fun w0 => rfl) fun w0 => iteA (P:=P) (fun w0 => rfl) fun w0 => iteA (P:=P) (fun w0 => rfl) fun w0 => iteA (P:=P) (fun w0 => rfl) fun w0 => iteA (P:=P) (fun w0 => rfl) fun w0 => rfl
 | befVal => exact iteA (P:=P) (fun w0 => rfl) fun w0 => iteA (P:=P) (fun w0 => rfl) fun w0 => iteA (P:=P) (fun w0 => rfl) fun w0 => iteA (P:=P) (fun w0 => rfl) fun w0 => rfl
 | dq => exact iteA (P:=P) (fun w0 => rfl) fun w0 => iteA (P:=P) (fun w0 => rfl) fun w0 => iteA (P:=P) (fun w0 => rfl) fun w0 => iteA (P:=P) (fun w0 => rfl) fun w0 => rfl
 | sq => exact iteA (P:=P) (fun w0 => rfl) fun w0 => iteA (P:=P) (fun w0 => rfl) fun w0 => iteA (P:=P) (fun w0 => rfl) fun w0 => iteA (P:=P) (fun w0 => rfl) fun w0 => rfl
 | bare => exact iteA (P:=P) (fun w0 => rfl) fun w0 => iteA (P:=P) (fun w0 => rfl) fun w0 => iteA (P:=P) (fun w0 => rfl) fun w0 => iteA (P:=P) (fun w0 => rfl) fun w0 => iteA (P:=P) (fun w0 => rfl) fun w0 => iteA (P:=P) (fun w0 => rfl) fun w0 => rfl
 | aftVal => exact iteA (P:=P) (fun w0 => rfl) fun w0 => iteA (P:=P) (fun w0 => rfl) fun w0 => iteA (P:=P) (fun w0 => rfl) fun w0 => iteA (P:=P) (fun w0 => rfl) fun w0 => rfl
theorem Umd (q:St) (c:Str) (hc:c ≠ ""):(fun a:Act => !a.deed.isEnd) (act q c) = true:=by
 let P:Act -> Prop:=fun a => (fun a:Act => !a.deed.isEnd) a = true
 have hn:∀ {x},(c == (Y "")) = true -> P x:=fun h => absurd (eq_of_beq h) hc
 cases q with
 | tagOpen => exact iteA (P:=P) (fun w0 => rfl) fun w0 => iteA (P:=P) (fun w0 => rfl) fun w0 => iteA (P:=P) (fun w0 => rfl) fun w0 => iteA (P:=P) (fun w0 => rfl) fun w0 => iteA (P:=P) hn fun w0 => rfl
 | endOpen => exact iteA (P:=P) (fun w0 => rfl) fun w0 => iteA (P:=P) (fun w0 => rfl) fun w0 => iteA (P:=P) hn fun w0 => rfl
 | tagName => exact iteA (P:=P) (fun w0 => rfl) fun w0 => iteA (P:=P) (fun w0 => rfl) fun w0 => iteA (P:=P) (fun w0 => rfl) fun w0 => iteA (P:=P) (fun w0 => rfl) fun w0 => iteA (P:=P) hn fun w0 => rfl
 | self => exact iteA (P:=P) (fun w0 => rfl) fun w0 => iteA (P:=P) hn fun w0 => rfl
 | befName => exact iteA (P:=P) (fun w0 => rfl) fun w0 => iteA (P:=P) (fun w0 => rfl) fun w0 => iteA (P:=P) (fun w0 => rfl) fun w0 => rfl
 | name => exact iteA (P:=P) (fun w0 => rfl) fun w0 => iteA (P:=P) (fun w0 => rfl) fun w0 => iteA (P:=P) (fun w0 => rfl) fun w0 => iteA (P:=P) (fun w0 => rfl) fun w0 => iteA (P:=P) (fun w0 => rfl) fun w0 => rfl
 | aftName => exact iteA (P:=P) (fun w0 => rfl) fun w0 => iteA (P:=P) (fun w0 => rfl) fun w0 => iteA (P:=P) (fun w0 => rfl) fun w0 => iteA (P:=P) (fun w0 => rfl) fun w0 => iteA (P:=P) hn fun w0 => rfl
 | befVal => exact iteA (P:=P) (fun w0 => rfl) fun w0 => iteA (P:=P) (fun w0 => rfl) fun w0 => iteA (P:=P) (fun w0 => rfl) fun w0 => iteA (P:=P) (fun w0 => rfl) fun w0 => rfl
 | dq => exact iteA (P:=P) (fun w0 => rfl) fun w0 => iteA (P:=P) (fun w0 => rfl) fun w0 => iteA (P:=P) (fun w0 => rfl) fun w0 => iteA (P:=P) hn fun w0 => rfl
 | sq => exact iteA (P:=P) (fun w0 => rfl) fun w0 => iteA (P:=P) (fun w0 => rfl) fun w0 => iteA (P:=P) (fun w0 => rfl) fun w0 => iteA (P:=P) hn fun w0 => rfl
 | bare => exact iteA (P:=P) (fun w0 => rfl) fun w0 => iteA (P:=P) (fun w0 => rfl) fun w0 => iteA (P:=P) (fun w0 => rfl) fun w0 => iteA (P:=P) (fun w0 => rfl) fun w0 => iteA (P:=P) hn fun w0 => iteA (P:=P) (fun w0 => rfl) fun w0 => rfl
 | aftVal => exact iteA (P:=P) (fun w0 => rfl) fun w0 => iteA (P:=P) (fun w0 => rfl) fun w0 => iteA (P:=P) (fun w0 => rfl) fun w0 => iteA (P:=P) hn fun w0 => rfl
end Mine
end
section
open PySem PySem.W
namespace Mine
noncomputable def PS.goto (s:PS) (goal:Option Str) (again:Bool):PS:=match goal with
 | some g => if again then s.again g else s.to g
 | none => s
structure Same (s s':PS):Prop where
 pos:s'.pos = s.pos
 state:s'.state = s.state
 signs:s'.signs = s.signs
 closed:s'.closed = s.closed
 isret:s'.isret = s.isret
 serr:s'.serr = s.serr
section
variable {s s':PS} {k n:Nat} {c:Str} {D:PD}
theorem Same.rfl:Same s s:=⟨Eq.refl _,Eq.refl _,Eq.refl _,Eq.refl _,Eq.refl _,Eq.refl _⟩
theorem Same.trans {a b c:PS} (x:Same a b) (y:Same b c):Same a c:=⟨y.pos.trans x.pos,y.state.trans x.state,y.signs.trans x.signs,y.closed.trans x.closed,y.isret.trans x.isret,y.serr.trans x.serr⟩
theorem Uc8 {f:List PA -> PA -> PA}:Same s (s.last' f) ∧ (s.last' f).done = s.done:=by
 delta PS.last'
 cases s.draft with
 | none => exact ⟨Same.rfl,rfl⟩
 | some D => dsimp only; cases D.attrs.getLast? <;> exact ⟨⟨rfl,rfl,rfl,rfl,rfl,rfl⟩,rfl⟩
theorem Uep:Same s s.emitDraft ∧ s.emitDraft.done = s.done:=by
 delta PS.emitDraft
 cases s.draft <;> exact ⟨⟨rfl,rfl,rfl,rfl,rfl,rfl⟩,rfl⟩
theorem Uf3:Same s s.newAttr ∧ s.newAttr.done = s.done:=by
 delta PS.newAttr
 cases s.draft <;> exact ⟨⟨rfl,rfl,rfl,rfl,rfl,rfl⟩,rfl⟩
theorem Unb (d:Deed):Same s (s.deed d c) ∧ (s.deed d c).done = (s.done || d.isEnd):=by
 cases d with
 | none => exact ⟨Same.rfl,(Bool.or_false _).symm⟩
 | start => exact ⟨⟨rfl,rfl,rfl,rfl,rfl,rfl⟩,(Bool.or_false _).symm⟩
 | end_ => exact ⟨⟨rfl,rfl,rfl,rfl,rfl,rfl⟩,(Bool.or_false _).symm⟩
 | comment => exact ⟨⟨rfl,rfl,rfl,rfl,rfl,rfl⟩,(Bool.or_false _).symm⟩
 | lost =>
   show Same s (if (s.state == (Y "tag open")) = true then _ else _:PS).eof ∧ (if (s.state == (Y "tag open")) = true then _ else _:PS).eof.done = _
   split <;> exact ⟨⟨rfl,rfl,rfl,rfl,rfl,rfl⟩,(Bool.or_true _).symm⟩
 | lone => exact ⟨⟨rfl,rfl,rfl,rfl,rfl,rfl⟩,(Bool.or_false _).symm⟩
 | give => exact ⟨Uep.1,Uep.2.trans (Bool.or_false _).symm⟩
 | close =>
   have h:Same s s.closeIt ∧ s.closeIt.done = s.done:=by delta PS.closeIt; cases s.draft <;> exact ⟨⟨rfl,rfl,rfl,rfl,rfl,rfl⟩,rfl⟩
   exact ⟨h.1.trans Uep.1,(Uep.2.trans h.2).trans (Bool.or_false _).symm⟩
 | put =>
   show Same s (if (s.state == (Y "tag name")) = true then _ else if (s.state == (Y "attribute name")) = true then _ else _:PS) ∧ (if (s.state == (Y "tag name")) = true then _ else if (s.state == (Y "attribute name")) = true then _ else _:PS).done = _
   split
   · delta PS.tagName; cases s.draft <;> exact ⟨⟨rfl,rfl,rfl,rfl,rfl,rfl⟩,(Bool.or_false _).symm⟩
   · split <;> exact ⟨Uc8.1,Uc8.2.trans (Bool.or_false _).symm⟩
 | quit => exact ⟨⟨rfl,rfl,rfl,rfl,rfl,rfl⟩,(Bool.or_true _).symm⟩
 | new => exact ⟨Uf3.1,Uf3.2.trans (Bool.or_false _).symm⟩
 | first => exact ⟨Uf3.1.trans (Uc8 (s:=s.newAttr) (f:=fun w0 a => { a with n:=a.n ++ c })).1,((Uc8 (s:=s.newAttr) (f:=fun w0 a => { a with n:=a.n ++ c })).2.trans Uf3.2).trans (Bool.or_false _).symm⟩
 | check =>
   show Same s s.check ∧ s.check.done = _
   delta PS.check
   split
   · have:=Uc8 (s:=s) (f:=fun w0 a => { a with k:=false })
     exact ⟨⟨this.1.pos,this.1.state,this.1.signs,this.1.closed,this.1.isret,this.1.serr⟩,this.2.trans (Bool.or_false _).symm⟩
   · exact ⟨Same.rfl,(Bool.or_false _).symm⟩
 | refer => exact ⟨⟨rfl,rfl,rfl,rfl,rfl,rfl⟩,(Bool.or_false _).symm⟩
theorem Ul1 {f:List PA -> PA -> PA} {x:Nat} (h:Dk s x):Dk (s.last' f) x:=by
 match x,h with
 | 0,h =>
   show (s.last' f).draft = none
   have h:s.draft = none:=h
   delta PS.last'
   rw [h]; exact h
 | 1,⟨D,hd,hk⟩ => refine xEAAA (Uey (f:=f) hd) fun as e w0 w0 => ?_; exact ⟨_,e,hk⟩
 | x + 2,⟨D,hd,hk,hn⟩ =>
   refine xEAAA (Uey (f:=f) hd) fun as e hl w0 => ?_
   exact ⟨_,e,hk,fun e => hn (by cases hD:D.attrs with | nil => rfl | cons a b => rw [hD] at hl; rw [show as = [] from e] at hl; cases hl)⟩
theorem dk_new {x:Nat} (h:Dk s x) (hx:Nat.ble 1 x = true):Dk s.newAttr 2:=by
 have:∃ D,s.draft = some D ∧ (D.kind = "start" ∨ D.kind = "end"):=by
   match x,h,hx with
   | 1,⟨D,hd,hk⟩,_ => exact ⟨D,hd,hk⟩
   | x + 2,⟨D,hd,hk,_⟩,_ => exact ⟨D,hd,hk⟩
 refine xEAA this fun D hd hk => ?_
 rw [Ub7 hd]
 exact ⟨_,rfl,hk,by simp⟩
theorem Uoc {x y:Nat} {d:Deed} (h:Dk s x) (hp:post d x = some y):Dk (s.deed d c) y:=by
 cases d with
 | none => cases hp; exact h
 | start => cases hp; exact ⟨_,rfl,.inl rfl⟩
 | end_ => cases hp; exact ⟨_,rfl,.inr rfl⟩
 | comment => cases hp
 | lost => cases hp
 | lone => cases hp
 | give => cases hp
 | close => cases hp
 | put =>
   cases hp
   show Dk (if (s.state == (Y "tag name")) = true then _ else if (s.state == (Y "attribute name")) = true then _ else _:PS) x
   split
   · delta PS.tagName
     match x,h with
     | 0,h => have h:s.draft = none:=h; rw [h]; exact h
     | 1,⟨D,hd,hk⟩ => rw [hd]; exact ⟨_,rfl,hk⟩
     | x + 2,⟨D,hd,hk,hn⟩ => rw [hd]; exact ⟨_,rfl,hk,hn⟩
   · split <;> exact Ul1 h
 | quit => cases hp
 | new =>
   delta post at hp
   cases hx:Nat.ble 1 x with
   | false => rw [hx] at hp; cases hp
   | true => rw [hx] at hp; cases hp; exact dk_new h hx
 | first =>
   delta post at hp
   cases hx:Nat.ble 1 x with
   | false => rw [hx] at hp; cases hp
   | true => rw [hx] at hp; cases hp; exact Ul1 (dk_new h hx)
 | check =>
   cases hp
   show Dk s.check x
   delta PS.check
   split
   · have:=Ul1 (f:=fun w0 a => { a with k:=false }) h
     match x,this with
     | 0,h => exact h
     | 1,h => exact h
     | x + 2,h => exact h
   · exact h
 | refer =>
   cases hp
   match x,h with
   | 0,h => exact h
   | 1,h => exact h
   | x + 2,h => exact h
theorem dk_okk {m n:Nat} (h:Dk s n) (ho:okk m n = true):Dk s m:=by
 delta okk at ho
 rw [Bool.or_eq_true,Bool.and_eq_true] at ho
 rcases ho with ho | ⟨h1,h2⟩
 · rw [Nat.eq_of_beq_eq_true ho]; exact h
 · exact h.le (Nat.le_of_ble_eq_true h2) (Nat.le_of_ble_eq_true h1)
theorem Ubz (s:PS) (a:Act) (c:Str):(s.goC a c).signs = s.signs ∧ (s.goC a c).closed = s.closed ∧ (s.goC a c).isret = s.isret ∧ (s.goC a c).serr = s.serr ∧ (s.goC a c).done = (s.done || a.deed.isEnd) ∧
   (s.goC a c).pos = (if a.again && a.goal.isSome then s.pos else s.pos + 1) ∧ (s.goC a c).state = (a.goal.getD s.state):=by
 obtain ⟨err,deed,goal,again⟩:=a
 have key:∀ s1:PS,Same s.nxt s1 -> s1.done = s.done -> ((s1.deed deed c).goto goal again).signs = s.signs ∧
     ((s1.deed deed c).goto goal again).closed = s.closed ∧ ((s1.deed deed c).goto goal again).isret = s.isret ∧
     ((s1.deed deed c).goto goal again).serr = s.serr ∧ ((s1.deed deed c).goto goal again).done = (s.done || deed.isEnd) ∧
     ((s1.deed deed c).goto goal again).pos = (if again && goal.isSome then s.pos else s.pos + 1) ∧
     ((s1.deed deed c).goto goal again).state = goal.getD s.state:=by
   intro s1 h1 hd1
   refine xAA (Unb (s:=s1) (c:=c) deed) fun h2 hd2 => ?_
   have h:=h1.trans h2
   rw [hd1] at hd2
   cases goal with
   | none => exact ⟨h.signs,h.closed,h.isret,h.serr,hd2,by rw [Bool.and_comm]; exact h.pos,h.state⟩
   | some g =>
     cases again with
     | false => exact ⟨h.signs,h.closed,h.isret,h.serr,hd2,h.pos,rfl⟩
     | true => exact ⟨h.signs,h.closed,h.isret,h.serr,hd2,by show (s1.deed deed c).pos - 1 = s.pos; rw [h.pos]; show s.pos + 1 - 1 = s.pos; omega,rfl⟩
 cases err with
 | none => exact key s.nxt Same.rfl rfl
 | some e => exact key (s.nxt.error e) ⟨rfl,rfl,rfl,rfl,rfl,rfl⟩ rfl
theorem goC_sz (h:Sz k s) (a:Act) (hc:c.length <= 1):Sz (k + 1) (s.goC a c):=by
 obtain ⟨err,deed,goal,again⟩:=a
 have key:∀ s2:PS,Sz (k + 1) s2 -> Sz (k + 1) (s2.goto goal again):=by
   intro s2 h2
   cases goal with
   | none => exact h2
   | some g => cases again <;> exact ⟨h2.out,h2.errs,h2.dr⟩
 cases err with
 | none => exact key (s.nxt.deed deed c) (Uol (s':=s.nxt) h (by show s.errs.length <= _; omega) rfl rfl hc deed)
 | some e => exact key ((s.nxt.error e).deed deed c) (Uol (s':=s.nxt.error e) h (by show (s.errs ++ [_]).length <= _; simp) rfl rfl hc deed)
theorem goC_dk (a:Act) {x y:Nat} (h:Dk s x) (hp:post a.deed x = some y):Dk (s.goC a c) y:=by
 obtain ⟨err,deed,goal,again⟩:=a
 have key:∀ s2:PS,Dk s2 y -> Dk (s2.goto goal again) y:=by
   intro s2 h2
   cases goal with
   | none => exact h2
   | some g =>
     cases again
     · match y,h2 with
       | 0,h => exact h
       | 1,h => exact h
       | y + 2,h => exact h
     · match y,h2 with
       | 0,h => exact h
       | 1,h => exact h
       | y + 2,h => exact h
 have nx:∀ s1:PS,s1.draft = s.draft -> Dk s1 x:=by
   intro s1 e
   match x,h with
   | 0,h => exact e.trans h
   | 1,⟨D,hd,hk⟩ => exact ⟨D,e.trans hd,hk⟩
   | x + 2,⟨D,hd,hk⟩ => exact ⟨D,e.trans hd,hk⟩
 cases err with
 | none => exact key (s.nxt.deed deed c) (Uoc (s:=s.nxt) (nx _ rfl) hp)
 | some e => exact key ((s.nxt.error e).deed deed c) (Uoc (s:=s.nxt.error e) (nx _ rfl) hp)
theorem Ubp {x:Str} {q:St} (h:ofStr x = some q):x = q.str:=by
 delta ofStr at h
 have h2:=List.find?_some (p:=fun q:St => q.str == x) h
 exact (eq_of_beq h2).symm
theorem inv_go {q:St} (h:Inv k s (some c)) (hq:s.state = q.str) (hc:c.length <= 1) (he:c ≠ "" ∨ (act q c).again = true):Inv (k + 1) (s.goC (act q c) c) (if (act q c).again then some c else none):=by
 have hst:=Urn q c
 have hst2:=Ugg q c
 have hst3:=Umd q c
 have hdk:=h.dk q hq
 revert he hst hst2 hst3
 generalize act q c = a
 intro he hst hst2 hst3
 refine xAAAAAAA (Ubz s a c) fun f1 f2 f3 f4 f5 f6 f7 => ?_
 have hE:a.deed.isEnd = false:=by
   rcases he with he | he
   · have:=hst3 he
     dsimp only at this
     cases hh:a.deed.isEnd with
     | false => rfl
     | true => rw [hh] at this; cases this
   · dsimp only at hst2
     rw [he] at hst2
     cases hh:a.deed.isEnd with
     | false => rfl
     | true => rw [hh] at hst2; simp at hst2
 refine ⟨?_,goC_sz h.sz a hc,fun q' hq' => ?_⟩
 · rw [f6]
   have:=h.pos
   split <;> omega
 · rw [f7] at hq'
   delta statA at hst
   cases hg:a.goal with
   | none =>
     rw [hg] at hst hq'
     have:a.again = false:=by
       cases ha:a.again with
       | false => rfl
       | true => dsimp only at hst2; rw [ha,hg] at hst2; cases hst2
     rw [this]
     have hq2:q' = q:=(St.inj (hq.symm.trans hq')).symm
     subst hq2
     dsimp only at hst
     rw [hE,Bool.false_or] at hst
     cases hp:post a.deed (need q' (some c)) with
     | none => rw [hp] at hst; cases hst
     | some y =>
       rw [hp] at hst
       exact dk_okk (goC_dk a hdk hp) hst
   | some g =>
     rw [hg] at hst hq'
     have hq2:ofStr g = some q':=by rw [show g = q'.str from hq']; exact Uaq q'
     dsimp only at hst
     rw [hq2] at hst
     dsimp only at hst
     cases hp:post a.deed (need q (some c)) with
     | none => rw [hp] at hst; cases hst
     | some y =>
       rw [hp] at hst
       exact dk_okk (goC_dk a hdk hp) hst
end
end Mine
end
section
open PySem PySem.W
namespace Mine
noncomputable def okSign (c:Str):Prop:=c = "" ∨ ∃ n ∈ okL,c = ch n
noncomputable def adv:Nat -> PS -> Str -> PS
 | 0,s,_ => s
 | n + 1,s,c => match ofStr s.state with
   | none => s
   | some q => if (act q c).again then adv n (s.goC (act q c) c) c else s.goC (act q c) c
noncomputable def ends:Nat -> St -> Str -> Bool
 | 0,_,_ => false
 | n + 1,q,c => !(act q c).again || (match (act q c).goal with
   | some g => (match ofStr g with
     | some q' => ends n q' c
     | none => true)
   | none => false)
noncomputable def endsE:Nat -> St -> Bool
 | 0,_ => false
 | n + 1,q => if (act q "").again then (match (act q "").goal with
   | some g => (match ofStr g with
     | some q' => endsE n q'
     | none => true)
   | none => false) else (act q "").deed.isEnd
theorem Uo5:(allSt.all fun q => ends 4 q "" && okL.all fun n => ends 4 q (ch n)) = true:=by kernel_rfl
theorem Umx:(allSt.all fun q => endsE 4 q) = true:=by kernel_rfl
theorem Uoy (q:St):allSt[q.ctorIdx]? = some q:=by cases q <;> rfl
theorem Uip (q:St):q ∈ allSt:=List.mem_of_getElem? (Uoy q)
theorem Uit {q:St} {c:Str} (hc:okSign c):ends 4 q c = true:=by
 have h:=List.all_eq_true.mp Uo5 q (Uip q)
 rw [Bool.and_eq_true] at h
 rcases hc with rfl | ⟨n,hn,rfl⟩
 · exact h.1
 · exact List.all_eq_true.mp h.2 n hn
theorem Upb (q:St):endsE 4 q = true:=List.all_eq_true.mp Umx q (Uip q)
theorem okL_lt:okL.all (fun n => Nat.blt n 100000) = true:=by kernel_rfl
theorem ok_sg {c:Str} (hc:okSign c):isUpper c = true -> c.length = 1 ∧ c.cps.getD 0 0 + 32 < 0x110000:=by
 rcases hc with rfl | ⟨n,hn,rfl⟩
 · intro h; exact absurd h (by decide)
 · intro _
   have:=Nat.le_of_ble_eq_true (List.all_eq_true.mp okL_lt n hn)
   exact ⟨rfl,by show n + 32 < _; omega⟩
theorem ok_len {c:Str} (hc:okSign c):c.length <= 1:=by
 rcases hc with rfl | ⟨n,hn,rfl⟩
 · exact Nat.zero_le 1
 · exact Nat.le_refl 1
section
variable {s s':PS} {k n:Nat} {c:Str} {D:PD}
theorem Inv.weak (h:Inv k s none):Inv k s (some c):=⟨h.pos,h.sz,fun q hq => by
 have:=h.dk q hq
 cases q with
 | aftName =>
   show Dk s (if slashy c = true then 1 else 2)
   split
   · exact Dk.le this (by decide) (by decide)
   · exact this
 | _ => exact this⟩
theorem Use {q:St} (h:Inv k s (some c)) (hq:s.state = q.str) (hk:k <= 1500) (hc:okSign c) (e:s.cur = c):Fit q s:=by
 obtain ⟨hp,⟨h1,h2,h3⟩,h4⟩:=h
 have h4:=h4 q hq
 refine ⟨hq,hp,by delta lim; omega,by delta lim; omega,by rw [e]; exact ok_sg hc,by rw [e]; exact ok_len hc,fun hh => ?_,fun n1 n2 => ?_⟩
 · rcases hh with rfl | rfl <;> exact h4
 · have one:∃ D,s.draft = some D ∧ (D.kind = "start" ∨ D.kind = "end"):=by
     have:1 <= need q (some c):=by
       cases q with
       | tagOpen => exact absurd rfl n1
       | endOpen => exact absurd rfl n2
       | aftName => show 1 <= (if slashy c = true then 1 else 2); split <;> decide
       | _ => first | exact Nat.le_refl 1 | exact Nat.le_succ 1
     exact h4.le this (Nat.le_refl 1)
   refine xEAA one fun D hd hk' => ?_
   refine xAAA (h3 D hd) fun z1 z2 z3 => ?_
   refine ⟨D,hd,hk',by omega,by delta lim; omega,fun hh => ?_⟩
   have two:need q (some c) = 2:=by rcases hh with rfl | rfl | rfl | rfl | rfl <;> rfl
   rw [two] at h4
   refine xEAAA h4 fun D' hd' w0 hne => ?_
   rw [hd] at hd'; cases hd'
   have ha:=Ui3 (f:=fun w0 a => a) (List.getLast?_eq_some_getLast hne)
   have hm:=z3 _ (List.getLast_mem hne)
   exact ⟨_,_,ha,by delta lim; omega,by delta lim; omega⟩
theorem Usm (a:Act) (h:a.again = true) (hg:a.goal.isSome = true):(s.goC a c).cur = s.cur:=by
 refine xAAAAAAA (Ubz s a c) fun f1 f2 f3 f4 f5 f6 f7 => ?_
 delta PS.cur
 rw [f6,f1,h,hg]
 rfl
theorem chain:∀ (n:Nat) (s:PS) (q:St) (k:Nat),s.state = q.str -> ends n q c = true -> Inv k s (some c) -> s.done = false -> s.cur = c -> (s.closed = true ∨ s.pos < s.signs.length) -> okSign c -> k + n <= 1500 ->
   ∀ (m:Nat) (s':PS),Runs (adv n s c) m s' -> ∃ m',m' <= m + n ∧ Runs s m' s'
 | 0,s,q,k,hq,he,_,_,_,_,_,_ => by cases he
 | n + 1,s,q,k,hq,he,hI,hd,hcur,hr,hc,hk => by
   intro m s' hR
   have ho:ofStr s.state = some q:=by rw [hq,Uaq]
   have ready:s.ready = true:=by
     delta PS.ready
     rw [hd,ho]
     rcases hr with hr | hr
     · rw [hr]; rfl
     · rw [decide_eq_true hr,Bool.or_true]; rfl
   have hfit:s.fit:=⟨q,Use hI hq (by omega) hc hcur⟩
   have hstep:s.step = s.goC (act q c) c:=by delta PS.step; rw [ho,<- hcur]; rfl
   have hst2:=Ugg q c
   have hinv:(act q c).again = true -> Inv (k + 1) (s.goC (act q c) c) (some c):=fun ha => by
     have:=inv_go hI hq (ok_len hc) (.inr ha)
     rw [if_pos ha] at this; exact this
   rw [adv,ho] at hR
   dsimp only at hR
   rw [ends] at he
   revert hst2 hinv he
   have hfacts:=Ubz s (act q c) c
   have hcur2:=Usm (s:=s) (c:=c) (act q c)
   revert hR hstep hfacts hcur2
   generalize act q c = a
   intro hR hstep hfacts hcur2 he hst2 hinv
   refine xAAAAAAA hfacts fun f1 f2 f3 f4 f5 f6 f7 => ?_
   cases ha:a.again with
   | false =>
     rw [ha,if_neg Bool.false_ne_true] at hR
     exact ⟨m + 1,by omega,.go ready hfit (by rw [hstep]; exact hR)⟩
   | true =>
     rw [ha,if_pos rfl] at hR
     dsimp only at hst2
     rw [ha] at hst2 he
     simp only [Bool.not_true,Bool.false_or,Bool.and_eq_true,Bool.not_eq_true'] at hst2 he
     refine xEA (Option.isSome_iff_exists.mp hst2.1) fun g hg => ?_
     rw [hg] at he f7
     have f7:(s.goC a c).state = g:=f7
     cases hog:ofStr g with
     | none =>
       have:adv n (s.goC a c) c = s.goC a c:=by
         cases n with
         | zero => rfl
         | succ n => rw [adv,f7,hog]
       rw [this] at hR
       exact ⟨m + 1,by omega,.go ready hfit (by rw [hstep]; exact hR)⟩
     | some q' =>
       simp only [hog] at he
       obtain ⟨m',hm',hR'⟩:=chain n (s.goC a c) q' (k + 1) (by rw [f7]; exact Ubp hog) he (hinv ha) (by rw [f5,hd,hst2.2]; rfl) ((hcur2 ha hst2.1).trans hcur) (by
         rw [f2,f1,f6,ha,hst2.1]; exact hr) hc (by omega) m s' hR
       exact ⟨m' + 1,by omega,.go ready hfit (by rw [hstep]; exact hR')⟩
theorem Ueq:∀ (n:Nat) (s:PS) (c:Str),(adv n s c).signs = s.signs ∧ (adv n s c).closed = s.closed ∧ (adv n s c).isret = s.isret ∧ (adv n s c).serr = s.serr
 | 0,s,c => ⟨rfl,rfl,rfl,rfl⟩
 | n + 1,s,c => by
   rw [adv]
   cases ofStr s.state with
   | none => exact ⟨rfl,rfl,rfl,rfl⟩
   | some q =>
     dsimp only
     refine xAAAAAAA (Ubz s (act q c) c) fun f1 f2 f3 f4 f5 f6 f7 => ?_
     split
     · refine xAAAA (Ueq n (s.goC (act q c) c) c) fun g1 g2 g3 g4 => ?_
       exact ⟨g1.trans f1,g2.trans f2,g3.trans f3,g4.trans f4⟩
     · exact ⟨f1,f2,f3,f4⟩
theorem Uoh:∀ (n:Nat) (s:PS) (q:St) (k:Nat),s.state = q.str -> ends n q c = true -> Inv k s (some c) -> s.done = false -> okSign c -> c ≠ "" ->
   (adv n s c).done = false ∧ Sz (k + n) (adv n s c) ∧ (ofStr (adv n s c).state = none ∨ (adv n s c).pos = s.pos + 1 ∧ Inv (k + n) (adv n s c) none)
 | 0,s,q,k,hq,he,_,_,_,_ => by cases he
 | n + 1,s,q,k,hq,he,hI,hd,hc,hne => by
   have ho:ofStr s.state = some q:=by rw [hq,Uaq]
   have hst2:=Ugg q c
   have hst3:=Umd q c hne
   have hinv:=inv_go hI hq (ok_len hc) (.inl hne)
   rw [adv,ho]
   dsimp only
   rw [ends] at he
   have hfacts:=Ubz s (act q c) c
   have hszz:=goC_sz hI.sz (act q c) (ok_len hc)
   revert hst2 hst3 hinv he hfacts hszz
   generalize act q c = a
   intro he hst2 hst3 hinv hfacts hszz
   refine xAAAAAAA hfacts fun f1 f2 f3 f4 f5 f6 f7 => ?_
   dsimp only at hst3
   have hE:a.deed.isEnd = false:=by cases h:a.deed.isEnd with | false => rfl | true => rw [h] at hst3; cases hst3
   have hd':(s.goC a c).done = false:=by rw [f5,hd,hE]; rfl
   cases ha:a.again with
   | false =>
     rw [ha,if_neg Bool.false_ne_true] at hinv
     rw [if_neg Bool.false_ne_true]
     refine ⟨hd',hszz.mono (by omega),.inr ⟨by rw [f6,ha]; rfl,hinv.pos,hinv.sz.mono (by omega),hinv.dk⟩⟩
   | true =>
     rw [ha,if_pos rfl] at hinv
     rw [if_pos rfl]
     dsimp only at hst2
     rw [ha] at hst2 he
     simp only [Bool.not_true,Bool.false_or,Bool.and_eq_true,Bool.not_eq_true'] at hst2 he
     refine xEA (Option.isSome_iff_exists.mp hst2.1) fun g hg => ?_
     rw [hg] at he f7
     have f7:(s.goC a c).state = g:=f7
     cases hog:ofStr g with
     | none =>
       have:adv n (s.goC a c) c = s.goC a c:=by
         cases n with
         | zero => rfl
         | succ n => rw [adv,f7,hog]
       rw [this]
       exact ⟨hd',hszz.mono (by omega),.inl (by rw [f7]; exact hog)⟩
     | some q' =>
       simp only [hog] at he
       refine xAAA (Uoh n (s.goC a c) q' (k + 1) (by rw [f7]; exact Ubp hog) he hinv hd' hc hne) fun r1 r2 r3 => ?_
       refine ⟨r1,r2.mono (by omega),r3.imp id fun qq => xAA qq fun p1 p2 => ⟨?_,p2.pos,p2.sz.mono (by omega),p2.dk⟩⟩
       rw [p1,f6,ha,hst2.1]; rfl
theorem Un1:∀ (n:Nat) (s:PS) (q:St),s.state = q.str -> endsE n q = true -> (adv n s "").done = true ∨ ofStr (adv n s "").state = none
 | 0,s,q,hq,he => by cases he
 | n + 1,s,q,hq,he => by
   have ho:ofStr s.state = some q:=by rw [hq,Uaq]
   rw [adv,ho]
   dsimp only
   rw [endsE] at he
   have hst2:=Ugg q ""
   have hfacts:=Ubz s (act q "") ""
   revert hst2 he hfacts
   generalize act q "" = a
   intro he hst2 hfacts
   refine xAAAAAAA hfacts fun f1 f2 f3 f4 f5 f6 f7 => ?_
   cases ha:a.again with
   | false =>
     rw [ha,if_neg Bool.false_ne_true] at he
     rw [if_neg Bool.false_ne_true]
     exact .inl (by rw [f5,he,Bool.or_true])
   | true =>
     rw [ha,if_pos rfl] at he
     rw [if_pos rfl]
     dsimp only at hst2
     rw [ha] at hst2
     simp only [Bool.not_true,Bool.false_or,Bool.and_eq_true,Bool.not_eq_true'] at hst2
     refine xEA (Option.isSome_iff_exists.mp hst2.1) fun g hg => ?_
     rw [hg] at he f7
     have f7:(s.goC a "").state = g:=f7
     cases hog:ofStr g with
     | none =>
       have:adv n (s.goC a "") "" = s.goC a "":=by
         cases n with
         | zero => rfl
         | succ n => rw [adv,f7,hog]
       rw [this]
       exact .inr (by rw [f7]; exact hog)
     | some q' =>
       simp only [hog] at he
       exact Un1 n (s.goC a "") q' (by rw [f7]; exact Ubp hog) he
theorem Ucw (n:Nat) (h:ofStr s.state = none):adv n s c = s:=by
 cases n with
 | zero => rfl
 | succ n => rw [adv,h]
theorem Uen:∀ (l:List Str) (s:PS),ofStr s.state = none -> l.foldl (adv 4) s = s
 | [],s,h => rfl
 | c :: l,s,h => by rw [List.foldl_cons,Ucw 4 h,Uen l s h]
structure Mid (k:Nat) (s:PS):Prop where
 done:s.done = false
 sz:Sz k s
 at_:ofStr s.state = none ∨ s.pos = s.signs.length ∧ Inv k s none
theorem cur_at {pre rest:List Str} (h1:s.signs = pre ++ c :: rest) (h2:s.pos = pre.length):s.cur = c ∧ s.pos < s.signs.length:=by
 have hl:s.pos < s.signs.length:=by rw [h1,h2]; simp; omega
 refine ⟨?_,hl⟩
 delta PS.cur
 rw [if_pos hl,h2,h1]
 simp
theorem Ukt:∀ (rest pre:List Str) (s:PS) (k:Nat),(ofStr s.state = none ∨ (s.signs = pre ++ rest ∧ s.pos = pre.length ∧ Inv k s none)) -> Sz k s -> s.done = false -> s.closed = false -> (∀ c ∈ rest,okSign c ∧ c ≠ "") -> k + 4 * rest.length <= 1500 ->
   (∃ m,m <= 4 * rest.length ∧ Runs s m (rest.foldl (adv 4) s)) ∧ Mid (k + 4 * rest.length) (rest.foldl (adv 4) s)
 | rest,pre,s,k,.inl hn,hz,hd,hc,hr,hk => by
   rw [Uen rest s hn]
   exact ⟨⟨0,Nat.zero_le _,.stop (by delta PS.ready; rw [hn]; simp)⟩,hd,hz.mono (by omega),.inl hn⟩
 | [],pre,s,k,.inr ⟨h1,h2,hI⟩,hz,hd,hc,hr,hk => by
   rw [List.append_nil] at h1
   refine ⟨⟨0,Nat.zero_le _,.stop ?_⟩,hd,hz,.inr ⟨by show s.pos = s.signs.length; rw [h1]; exact h2,hI⟩⟩
   show s.ready = false
   delta PS.ready
   rw [hc,h1,h2]; simp
 | c :: rest,pre,s,k,.inr ⟨h1,h2,hI⟩,hz,hd,hc,hr,hk => by
   refine xAA (hr c List.mem_cons_self) fun hok hne => ?_
   refine xAA (cur_at h1 h2) fun hcur hlt => ?_
   rw [List.foldl_cons]
   rw [List.length_cons] at hk ⊢
   cases ho:ofStr s.state with
   | none =>
     rw [Ucw 4 ho,Uen rest s ho]
     exact ⟨⟨0,Nat.zero_le _,.stop (by delta PS.ready; rw [ho]; simp)⟩,hd,hz.mono (by omega),.inl ho⟩
   | some q =>
     have hq:=Ubp ho
     refine xAAA (Uoh 4 s q k hq (Uit hok) hI.weak hd hok hne) fun a1 a2 a3 => ?_
     refine xAAAA (Ueq 4 s c) fun b1 b2 b3 b4 => ?_
     refine xAA (Ukt rest (pre ++ [c]) (adv 4 s c) (k + 4) (a3.imp id fun ⟨p1,p2⟩ => ⟨by rw [b1,h1]; simp,by rw [p1,h2]; simp,p2⟩) a2 a1 (b2.trans hc) (fun x m => hr x (List.mem_cons_of_mem _ m)) (by omega)) fun qz1 hM => ?_; obtain ⟨m,hm,hR⟩:=qz1
     refine xEAA (chain 4 s q k hq (Uit hok) hI.weak hd hcur (.inr hlt) hok (by omega) m _ hR) fun m' hm' hR' => ?_
     refine ⟨⟨m',by omega,hR'⟩,?_⟩
     rw [show k + 4 * (rest.length + 1) = k + 4 + 4 * rest.length by omega]
     exact hM
theorem Umv (h:Mid k s) (hc:s.closed = false) (x:Str) (hx:∀ c ∈ feedL s.isret x.cps.toList,okSign c ∧ c ≠ "") (hk:k + 4 * (feedL s.isret x.cps.toList).length <= 1500) :
   (∃ m,m <= 4 * (feedL s.isret x.cps.toList).length ∧ Runs (s.feed x) m ((feedL s.isret x.cps.toList).foldl (adv 4) (s.feed x))) ∧ Mid (k + 4 * (feedL s.isret x.cps.toList).length) ((feedL s.isret x.cps.toList).foldl (adv 4) (s.feed x)):=by
 refine Ukt (feedL s.isret x.cps.toList) s.signs (s.feed x) k (h.at_.imp id fun qq => xAA qq fun h1 h2 => ⟨rfl,h1,h2.pos,⟨h2.sz.out,h2.sz.errs,h2.sz.dr⟩,fun q hq => ?_⟩) ⟨h.sz.out,h.sz.errs,h.sz.dr⟩ h.done hc hx hk
 have:=h2.dk q hq
 revert this
 generalize need q none = x
 intro this
 match x,this with
 | 0,h => exact h
 | 1,h => exact h
 | x + 2,h => exact h
theorem Upd (h:Mid k s) (hk:k <= 1400):∃ m,m <= 4 ∧ Runs s.end m (adv 4 s.end ""):=by
 rcases h.at_ with hn | ⟨h1,h2⟩
 · have hn':ofStr s.end.state = none:=hn
   rw [Ucw 4 hn']
   exact ⟨0,Nat.zero_le _,.stop (by delta PS.ready; rw [hn']; simp)⟩
 · cases ho:ofStr s.state with
   | none =>
     have hn':ofStr s.end.state = none:=ho
     rw [Ucw 4 hn']
     exact ⟨0,Nat.zero_le _,.stop (by delta PS.ready; rw [hn']; simp)⟩
   | some q =>
     have hq:s.end.state = q.str:=Ubp ho
     have hI:Inv k s.end none:=⟨h2.pos,⟨h2.sz.out,h2.sz.errs,h2.sz.dr⟩,fun q hq => by
       have:=h2.dk q hq
       revert this
       generalize need q none = x
       intro this
       match x,this with
       | 0,h => exact h
       | 1,h => exact h
       | x + 2,h => exact h⟩
     have hcur:s.end.cur = "":=by
       delta PS.cur
       rw [if_neg]
       show ¬ (s.pos < s.signs.length)
       rw [h1]; omega
     have hfin:=Un1 4 s.end q hq (Upb q)
     obtain ⟨m',hm',hR'⟩:=chain 4 s.end q k hq (Uit (.inl rfl)) hI.weak h.done hcur (.inl rfl) (.inl rfl) (by omega) 0 _ (.stop (by
       delta PS.ready
       rcases hfin with e | e
       · rw [e]; rfl
       · rw [e]; simp))
     exact ⟨m',by omega,hR'⟩
end
end Mine
end
section
open PySem PySem.W
namespace Mine
section
section
variable {p:Params} {σ σ' σ₁:Store} {n d:Nat} {Q:V -> Store -> Prop} {k:V -> M Fl}
theorem Unw {o:V} {elt:V -> M V} {test:V -> M Bool} (f:V -> Option V) (items:List V) (hd:∀ k,k <= items.length -> drawV o k σ = some items[k]?)
   (ht:∀ v ∈ items,(f v = Option.none ∧ test v σ = some (false,σ)) ∨ ∃ w,f v = some w ∧ test v σ = some (true,σ) ∧ elt v σ = some (w,σ)) :
   ∀ (rest pre:List V) (n:Nat) (acc:List V),items = pre ++ rest -> rest.length < n -> acc.length + rest.length < lim -> compK o elt test n pre.length acc σ = some (.lst (acc ++ rest.filterMap f),σ)
 | [],pre,0,acc,h,hn,hl => absurd hn (Nat.not_lt_zero _)
 | c :: r,pre,0,acc,h,hn,hl => absurd hn (Nat.not_lt_zero _)
 | [],pre,n + 1,acc,h,hn,hl => by
   rw [compK]
   have e:=hd pre.length (by rw [h]; simp)
   rw [bnd_of (a:=none) (σ₁:=σ) (by delta look; rw [e,h]; simp)]
   simp [ret]
 | c :: r,pre,n + 1,acc,h,hn,hl => by
   rw [compK]
   have e:=hd pre.length (by rw [h]; simp)
   rw [bnd_of (a:=some c) (σ₁:=σ) (by delta look; rw [e,h]; simp)]
   have ih:=fun acc' hl' => Unw f items hd ht r (pre ++ [c]) n acc' (by rw [h]; simp) (by rw [List.length_cons] at hn; omega) hl'
   rw [List.length_append,List.length_singleton] at ih
   rw [List.length_cons] at hl
   rcases ht c (by rw [h]; simp) with ⟨h1,h2⟩ | ⟨w,h1,h2,h3⟩
   · show (bnd (test c) fun b => if b = true then bnd (elt c) (fun w => if acc.length < lim then compK o elt test n (pre.length + 1) (acc ++ [w]) else fail) else compK o elt test n (pre.length + 1) acc) σ = _
     rw [bnd_of h2,if_neg Bool.false_ne_true,ih acc (by omega),List.filterMap_cons,h1]
   · show (bnd (test c) fun b => if b = true then bnd (elt c) (fun w => if acc.length < lim then compK o elt test n (pre.length + 1) (acc ++ [w]) else fail) else compK o elt test n (pre.length + 1) acc) σ = _
     rw [bnd_of h2,if_pos rfl,bnd_of h3,if_pos (by omega),ih (acc ++ [w]) (by simp; omega),List.filterMap_cons,h1]
     simp
theorem Ulj {o:V} {elt:V -> M V} {test:V -> M Bool} (f:V -> Option V) (items:List V) (hd:∀ k,k <= items.length -> drawV o k σ = some items[k]?)
   (ht:∀ v ∈ items,(f v = Option.none ∧ test v σ = some (false,σ)) ∨ ∃ w,f v = some w ∧ test v σ = some (true,σ) ∧ elt v σ = some (w,σ)) (hl:items.length < 200) :
   compK o elt test 200 0 [] σ = some (.lst (items.filterMap f),σ):=by
 have:=Unw f items hd ht items [] 200 [] rfl hl (by delta lim; simp; omega)
 simpa using this
theorem Un9 {a b:Int} {k:Nat}:drawV (.rng a b 1) k σ = some (if a + (k:Int) * 1 < b then some (.int (a + (k:Int) * 1)) else none):=by
 show (if (0:Int) < 1 then some (if a + (k:Int) * 1 < b then some (V.int (a + (k:Int) * 1)) else none) else none) = _
 rw [if_pos (by decide)]
theorem Ukf {vs:List V} (k:Nat):drawV (.lst vs) k σ = some vs[k]?:=rfl
theorem Uqg {r i:Nat} {es es':List (Str × V)} {x:Str} {v:V} (h:σ.get r i = some (.dict es)) (hl:es.length < lim) (hx:setK x v es = es'):setItemV (.ref r i) (.str x) v σ = some ((),σ.put r i (.dict es')):=by
 subst hx; exact (ob_of (f:=_) (Ufp h)).trans (if_pos hl)
theorem RF.ext {r i:Nat} {vs:List V} {k:MK -> M Fl} {Q:V -> Store -> Prop} (h:σ.get r i = some (.list vs)) (g:RF (k (.bi .extend)) σ Q) :
   RF (bnd (look (methK (P p) (.ref r i) (Y "extend"))) fun m => if isRepl m then fail else k m) σ Q:=RF.ml h (by kernel_rfl) (by decide) g
theorem RF.upd {r i:Nat} {es:List (Str × V)} {k:MK -> M Fl} {Q:V -> Store -> Prop} (h:σ.get r i = some (.dict es)) (g:RF (k (.bi .update)) σ Q) :
   RF (bnd (look (methK (P p) (.ref r i) (Y "update"))) fun m => if isRepl m then fail else k m) σ Q:=RF.md h (by kernel_rfl) (by decide) g
theorem RF.getm {r i:Nat} {es:List (Str × V)} {k:MK -> M Fl} {Q:V -> Store -> Prop} (h:σ.get r i = some (.dict es)) (g:RF (k (.bi .get)) σ Q) :
   RF (bnd (look (methK (P p) (.ref r i) (Y "get"))) fun m => if isRepl m then fail else k m) σ Q:=RF.md h (by kernel_rfl) (by decide) g
theorem upd_of {c:CC} {r i r' i':Nat} {es fs es':List (Str × V)} (h:σ.get r i = some (.dict es)) (h':σ.get r' i' = some (.dict fs)) (hl:es.length + fs.length < lim) (hn:r ≠ r' ∨ i ≠ i') (he:updD es fs = es') :
   methodV c (.bi .update) (.ref r i) [.ref r' i'] σ = some (.none,σ.put r i (.dict es')):=by
 show ob (dref σ (.ref r i)) (fun z => ob (dref σ (.ref r' i')) _ _) _ = _
 rw [Ufp h]
 show ob (dref σ (.ref r' i')) _ _ = _
 rw [Ufp h',<- he]
 exact if_pos ⟨hl,hn⟩
theorem get_of {c:CC} {r i:Nat} {es:List (Str × V)} {x:Str} {v w:V} (h:σ.get r i = some (.dict es)) (hw:(lk x es).getD v = w):methodV c (.bi .get) (.ref r i) [.str x,v] σ = some (w,σ):=by
 show ob (dref σ (.ref r i)) _ _ = _
 rw [Ufp h,<- hw]; rfl
theorem Uqr {o:V} {vs:List V} {k:Nat} {v:V} (h:asSeq σ o = some vs) (hs:∀ s,o ≠ .str s) (hk:vs[k]? = some v):itemV o (.int k) σ = some v:=Uft h hs (Int.natCast_nonneg _) (by simpa using hk)
theorem RF.nd {r:Nat} {es:List (Str × V)} (hlen:σ.length = 24) (hr:r < 24) (g:∀ i,(σ.add r (.dict es)).get r i = some (.dict es) -> (∀ r' i' o,σ.get r' i' = some o -> (σ.add r (.dict es)).get r' i' = some o) -> (∃ l,σ[r]? = some l ∧ i = l.length) -> RF (k (.ref r i)) (σ.add r (.dict es)) Q):RF (bnd (newD r es) k) σ Q:=by
 refine xEA (reg_of hlen hr) fun l hl => ?_
 exact RF.b (Ui5 hl) (g l.length (Ubd hl) (fun r' i' o e => Ubq hl e) ⟨l,hl,rfl⟩)
end
end
section
section
variable {p:Params} {σ σ' σ₁:Store} {n d:Nat} {Q:V -> Store -> Prop} {k:V -> M Fl} {ν:Nf} {kd:Str} {cl:Bool} {ws ts:List V} {s:PS} {D:PD}
end
end
section
section
variable {p:Params} {σ σ' σ₁:Store} {n d:Nat} {Q:V -> Store -> Prop} {k:V -> M Fl} {ν:Nf} {kd:Str} {cl:Bool} {ws ts:List V} {s:PS} {D:PD} {A B:M Fl}
theorem RF.ct {a b:M Fl} (h:RF a σ Q):RF (cond true a b) σ Q:=h
theorem RF.cf {a b:M Fl} (h:RF b σ Q):RF (cond false a b) σ Q:=h
end
end
section
variable {σ:Store}
noncomputable def sw (a b:Nat) (l:List Nat):List Nat:=l.map fun c => if c = a then b else c
theorem Ulv (a b:Nat):∀ l:List Nat,a ∉ l -> sw a b l = l
 | [],_ => rfl
 | c :: r,h => by
   show (if c = a then b else c) :: sw a b r = _
   rw [if_neg (show ¬ c = a from fun e => h (by rw [e]; exact List.mem_cons_self)),Ulv a b r fun m => h (List.mem_cons_of_mem _ m)]
theorem Unx (a b:Nat):∀ ps:List Str,(∀ p ∈ ps,a ∉ p.cps.toList) -> sw a b (Str.join ⟨#[a]⟩ ps).cps.toList = (Str.join ⟨#[b]⟩ ps).cps.toList
 | [],_ => rfl
 | [p],h => Ulv a b _ (h p List.mem_cons_self)
 | p :: q :: r,h => by
   show sw a b (p ++ ⟨#[a]⟩ ++ Str.join ⟨#[a]⟩ (q :: r)).cps.toList = (p ++ ⟨#[b]⟩ ++ Str.join ⟨#[b]⟩ (q :: r)).cps.toList
   have ih:=Unx a b (q :: r) fun u m => h u (List.mem_cons_of_mem _ m)
   rw [Str.cps_append,Str.cps_append,Str.cps_append,Str.cps_append,Array.toList_append,Array.toList_append,Array.toList_append,Array.toList_append,<- ih]
   show List.map _ _ = _
   rw [List.map_append,List.map_append]
   show (sw a b _ ++ [if a = a then b else a]) ++ _ = _
   rw [Ulv a b _ (h p List.mem_cons_self),if_pos rfl]
   rfl
theorem Urf (x:Str) (a b:Nat):Txt.replace x (ch a) (ch b) = ⟨(sw a b x.cps.toList).toArray⟩:=by
 have h:(Txt.replace x (ch a) (ch b)).cps.toList = sw a b x.cps.toList:=by
   show (Txt.replace x ⟨#[a]⟩ ⟨#[b]⟩).cps.toList = _
   rw [StrLaws.replace_one,<- Unx a b _ (StrLaws.split_free x a),StrLaws.join_split]
 rw [<- h]
theorem Uqq {x:Str} (a b:Nat) (hab:(ch a == ch b) = false) (hx:∀ c ∈ x.cps.toList,c < 0x110000) (hb:b < 0x110000) (hl:x.length <= lim) :
   replS (.str x) (ch a) (ch b) σ = some (.str ⟨(sw a b x.cps.toList).toArray⟩,σ):=by
 show (if (ch b).length <= 14 ∧ (ch a == ch b) = false ∧ (Txt.replace x (ch a) (ch b)).cps.all (· < 0x110000) = true ∧ (Txt.replace x (ch a) (ch b)).length <= lim then ret (V.str (Txt.replace x (ch a) (ch b))) else fail) σ = _
 rw [Urf,if_pos]
 · rfl
 · refine ⟨Nat.le_add_left 1 13,hab,?_,?_⟩
   · rw [<- Array.all_toList,List.all_eq_true]
     intro c hc
     refine xEAA (List.mem_map.mp hc) fun d m e => decide_eq_true ?_
     rw [<- e]; split
     · exact hb
     · exact hx d m
   · exact Nat.le_trans (Nat.le_of_eq (List.length_map _)) hl
end
section
theorem Uii (n k:Nat):clipAt n (k:Int) = min k n:=by
 delta clipAt
 rw [if_neg (by omega)]
 omega
theorem Uko {α:Type} {l:List α} {n a:Nat} (h:l.length <= n):l.drop (min a n) = l.drop a:=by
 rcases Nat.le_total a n with q | q
 · rw [Nat.min_eq_left q]
 · rw [Nat.min_eq_right q,List.drop_eq_nil_of_le h,List.drop_eq_nil_of_le (Nat.le_trans h q)]
theorem Uqn {α:Type} {l:List α} {b:Nat}:l.take (min b l.length) = l.take b:=by
 rcases Nat.le_total b l.length with q | q
 · rw [Nat.min_eq_left q]
 · rw [Nat.min_eq_right q,List.take_length,List.take_of_length_le q]
theorem Uir {α:Type} (a b:Nat) (l:List α) (h:a <= b):sliceL (some (a:Int)) (some (b:Int)) l = (l.drop a).take (b - a):=by
 show (l.drop (clipAt l.length a)).take (clipAt l.length b - clipAt l.length a) = _
 rw [Uii,Uii,<- List.drop_take,<- List.drop_take,Uqn,Uko (Nat.le_trans (Nat.le_of_eq List.length_take) (Nat.min_le_right _ _))]
theorem Ukh {α:Type} (a:Nat) (l:List α):sliceL (some (a:Int)) none l = l.drop a:=by
 show (l.drop (clipAt l.length a)).take (l.length - clipAt l.length a) = _
 rw [Uii,<- List.drop_take,List.take_length,Uko (Nat.le_refl _)]
noncomputable def pickC (L:List Nat) (m:Int) (i:Int):Nat:=L.getD (i.fmod m).toNat 0
section
variable {p:Params} {σ σ' σ₁:Store} {n d:Nat} {x:Str}
theorem Ui8 (l:List Nat):strsOf (l.map fun c => V.str (ch c)) = some (l.map ch):=by
 induction l with
 | nil => rfl
 | cons a r ih => exact ob_of (f:=fun ds => some (ch a :: ds)) (z:=none) ih
theorem Unt {c:CC} (l:List Nat) (hl:l.length <= 1000):methodV c (.bi .join) (.str (Y "")) [.lst (l.map fun c => V.str (ch c))] σ = some (.str (joinS (l.map ch)),σ):=by
 show ob (strsOf (l.map fun c => V.str (ch c))) _ _ = _
 rw [Ui8]
 refine if_pos ⟨?_,by rw [List.length_map]; exact hl,rfl⟩
 rw [List.map_map]
 have:∀ l:List Nat,(l.map ((·.length) ∘ ch)).sum = l.length:=fun l => by
   induction l with
   | nil => rfl
   | cons a r ih => rw [List.map_cons,List.sum_cons,ih]; show 1 + r.length = _; simp; omega
 rw [this]
 delta lim
 omega
theorem Umt (L:List Nat) (m:Nat) (hm:0 < m) (hL:L.length = m) (is:List Int) (hl:is.length < 200) :
   compK (.lst (is.map .int)) (fun x4 => bnd (bnd (look (binV .Mod x4 (.int m))) fun x5 => bnd (look (itemV (.lst (L.map fun c => V.str (ch c))) x5)) fun x6 => ret (.ret x6)) unFl) (fun x4 => ret true) 200 0 [] σ
     = some (.lst ((is.map (pickC L m)).map fun c => V.str (ch c)),σ):=by
 let f:V -> Option V:=fun v => match v with
   | .int i => some (.str (ch (pickC L m i)))
   | _ => none
 rw [Ulj f (is.map .int) (fun k w0 => Ukf k) (fun v hv => ?_) (by rw [List.length_map]; exact hl)]
 · rw [List.filterMap_map,List.map_map]
   have e:(f ∘ V.int) = fun i => some (V.str (ch (pickC L m i))):=rfl
   rw [e,List.filterMap_eq_map']
   rfl
 · refine xEAA (List.mem_map.mp hv) fun i hi qz1 => ?_; subst qz1
   refine .inr ⟨.str (ch (pickC L m i)),rfl,rfl,?_⟩
   have h0:0 <= i.fmod m:=Int.fmod_nonneg_of_pos _ (by omega)
   have h1:i.fmod m < m:=Int.fmod_lt_of_pos _ (by omega)
   have hb:look (binV .Mod (.int i) (.int m)) σ = some (.int (i.fmod m),σ):=by
     have e:binV .Mod (.int i) (.int m) σ = some (.int (i.fmod m)):=if_pos (show (0:Int) < m by omega)
     delta look; rw [e]
   have hk:(i.fmod m).toNat < L.length:=by omega
   have hit:look (itemV (.lst (L.map fun c => V.str (ch c))) (.int (i.fmod m))) σ = some (.str (ch (pickC L m i)),σ):=by
     delta look
     rw [Uft (vs:=L.map fun c => V.str (ch c)) rfl (fun w0 e => by cases e) h0 (v:=.str (ch (pickC L m i)))]
     rw [List.getElem?_map]
     delta pickC
     rw [List.getD_eq_getElem?_getD,List.getElem?_eq_getElem hk]
     rfl
   refine ba_of hb ?_; refine ba_of hit ?_
   rfl
end
end
section
structure Grow (σ σ':Store):Prop where
 len:σ'.length = σ.length
 keep:∀ r i o,σ.get r i = some o -> σ'.get r i = some o
section
variable {p:Params} {σ σ' σ₁ σ0:Store} {n d i:Nat} {x:Str} {Q:V -> Store -> Prop} {k:V -> M Fl} {vs ws:List V} {v:V} {c:CC}
theorem Grow.rfl:Grow σ σ:=⟨Eq.refl _,fun w0 w0 w0 h => h⟩
theorem Grow.trans {a b c:Store} (x:Grow a b) (y:Grow b c):Grow a c:=⟨y.len.trans x.len,fun r i o h => y.keep r i o (x.keep r i o h)⟩
theorem Uhg {r:Nat} {l:List Ob} (h:σ[r]? = some l):σ.get r l.length = none:=by delta Store.get; rw [h]; simp
theorem Usg {a b:V} {us vs:List V} (ha:asList σ a = some us) (hb:asList σ b = some vs) (h1:∀ s,a ≠ .str s) (h2:∀ i,a ≠ .int i) (hl:us.length + vs.length <= lim):binV .Add a b σ = some (.lst (us ++ vs)):=by
 have e:ob2 (asList σ) a b (fun x y => if x.length + y.length <= lim then some (.lst (x ++ y)) else none) none = some (V.lst (us ++ vs)):=(ob_of ha).trans ((ob_of hb).trans (if_pos hl))
 cases a with
 | str s => exact absurd rfl (h1 s)
 | int i => exact absurd rfl (h2 i)
 | _ => exact e
end
end
section
theorem Unz {σ:Store} {n:Nat} {vs:List V} {ds:List PyData} (h:toDs σ n vs = some ds):toD σ (n + 1) (.lst vs) = some (.list ds):=ob_of (f:=fun ds => some (PyData.list ds)) (z:=Option.none) h
theorem Ulg {σ:Store} {n:Nat} {vs:List V} {ds:List PyData} (h:toDs σ n vs = some ds):toD σ (n + 1) (.tup vs) = some (.tuple ds):=ob_of (f:=fun ds => some (PyData.tuple ds)) (z:=Option.none) h
theorem Ufr {σ:Store} {n r i:Nat} {vs:List V} {ds:List PyData} (ho:σ.get r i = some (.list vs)) (h:toDs σ n vs = some ds):toD σ (n + 1) (.ref r i) = some (.list ds) :=
 (ob_of (f:=fun vs => ob (toDs σ n vs) (fun ds => some (PyData.list ds)) Option.none) (asl_of ho)).trans (ob_of h)
theorem Ubx {σ:Store} {n:Nat} {v:V} {d:PyData} {r:List V} {ds:List PyData} (h:toD σ n v = some d) (g:toDs σ n r = some ds):toDs σ n (v :: r) = some (d :: ds):=(ob_of h).trans (ob_of (f:=fun ds => some (d :: ds)) g)
theorem eqG_of {σ:Store} {a b:V} {x y:PyData} (h:toD σ 8 a = some x) (g:toD σ 8 b = some y):eqG σ a b = some (PyData.eqv x y):=(ob_of h).trans (ob_of g)
theorem Uiz:∀ {v:V} {d:PyData},scal v = some d -> PyData.eqv d d = true
 | .none,_,e => by cases e; simp [PyData.eqv]
 | .bool _,_,e => by cases e; simp [PyData.eqv]
 | .int _,_,e => by cases e; simp [PyData.eqv]
 | .str _,_,e => by cases e; simp [PyData.eqv]
 | .tup _,_,e => by cases e
 | .lst _,_,e => by cases e
 | .rng _ _ _,_,e => by cases e
 | .ref _ _,_,e => by cases e
 | .fn _,_,e => by cases e
 | .bi _,_,e => by cases e
theorem Uhq {f:V -> Option PyData} (h:∀ v d,f v = some d -> PyData.eqv d d = true):∀ vs ds,allO f vs = some ds -> PyData.eqvAll ds ds = true
 | [],_,e => by cases e; simp [PyData.eqvAll]
 | v :: r,ds,e => obS e fun d hv e' => obS e' fun ds' hr e'' => by
   cases e''
   rw [PyData.eqvAll,h v d hv,Uhq h r ds' hr]; rfl
theorem Ugd (σ:Store):∀ (n:Nat) (v:V) (d:PyData),toD σ n v = some d -> PyData.eqv d d = true
 | 0,_,_,e => Uiz e
 | n + 1,v,d,e => by
   have e:ob (tupO v) (fun vs => ob (allO (toD σ n) vs) (fun ds => some (.tuple ds)) none) (ob (asList σ v) (fun vs => ob (allO (toD σ n) vs) (fun ds => some (.list ds)) none) (scal v)) = some d:=e
   cases ht:tupO v with
   | some vs =>
     rw [ht] at e
     exact obS e fun ds hs e' => by cases e'; rw [PyData.eqv]; exact Uhq (Ugd σ n) _ _ hs
   | none =>
     rw [ht] at e
     have e:ob (asList σ v) (fun vs => ob (allO (toD σ n) vs) (fun ds => some (.list ds)) none) (scal v) = some d:=e
     cases hl:asList σ v with
     | some vs =>
       rw [hl] at e
       exact obS e fun ds hs e' => by cases e'; rw [PyData.eqv]; exact Uhq (Ugd σ n) _ _ hs
     | none => rw [hl] at e; exact Uiz e
noncomputable def Pl (n:Nat) (v:V):Prop:=∀ σ,∃ d,toD σ n v = some d
theorem Pl.sc {v:V} {d:PyData} (ht:tupO v = none) (hl:∀ σ,asList σ v = none) (h:scal v = some d):∀ {n:Nat},Pl n v
 | 0 => fun w0 => ⟨d,h⟩
 | _ + 1 => fun σ => ⟨d,(ob_no ht).trans ((ob_no (hl σ)).trans h)⟩
theorem Pl.none {n:Nat}:Pl n .none:=Pl.sc rfl (fun w0 => rfl) rfl
theorem Pl.bool {n:Nat} {b:Bool}:Pl n (.bool b):=Pl.sc rfl (fun w0 => rfl) rfl
theorem Pl.int {n:Nat} {b:Int}:Pl n (.int b):=Pl.sc rfl (fun w0 => rfl) rfl
theorem Pl.str {n:Nat} {b:Str}:Pl n (.str b):=Pl.sc rfl (fun w0 => rfl) rfl
theorem Ull {n:Nat} {vs:List V} (h:∀ v ∈ vs,Pl n v) (σ:Store):∃ ds,toDs σ n vs = some ds:=by
 induction vs with
 | nil => exact ⟨_,rfl⟩
 | cons v r ih =>
   refine xEA (h v List.mem_cons_self σ) fun d hd => ?_
   refine xEA (ih fun u m => h u (List.mem_cons_of_mem _ m)) fun ds hds => ?_
   exact ⟨d :: ds,Ubx hd hds⟩
theorem Pl.tup {n:Nat} {vs:List V} (h:∀ v ∈ vs,Pl n v):Pl (n + 1) (.tup vs):=fun σ => by
 refine xEA (Ull h σ) fun ds hd => ?_
 exact ⟨_,Ulg hd⟩
noncomputable def Ov (s:PS):Prop:=(∀ v ∈ s.out,Pl 6 v) ∧ ∀ v ∈ s.errs,Pl 6 v
theorem pl_tok (D:PD):Pl 6 D.tok:=by
 delta PD.tok
 split
 · exact Pl.tup fun v h => by simp at h; rcases h with rfl | rfl <;> exact Pl.str
 · refine Pl.tup fun v h => ?_
   simp at h
   rcases h with rfl | rfl | rfl | rfl
   · exact Pl.str
   · exact Pl.str
   · refine Pl.tup fun v h => ?_
     unfold kept at h
     refine xEAA (List.mem_map.mp h) fun a w0 qz1 => ?_; subst qz1
     exact Pl.tup fun v h => by simp at h; rcases h with rfl | rfl <;> exact Pl.str
   · exact Pl.bool
theorem pl_err (c:Str) (k:Int):Pl 6 (errV c k):=Pl.tup fun v h => by simp at h; rcases h with rfl | rfl; exact Pl.str; exact Pl.int
theorem pl_ch (c:Str):Pl 6 (chV c):=Pl.tup fun v h => by simp at h; rcases h with rfl | rfl <;> exact Pl.str
theorem pl_eof:Pl 6 eofV:=Pl.tup fun v h => by simp at h; rw [h]; exact Pl.str
theorem Ubm {l:List V} {v:V} (h:∀ v ∈ l,Pl 6 v) (hv:Pl 6 v):∀ u ∈ l ++ [v],Pl 6 u:=fun u m => by
 rcases List.mem_append.mp m with m | m
 · exact h u m
 · rw [List.mem_singleton] at m; rw [m]; exact hv
section
variable {s:PS} {c:Str} {k:Nat}
theorem Uns (h:Ov s):Ov s.emitDraft:=by
 delta PS.emitDraft
 cases s.draft with
 | none => exact h
 | some D =>
   refine ⟨Ubm h.1 (pl_tok D),?_⟩
   dsimp only
   split
   · refine Ubm ?_ (pl_err _ _)
     split
     · exact Ubm h.2 (pl_err _ _)
     · exact h.2
   · split
     · exact Ubm h.2 (pl_err _ _)
     · exact h.2
theorem Unr (h:Ov s) (d:Deed):Ov (s.deed d c):=by
 have lst:∀ f,Ov (s.last' f):=fun f => ⟨by rw [Ub0.1]; exact h.1,by rw [Ub0.2]; exact h.2⟩
 have new:Ov s.newAttr:=by delta PS.newAttr; cases s.draft <;> exact h
 cases d with
 | none => exact h
 | start => exact h
 | end_ => exact h
 | comment => exact h
 | lost =>
   show Ov (if (s.state == (Y "tag open")) = true then _ else _:PS).eof
   split
   · exact ⟨Ubm (Ubm h.1 (pl_ch _)) pl_eof,h.2⟩
   · exact ⟨Ubm (Ubm (Ubm h.1 (pl_ch _)) (pl_ch _)) pl_eof,h.2⟩
 | lone => exact ⟨Ubm h.1 (pl_ch _),h.2⟩
 | give => exact Uns h
 | close =>
   have:Ov s.closeIt:=by delta PS.closeIt; cases s.draft <;> exact h
   exact Uns this
 | put =>
   show Ov (if (s.state == (Y "tag name")) = true then _ else if (s.state == (Y "attribute name")) = true then _ else _:PS)
   split
   · delta PS.tagName; cases s.draft <;> exact h
   · split <;> exact lst _
 | quit => exact ⟨Ubm h.1 pl_eof,h.2⟩
 | new => exact new
 | first => exact ⟨by show ∀ v ∈ (s.newAttr.last' _).out,_; rw [Ub0.1]; exact new.1,by show ∀ v ∈ (s.newAttr.last' _).errs,_; rw [Ub0.2]; exact new.2⟩
 | check =>
   show Ov s.check
   delta PS.check
   split
   · exact ⟨(lst _).1,Ubm (lst _).2 (pl_err _ _)⟩
   · exact h
 | refer => exact h
theorem ov_go (h:Ov s) (a:Act):Ov (s.goC a c):=by
 obtain ⟨err,deed,goal,again⟩:=a
 have key:∀ s2:PS,Ov s2 -> Ov (s2.goto goal again):=by
   intro s2 h2
   delta PS.goto
   cases goal with
   | none => exact h2
   | some g => cases again <;> exact h2
 cases err with
 | none => exact key (s.nxt.deed deed c) (Unr (s:=s.nxt) h deed)
 | some e => exact key ((s.nxt.error e).deed deed c) (Unr (s:=s.nxt.error e) ⟨h.1,Ubm h.2 (pl_err _ _)⟩ deed)
theorem ov_adv:∀ (n:Nat) (s:PS),Ov s -> Ov (adv n s c)
 | 0,s,h => h
 | n + 1,s,h => by
   rw [adv]
   cases ofStr s.state with
   | none => exact h
   | some q =>
     dsimp only
     split
     · exact ov_adv n _ (ov_go h _)
     · exact ov_go h _
noncomputable def PS.wi (s:PS) (l:List Str) (cl ir:Bool):PS:={ s with signs:=l,closed:=cl,isret:=ir }
theorem Uje (l:List Str) (cl ir:Bool) (f:List PA -> PA -> PA):(s.wi l cl ir).last' f = (s.last' f).wi l cl ir:=by
 delta PS.last'
 show (match s.draft with | some D => _ | none => _) = _
 cases s.draft with
 | none => rfl
 | some D => dsimp only; cases D.attrs.getLast? <;> rfl
theorem Un4 (l:List Str) (cl ir:Bool):(s.wi l cl ir).emitDraft = s.emitDraft.wi l cl ir:=by
 obtain ⟨pos,state,back,last,out,errs,draft,done,signs,closed,isret,serr⟩:=s
 cases draft <;> rfl
theorem wi_new (l:List Str) (cl ir:Bool):(s.wi l cl ir).newAttr = s.newAttr.wi l cl ir:=by
 obtain ⟨pos,state,back,last,out,errs,draft,done,signs,closed,isret,serr⟩:=s
 cases draft <;> rfl
theorem Unu (l:List Str) (cl ir:Bool) (d:Deed):(s.wi l cl ir).deed d c = (s.deed d c).wi l cl ir:=by
 cases d with
 | none => rfl
 | start => rfl
 | end_ => rfl
 | comment => rfl
 | lost =>
   show (if (s.state == (Y "tag open")) = true then _ else _:PS).eof = (if (s.state == (Y "tag open")) = true then _ else _:PS).eof.wi l cl ir
   split <;> rfl
 | lone => rfl
 | give => exact Un4 l cl ir
 | close =>
   show (s.wi l cl ir).closeIt.emitDraft = s.closeIt.emitDraft.wi l cl ir
   rw [<- Un4]
   congr 1
   obtain ⟨pos,state,back,last,out,errs,draft,done,signs,closed,isret,serr⟩:=s
   cases draft <;> rfl
 | put =>
   show (if (s.state == (Y "tag name")) = true then _ else if (s.state == (Y "attribute name")) = true then _ else _:PS) = (if (s.state == (Y "tag name")) = true then _ else if (s.state == (Y "attribute name")) = true then _ else _:PS).wi l cl ir
   split
   · obtain ⟨pos,state,back,last,out,errs,draft,done,signs,closed,isret,serr⟩:=s
     cases draft <;> rfl
   · split
     · exact Uje l cl ir _
     · exact Uje l cl ir _
 | quit => rfl
 | new => exact wi_new l cl ir
 | first =>
   show (s.wi l cl ir).newAttr.addName c = (s.newAttr.addName c).wi l cl ir
   rw [wi_new]
   exact Uje l cl ir _
 | check =>
   show (s.wi l cl ir).check = s.check.wi l cl ir
   delta PS.check
   have e:(s.wi l cl ir).isTold = s.isTold:=rfl
   rw [e]
   split
   · rw [Uje]; rfl
   · rfl
 | refer => rfl
theorem wi_go (l:List Str) (cl ir:Bool) (a:Act):(s.wi l cl ir).goC a c = (s.goC a c).wi l cl ir:=by
 obtain ⟨err,deed,goal,again⟩:=a
 have key:∀ s2:PS,(s2.wi l cl ir).goto goal again = (s2.goto goal again).wi l cl ir:=by
   intro s2
   cases goal with
   | none => rfl
   | some g => cases again <;> rfl
 cases err with
 | none =>
   show ((s.nxt.wi l cl ir).deed deed c).goto goal again = ((s.nxt.deed deed c).goto goal again).wi l cl ir
   rw [Unu,key]
 | some e =>
   show (((s.nxt.error e).wi l cl ir).deed deed c).goto goal again = (((s.nxt.error e).deed deed c).goto goal again).wi l cl ir
   rw [Unu,key]
theorem wi_adv (l:List Str) (cl ir:Bool):∀ (n:Nat) (s:PS),adv n (s.wi l cl ir) c = (adv n s c).wi l cl ir
 | 0,s => rfl
 | n + 1,s => by
   rw [adv,adv,show (s.wi l cl ir).state = s.state from rfl]
   cases ofStr s.state with
   | none => rfl
   | some q =>
     dsimp only
     rw [wi_go]
     split
     · exact wi_adv l cl ir n _
     · rfl
theorem Uoe (l:List Str) (cl ir:Bool):∀ (cs:List Str) (s:PS),cs.foldl (adv 4) (s.wi l cl ir) = (cs.foldl (adv 4) s).wi l cl ir
 | [],s => rfl
 | c :: r,s => by rw [List.foldl_cons,List.foldl_cons,wi_adv,Uoe]
end
end
section
section
variable {p:Params} {σ σ' σ₁:Store} {n d tb j k:Nat} {s x:PS} {l:List Str} {cl ir:Bool}
theorem Sz.wi (h:Sz k s):Sz k (s.wi l cl ir):=⟨h.out,h.errs,h.dr⟩
theorem Inv.wi {c:Option Str} (h:Inv k s c):Inv k (s.wi l cl ir) c:=⟨h.pos,h.sz.wi,fun q hq => by
 have:=h.dk q hq
 revert this
 generalize need q c = x
 intro this
 match x,this with
 | 0,h => exact h
 | 1,h => exact h
 | x + 2,h => exact h⟩
end
end
section
section
variable {p:Params} {σ σ' σ₁:Store} {n d tb j k sn:Nat} {s s0:PS} {cs:List Nat} {x y text:Str} {τ:Rf} {Q:Fl -> Store -> Prop}
end
end
section
section
variable {p:Params} {σ σ' σ₁:Store} {n d tb j k sn:Nat} {s s0:PS} {cs:List Nat} {x y text:Str} {τ:Rf} {Q:Fl -> Store -> Prop} {A B:M Fl}
theorem Uon (b:Bool):cmpV .Eq (.bool b) (.bool b) σ = some true:=by
 have e:eqV σ (.bool b) (.bool b) = some (PyData.eqv (.bool b) (.bool b)):=rfl
 rw [show PyData.eqv (.bool b) (.bool b) = true by simp [PyData.eqv]] at e
 exact e
theorem Urx (b:Bool):cmpV .NotEq (.bool b) (.bool b) σ = some false:=congrArg (Option.map (!·)) (Uon (σ:=σ) b)
end
end
section
theorem Uqd {L:List Nat} {m:Nat} (hm:0 < m) (hL:L.length = m) (i:Int):pickC L m i ∈ L:=by
 have h0:0 <= i.fmod m:=Int.fmod_nonneg_of_pos _ (by omega)
 have h1:i.fmod m < m:=Int.fmod_lt_of_pos _ (by omega)
 have hk:(i.fmod m).toNat < L.length:=by omega
 delta pickC
 rw [List.getD_eq_getElem?_getD,List.getElem?_eq_getElem hk]
 exact List.getElem_mem hk
section
variable {p:Params} {σ σ' σ₁:Store} {n d tb j k sn sd:Nat} {s s0 fin:PS} {cs:List Nat} {x y text:Str} {τ:Rf} {Q:V -> Store -> Prop} {K:V -> M Fl}
end
end
end Mine
end
section
open PySem PySem.W
namespace Mine
noncomputable def bls:List Nat:=[32,10,9,12]
noncomputable def nStop:List Nat:=[32,10,9,12,47,62,61]
noncomputable def nOdd:List Nat:=[34,39,60]
noncomputable def nWhy:Str:="unexpected-character-in-attribute-name"
noncomputable def vOdd:List Nat:=[34,39,60,61,96]
noncomputable def vWhy:Str:="unexpected-character-in-unquoted-attribute-value"
noncomputable def ofC (l:List Nat):Str:=⟨l.toArray⟩
noncomputable def repC (c:Nat):Nat:=if c = 0 then 0xFFFD else c
noncomputable def lowC (c:Nat):Nat:=if c = 0 then 0xFFFD else if 65 <= c ∧ c <= 90 then c + 32 else c
noncomputable def tk1 (odd:List Nat) (why:Str) (n:Int) (c:Nat):List V:=if c = 0 then [errV "unexpected-null-character" n] else if c ∈ odd then [errV why n] else []
noncomputable def tk (odd:List Nat) (why:Str):Int -> List Nat -> List V
 | _,[] => []
 | n,c :: r => tk1 odd why n c ++ tk odd why (n + 1) r
noncomputable def ms (B:PD) (la:Str) (n:Int) (st:Str) (E:List V) (A:List PA):PS:=⟨n,st,"data",la,[],E,some { B with attrs:=A },false,[],false,false,[]⟩
theorem Uku (a b:Nat):strLt (ch a) (ch b) = decide (a < b):=by 
 by_cases h:a < b
 · rw [decide_eq_true h]; exact decide_eq_true (List.cons_lt_cons_iff.mpr (.inl h))
 · rw [decide_eq_false h]; exact decide_eq_false fun e => (List.cons_lt_cons_iff.mp e).elim h fun qq => xAA qq fun w0 e => absurd e (List.not_lt_nil _)
theorem up_ch (c:Nat):isUpper (ch c) = decide (65 <= c ∧ c <= 90):=by
 have e1:(Y "A") = ch 65:=rfl
 have e2:(Y "Z") = ch 90:=rfl
 delta isUpper
 rw [e1,e2,Uku,Uku]
 by_cases h1:c < 65
 · simp [h1]; omega
 · by_cases h2:90 < c
   · simp [h1,h2]
   · simp [h1,h2]; omega
theorem low_ch (c:Nat):(if ch c == (Y "\x00") then (Y "�") else lowerS (ch c)) = ch (lowC c):=by
 have e0:(Y "\x00") = ch 0:=rfl
 rw [e0,Uan]
 delta lowC
 by_cases h:c = 0
 · subst h; rfl
 · rw [if_neg (by simpa using h),if_neg h]
   delta lowerS
   rw [up_ch]
   by_cases h2:65 <= c ∧ c <= 90
   · rw [if_pos (by simpa using h2),if_pos h2]; rfl
   · rw [if_neg (by simpa using h2),if_neg h2]
theorem rep_ch (c:Nat):repl (ch c) = ch (repC c):=by
 have e0:(Y "\x00") = ch 0:=rfl
 delta repl
 rw [e0,Uan]
 delta repC
 by_cases h:c = 0
 · subst h; rfl
 · rw [if_neg (by simpa using h),if_neg h]
theorem any_ch (l:List Nat) (c:Nat):(l.map ch).any (· == ch c) = decide (c ∈ l):=by
 rw [List.any_map]
 rw [Bool.eq_iff_iff]
 simp only [List.any_eq_true,Function.comp,Uan,beq_iff_eq,decide_eq_true_iff]
 constructor
 · rintro ⟨x,h,rfl⟩; exact h
 · intro h; exact ⟨c,h,rfl⟩
theorem Uct (c:Nat):isBlank (ch c) = decide (c ∈ bls):=by
 have:isBlank (ch c) = ([9,10,12,32].map ch).any (· == ch c):=rfl
 rw [this,any_ch]
 exact decide_eq_decide.mpr (List.Perm.mem_iff (List.isPerm_iff.mp rfl))
theorem nsub {c:Nat} {l m:List Nat} (e:l.all (m.contains ·) = true) (h:c ∉ m):c ∉ l:=fun q => h (List.contains_iff_mem.mp (List.all_eq_true.mp e c q))
theorem nne {c k:Nat} {m:List Nat} (e:m.contains k = true) (h:c ∉ m):c ≠ k:=fun q => h (q ▸ List.contains_iff_mem.mp e)
theorem dn {c:Nat} {l:List Nat} (h:c ∉ l):¬ (decide (c ∈ l) = true):=fun q => h (of_decide_eq_true q)
theorem dy {c:Nat} {l:List Nat} (h:c ∈ l):decide (c ∈ l) = true:=decide_eq_true h
theorem ch_ne (c:Nat):(ch c == (Y "")) = false:=by
 apply beq_eq_false_iff_ne.mpr
 intro e
 have e2:(1:Nat) = 0:=congrArg Str.length e
 exact absurd e2 (by decide)
theorem sl_ch (c:Nat):[(Y "/"),">",""].any (· == ch c) = decide (c = 47 ∨ c = 62):=by
 have e:[(Y "/"),">",""].any (· == ch c) = (ch 47 == ch c || (ch 62 == ch c || ((Y "") == ch c || false))):=rfl
 have e2:((Y "") == ch c) = false:=by rw [Bool.beq_comm]; exact ch_ne c
 rw [e,e2,Uan,Uan]
 rw [Bool.eq_iff_iff]
 simp
 omega
section
variable {B:PD} {la:Str} {n:Int} {c m:Nat} {q:St} {E:List V} {A:List PA} {x:PA} {s:PS} {st g e:Str}
theorem Ul2 (c:Str):∀ (k:Nat) (s:PS) (q:St),s.state = q.str -> ends k q c = true -> adv k s c = adv (k + 1) s c
 | 0,s,q,hq,h => by cases h
 | k + 1,s,q,hq,h => by
   rw [adv.eq_def (k + 1 + 1),adv.eq_def (k + 1)]
   dsimp only
   rw [hq,Uaq]
   dsimp only
   unfold ends at h
   cases ha:(act q c).again with
   | false => rfl
   | true =>
     rw [ha] at h
     rw [if_pos rfl,if_pos rfl]
     cases hg:(act q c).goal with
     | none => rw [hg] at h; cases h
     | some g =>
       rw [hg] at h
       have hs:(s.goC (act q c) c).state = g:=by rw [(Ubz s (act q c) c).2.2.2.2.2.2,hg]; rfl
       cases ho:ofStr g with
       | none => rw [Ucw _ (by rw [hs]; exact ho),Ucw _ (by rw [hs]; exact ho)]
       | some q' =>
         have h:(match ofStr g with | some q' => ends k q' c | none => true) = true:=h
         rw [ho] at h
         exact Ul2 c k _ q' (by rw [hs]; exact Ubp ho) h
theorem st_on {c:Str} (hc:okSign c) (hq:s.state = q.str) (h:(act q c).again = true):adv 4 s c = adv 4 (s.goC (act q c) c) c:=by
 rw [Ul2 c 4 s q hq (Uit hc),adv,hq,Uaq]
 dsimp only
 rw [h]; rfl
theorem st_to {c:Str} (hq:s.state = q.str) (h:(act q c).again = false):adv 4 s c = s.goC (act q c) c:=by
 rw [adv,hq,Uaq]
 dsimp only
 rw [h]; rfl
theorem g_on {c:Str}:(ms B la n st E A).goC ⟨none,.none,some g,true⟩ c = ms B la n g E A:=by
 show ms B la (n + 1 - 1) g E A = _; rw [Int.add_sub_cancel]
theorem g_eon {c:Str}:(ms B la n st E A).goC ⟨some e,.none,some g,true⟩ c = ms B la n g (E ++ [errV e n]) A:=by
 show ms B la (n + 1 - 1) g (E ++ [errV e (n + 1 - 1)]) A = _; rw [Int.add_sub_cancel]
theorem g_new {c:Str}:(ms B la n st E A).goC ⟨none,.new,some g,true⟩ c = ms B la n g E (A ++ [⟨"","",true⟩]):=by
 show ms B la (n + 1 - 1) g E (A ++ [⟨"","",true⟩]) = _; rw [Int.add_sub_cancel]
theorem Ues {f:List PA -> PA -> PA}:(ms B la n st E (A ++ [x])).last' f = ms B la n st E (A ++ [f A x]):=by
 delta PS.last'
 show (match (A ++ [x]).getLast? with | some a => (ms B la n st E (A ++ [x])).setDraft { B with attrs:=(A ++ [x]).dropLast ++ [f (A ++ [x]).dropLast a] } | none => _) = _
 rw [List.getLast?_concat,List.dropLast_concat]
 rfl
theorem Usc {c:Str}:(ms B la n st E A).goC ⟨some e,.first,some g,false⟩ c = ms B la (n + 1) g (E ++ [errV e n]) (A ++ [⟨"" ++ c,"",true⟩]):=by
 show (PS.addName (ms B la (n + 1) st (E ++ [errV e (n + 1 - 1)]) (A ++ [⟨"","",true⟩])) c).to g = _
 delta PS.addName
 rw [Ues,Int.add_sub_cancel]
 rfl
noncomputable def ckE (n:Int) (E:List V) (A:List PA) (x:PA):List V:=if toldP A x then E ++ [errV "duplicate-attribute" n] else E
noncomputable def ckA (A:List PA) (x:PA):PA:=if toldP A x then { x with k:=false } else x
theorem Ul4:(ms B la (n + 1) st E (A ++ [x])).check = ms B la (n + 1) st (ckE n E A x) (A ++ [ckA A x]):=by
 delta PS.check
 have e:(ms B la (n + 1) st E (A ++ [x])).isTold = toldP A x:=by
   delta PS.isTold
   show (match (A ++ [x]).getLast? with | some a => toldP (A ++ [x]).dropLast a | none => false) = _
   rw [List.getLast?_concat,List.dropLast_concat]
 rw [e]
 delta ckE ckA
 cases toldP A x with
 | false => rfl
 | true =>
   rw [if_pos rfl,if_pos rfl,if_pos rfl,Ues]
   show ms B la (n + 1) st (E ++ [errV _ (n + 1 - 1)]) _ = _
   rw [Int.add_sub_cancel]
theorem g_cto {c:Str}:(ms B la n st E (A ++ [x])).goC ⟨none,.check,some g,false⟩ c = ms B la (n + 1) g (ckE n E A x) (A ++ [ckA A x]):=by
 show ((ms B la (n + 1) st E (A ++ [x])).check).to g = _
 rw [Ul4]; rfl
theorem g_con {c:Str}:(ms B la n st E (A ++ [x])).goC ⟨none,.check,some g,true⟩ c = ms B la n g (ckE n E A x) (A ++ [ckA A x]):=by
 show ((ms B la (n + 1) st E (A ++ [x])).check).again g = _
 rw [Ul4]
 show ms B la (n + 1 - 1) g _ _ = _
 rw [Int.add_sub_cancel]
 rfl
theorem Upt {c:Str}:(ms B la n "attribute name" E (A ++ [x])).deed .put c = ms B la n "attribute name" E (A ++ [{ x with n:=x.n ++ (if c == (Y "\x00") then (Y "�") else lowerS c) }]):=by
 have e:(ms B la n "attribute name" E (A ++ [x])).deed .put c = (ms B la n "attribute name" E (A ++ [x])).addName (if c == (Y "\x00") then (Y "�") else lowerS c):=by kernel_rfl
 rw [e]; exact Ues
theorem Ur3 {c:Str} (h1:(st == (Y "tag name")) = false) (h2:(st == (Y "attribute name")) = false):(ms B la n st E (A ++ [x])).deed .put c = ms B la n st E (A ++ [{ x with v:=x.v ++ repl c }]):=by
 have e:(ms B la n st E (A ++ [x])).deed .put c = (ms B la n st E (A ++ [x])).addValue (repl c):=by
   show (if (st == (Y "tag name")) = true then _ else if (st == (Y "attribute name")) = true then _ else _) = _
   rw [h1,h2]; rfl
 rw [e]; exact Ues
noncomputable def eL (e:Option Str) (n:Int):List V:=match e with
 | some e => [errV e n]
 | none => []
theorem g_put {c:Str} {o:Option Str}:s = ms B la n st E A -> s.goC ⟨o,.put,none,false⟩ c = (ms B la (n + 1) st (E ++ eL o n) A).deed .put c:=fun e => by
 subst e
 cases o with
 | none => show (ms B la (n + 1) st E A).deed .put c = _; delta eL; rw [List.append_nil]
 | some e => show (ms B la (n + 1) st (E ++ [errV e (n + 1 - 1)]) A).deed .put c = _; rw [Int.add_sub_cancel]; rfl
noncomputable def vErr (odd:List Nat) (why:Str) (c:Nat):Option Str:=if c = 0 then some "unexpected-null-character" else if c ∈ odd then some why else none
theorem Uoj (odd:List Nat) (why:Str):eL (vErr odd why c) n = tk1 odd why n c:=by
 delta vErr tk1
 by_cases h:c = 0
 · rw [if_pos h,if_pos h]; rfl
 · rw [if_neg h,if_neg h]
   by_cases h2:c ∈ odd
   · rw [if_pos h2,if_pos h2]; rfl
   · rw [if_neg h2,if_neg h2]; rfl
theorem eqc (k:Nat) (h:c ≠ k):(ch c == ch k) = false:=by rw [Uan]; simpa using h
theorem Umc (h:c ∉ nStop):act .name (ch c) = ⟨vErr nOdd nWhy c,.put,none,false⟩:=by
 show actName (ch c) = _
 delta actName
 rw [Uct,sl_ch,if_neg (dn (nsub (l:=bls) rfl h)),if_neg (fun q => (of_decide_eq_true q).elim (nne (k:=47) rfl h) (nne (k:=62) rfl h)),show Str.ofString "=" = ch 61 from rfl,eqc 61 (nne (k:=61) rfl h),if_neg Bool.false_ne_true,show Str.ofString "\x00" = ch 0 from rfl,Uan]
 delta vErr
 by_cases h0:c = 0
 · subst h0; rfl
 · rw [if_neg (by simpa using h0),if_neg h0]
   have:[(Y "\""),"'","<"].any (· == ch c) = decide (c ∈ nOdd):=any_ch nOdd c
   rw [this]
   by_cases h2:c ∈ nOdd
   · rw [if_pos (dy h2),if_pos h2]; rfl
   · rw [if_neg (dn h2),if_neg h2]
theorem Ugr {k:Nat} (h1:c ≠ k) (h2:c ≠ 38):actQuoted (ch k) (ch c) = ⟨vErr [] "" c,.put,none,false⟩:=by
 delta actQuoted
 rw [eqc k h1,if_neg Bool.false_ne_true,show Str.ofString "&" = ch 38 from rfl,eqc 38 h2,if_neg Bool.false_ne_true,show Str.ofString "\x00" = ch 0 from rfl,Uan,ch_ne,if_neg Bool.false_ne_true]
 delta vErr
 by_cases h0:c = 0
 · subst h0; rfl
 · rw [if_neg (by simpa using h0),if_neg h0,if_neg (by simp)]
theorem Uqe (h:c ∉ bls) (h1:c ≠ 62) (h2:c ≠ 38):act .bare (ch c) = ⟨vErr vOdd vWhy c,.put,none,false⟩:=by
 show actBare (ch c) = _
 delta actBare
 rw [Uct,if_neg (dn h),show Str.ofString "&" = ch 38 from rfl,eqc 38 h2,if_neg Bool.false_ne_true,show Str.ofString ">" = ch 62 from rfl,eqc 62 h1,if_neg Bool.false_ne_true,show Str.ofString "\x00" = ch 0 from rfl,Uan,ch_ne]
 delta vErr
 by_cases h0:c = 0
 · subst h0; rfl
 · rw [if_neg (by simpa using h0),if_neg h0,if_neg Bool.false_ne_true]
   have:[(Y "\""),"'","<","=","`"].any (· == ch c) = decide (c ∈ vOdd):=any_ch vOdd c
   rw [this]
   by_cases h2:c ∈ vOdd
   · rw [if_pos (dy h2),if_pos h2]; rfl
   · rw [if_neg (dn h2),if_neg h2]
theorem s_name (h:c ∉ nStop):adv 4 (ms B la n "attribute name" E (A ++ [x])) (ch c) = ms B la (n + 1) "attribute name" (E ++ tk1 nOdd nWhy n c) (A ++ [{ x with n:=x.n ++ ch (lowC c) }]):=by
 rw [st_to (q:=.name) rfl (by rw [Umc h]),Umc h,g_put rfl,Upt,low_ch,Uoj]
theorem s_val (h:act q (ch c) = ⟨vErr odd why c,.put,none,false⟩) (h1:(q.str == (Y "tag name")) = false) (h2:(q.str == (Y "attribute name")) = false) :
   adv 4 (ms B la n q.str E (A ++ [x])) (ch c) = ms B la (n + 1) q.str (E ++ tk1 odd why n c) (A ++ [{ x with v:=x.v ++ ch (repC c) }]):=by
 rw [st_to (q:=q) rfl (by rw [h]),h,g_put rfl,Ur3 h1 h2,rep_ch,Uoj]
theorem Uks (x:Str) (c:Nat) (l:List Nat):x ++ ch c ++ ofC l = x ++ ofC (c :: l):=by
 delta ofC ch
 show (⟨(x.cps ++ #[c]) ++ l.toArray⟩:Str) = ⟨x.cps ++ (c :: l).toArray⟩
 congr 1
 apply Array.ext'
 simp
theorem Uob (x:Str):x ++ ofC [] = x:=by
 show (⟨x.cps ++ #[]⟩:Str) = x
 rw [Array.append_empty]
theorem f_name:∀ (l:List Nat) (n:Int) (E:List V) (x:PA),(∀ c ∈ l,c ∉ nStop) -> (l.map ch).foldl (adv 4) (ms B la n "attribute name" E (A ++ [x])) = ms B la (n + l.length) "attribute name" (E ++ tk nOdd nWhy n l) (A ++ [{ x with n:=x.n ++ ofC (l.map lowC) }])
 | [],n,E,x,h => by
   show ms B la n _ E (A ++ [x]) = _
   rw [List.map_nil,Uob]
   delta tk
   rw [List.append_nil,List.length_nil,show n + ((0:Nat):Int) = n by omega]
 | c :: l,n,E,x,h => by
   rw [List.map_cons,List.foldl_cons,s_name (h c List.mem_cons_self),f_name l (n + 1) _ _ fun c m => h c (List.mem_cons_of_mem _ m)]
   rw [show tk nOdd nWhy n (c :: l) = tk1 nOdd nWhy n c ++ tk nOdd nWhy (n + 1) l from rfl,<- List.append_assoc,List.map_cons]
   dsimp only
   rw [Uks,List.length_cons,show n + 1 + (l.length:Int) = n + ((l.length + 1:Nat):Int) by omega]
theorem f_val {odd:List Nat} {why:Str} (h1:(q.str == (Y "tag name")) = false) (h2:(q.str == (Y "attribute name")) = false):∀ (l:List Nat) (n:Int) (E:List V) (x:PA),(∀ c ∈ l,act q (ch c) = ⟨vErr odd why c,.put,none,false⟩) ->
   (l.map ch).foldl (adv 4) (ms B la n q.str E (A ++ [x])) = ms B la (n + l.length) q.str (E ++ tk odd why n l) (A ++ [{ x with v:=x.v ++ ofC (l.map repC) }])
 | [],n,E,x,h => by
   show ms B la n _ E (A ++ [x]) = _
   rw [List.map_nil,Uob]
   delta tk
   rw [List.append_nil,List.length_nil,show n + ((0:Nat):Int) = n by omega]
 | c :: l,n,E,x,h => by
   rw [List.map_cons,List.foldl_cons,s_val (h c List.mem_cons_self) h1 h2,f_val h1 h2 l (n + 1) _ _ fun c m => h c (List.mem_cons_of_mem _ m)]
   rw [show tk odd why n (c :: l) = tk1 odd why n c ++ tk odd why (n + 1) l from rfl,<- List.append_assoc,List.map_cons]
   dsimp only
   rw [Uks,List.length_cons,show n + 1 + (l.length:Int) = n + ((l.length + 1:Nat):Int) by omega]
theorem tk_len (odd:List Nat) (why:Str):∀ (l:List Nat) (n:Int),(tk odd why n l).length <= l.length
 | [],n => Nat.le_refl 0
 | c :: l,n => by
   have:=tk_len odd why l (n + 1)
   have h1:(tk1 odd why n c).length <= 1:=by
     delta tk1
     split
     · exact Nat.le_refl 1
     · split
       · exact Nat.le_refl 1
       · exact Nat.zero_le 1
   show (tk1 odd why n c ++ tk odd why (n + 1) l).length <= _
   rw [List.length_append,List.length_cons]
   omega
theorem tk_app (odd:List Nat) (why:Str):∀ (a b:List Nat) (n:Int),tk odd why n (a ++ b) = tk odd why n a ++ tk odd why (n + a.length) b
 | [],b,n => by show tk odd why n b = _; delta tk; simp
 | c :: a,b,n => by
   show tk1 odd why n c ++ tk odd why (n + 1) (a ++ b) = (tk1 odd why n c ++ tk odd why (n + 1) a) ++ tk odd why (n + (c :: a).length) b
   rw [tk_app odd why a b,List.append_assoc,List.length_cons,show n + 1 + (a.length:Int) = n + ((a.length + 1:Nat):Int) by omega]
end
end Mine
end
section
open PySem PySem.W
namespace Mine
noncomputable def fE (kd:Str) (n:Int) (E:List V) (A:List PA) (cl:Bool):List V :=
 let e1:=if kd == "end" && 0 < A.length then E ++ [errV "end-tag-with-attributes" n] else E
 if kd == "end" && cl then e1 ++ [errV "end-tag-with-trailing-solidus" n] else e1
noncomputable def outS (B:PD) (la:Str) (n:Int) (E:List V) (A:List PA) (cl:Bool):PS :=
 ⟨n + 1,"data","data",if B.kind == "start" then B.name else la,[PD.tok ⟨B.kind,B.name,cl,A⟩],fE B.kind n E A cl,none,false,[],false,false,[]⟩
noncomputable def eofR (B:PD) (la:Str) (n:Int) (st:Str) (E:List V) (A:List PA):PS:=⟨n + 1,st,"data",la,[eofV],E ++ [errV "eof-in-tag" n],some { B with attrs:=A },true,[],false,false,[]⟩
section
variable {B:PD} {la:Str} {n:Int} {c m:Nat} {q:St} {E:List V} {A:List PA} {x:PA} {s:PS} {st g e:Str}
theorem okS (h:c ∈ okL):okSign (ch c):=.inr ⟨c,h,rfl⟩
theorem nb (k:Nat) (h:c = k) (hk:decide (k ∈ bls) = false):¬ decide (c ∈ bls) = true:=by subst h; rw [hk]; exact Bool.false_ne_true
theorem a_bl (h:c ∈ bls):act .befName (ch c) = ⟨none,.none,none,false⟩ ∧ act .aftName (ch c) = ⟨none,.none,none,false⟩ ∧ act .befVal (ch c) = ⟨none,.none,none,false⟩ ∧ act .bare (ch c) = ⟨none,.none,some "before attribute name",false⟩ ∧ act .aftVal (ch c) = ⟨none,.none,some "before attribute name",false⟩ ∧ act .name (ch c) = ⟨none,.check,some "after attribute name",true⟩ ∧ act .tagName (ch c) = ⟨none,.none,some "before attribute name",false⟩:=by
 have e:isBlank (ch c) = true:=by rw [Uct]; simpa using h
 exact ⟨if_pos e,if_pos e,if_pos e,if_pos e,if_pos e,if_pos e,if_pos e⟩
theorem t_bef (h:c ∈ bls):adv 4 (ms B la n "before attribute name" E A) (ch c) = ms B la (n + 1) "before attribute name" E A:=by rw [st_to (q:=.befName) rfl (by rw [(a_bl h).1]),(a_bl h).1]; rfl
theorem t_aft (h:c ∈ bls):adv 4 (ms B la n "after attribute name" E A) (ch c) = ms B la (n + 1) "after attribute name" E A:=by rw [st_to (q:=.aftName) rfl (by rw [(a_bl h).2.1]),(a_bl h).2.1]; rfl
theorem Uoz (h:c ∈ bls):adv 4 (ms B la n "before attribute value" E A) (ch c) = ms B la (n + 1) "before attribute value" E A:=by rw [st_to (q:=.befVal) rfl (by rw [(a_bl h).2.2.1]),(a_bl h).2.2.1]; rfl
theorem t_bare (h:c ∈ bls):adv 4 (ms B la n "attribute value (unquoted)" E A) (ch c) = ms B la (n + 1) "before attribute name" E A:=by rw [st_to (q:=.bare) rfl (by rw [(a_bl h).2.2.2.1]),(a_bl h).2.2.2.1]; rfl
theorem Uqh (h:c ∈ bls):adv 4 (ms B la n "after attribute value (quoted)" E A) (ch c) = ms B la (n + 1) "before attribute name" E A:=by rw [st_to (q:=.aftVal) rfl (by rw [(a_bl h).2.2.2.2.1]),(a_bl h).2.2.2.2.1]; rfl
theorem ok47:okSign (ch 47):=okS (by decide)
theorem ok62:okSign (ch 62):=okS (by decide)
theorem Ufq:adv 4 (ms B la n "after attribute name" E A) (ch 47) = ms B la (n + 1) "self-closing start tag" E A:=by
 have h:act .aftName (ch 47) = ⟨none,.none,some "self-closing start tag",false⟩:=by kernel_rfl
 rw [st_to (q:=.aftName) rfl (by rw [h]),h]; rfl
theorem Un2 (h:c = 47 ∨ c = 62):adv 4 (ms B la n "before attribute name" E A) (ch c) = adv 4 (ms B la n "after attribute name" E A) (ch c):=by
 have h1:act .befName (ch 47) = ⟨none,.none,some "after attribute name",true⟩:=by kernel_rfl
 have h2:act .befName (ch 62) = ⟨none,.none,some "after attribute name",true⟩:=by kernel_rfl
 rcases h with rfl | rfl
 · rw [st_on (q:=.befName) ok47 rfl (by rw [h1]),h1,g_on]
 · rw [st_on (q:=.befName) ok62 rfl (by rw [h2]),h2,g_on]
theorem Unv:adv 4 (ms B la n "before attribute name" E A) (ch 47) = ms B la (n + 1) "self-closing start tag" E A:=(Un2 (.inl rfl)).trans Ufq
theorem aft_gt:adv 4 (ms B la n "after attribute name" E A) (ch 62) = outS B la n E A B.closing:=by
 have h:act .aftName (ch 62) = ⟨none,.give,some "data",false⟩:=by kernel_rfl
 rw [st_to (q:=.aftName) rfl (by rw [h]),h]
 have e:(ms B la n "after attribute name" E A).goC ⟨none,.give,some "data",false⟩ (ch 62) = { outS B la n E A B.closing with errs:=fE B.kind (n + 1 - 1) E A B.closing }:=rfl
 rw [e,Int.add_sub_cancel]; rfl
theorem bef_gt:adv 4 (ms B la n "before attribute name" E A) (ch 62) = outS B la n E A B.closing:=(Un2 (.inr rfl)).trans aft_gt
theorem Uso:adv 4 (ms B la n "self-closing start tag" E A) (ch 62) = outS B la n E A true:=by
 have h:act .self (ch 62) = ⟨none,.close,some "data",false⟩:=by kernel_rfl
 rw [st_to (q:=.self) rfl (by rw [h]),h]
 have e:(ms B la n "self-closing start tag" E A).goC ⟨none,.close,some "data",false⟩ (ch 62) = { outS B la n E A true with errs:=fE B.kind (n + 1 - 1) E A true }:=rfl
 rw [e,Int.add_sub_cancel]; rfl
theorem self_o (hc:c ∈ okL) (h:c ≠ 62):adv 4 (ms B la n "self-closing start tag" E A) (ch c) = adv 4 (ms B la n "before attribute name" (E ++ [errV "unexpected-solidus-in-tag" n]) A) (ch c):=by
 have h1:act .self (ch c) = ⟨some "unexpected-solidus-in-tag",.none,some "before attribute name",true⟩:=by
   show actSelf (ch c) = _
   delta actSelf
   rw [show Str.ofString ">" = ch 62 from rfl,eqc 62 h,ch_ne,if_neg Bool.false_ne_true,if_neg Bool.false_ne_true]
 rw [st_on (q:=.self) (okS hc) rfl (by rw [h1]),h1,g_eon]
theorem a_new (h:c ∉ nStop):act .befName (ch c) = ⟨none,.new,some "attribute name",true⟩ ∧ act .aftName (ch c) = ⟨none,.new,some "attribute name",true⟩:=by
 simp only [nStop,List.mem_cons,List.not_mem_nil,or_false,not_or] at h
 have hb:¬ decide (c ∈ bls) = true:=by simp [bls]; omega
 refine ⟨?_,?_⟩
 · show actBefName (ch c) = _
   delta actBefName
   rw [Uct,sl_ch,if_neg hb,if_neg (by simp; omega),show Str.ofString "=" = ch 61 from rfl,eqc 61 (by omega),if_neg Bool.false_ne_true]
 · show actAftName (ch c) = _
   delta actAftName
   rw [Uct,if_neg hb,show Str.ofString "/" = ch 47 from rfl,eqc 47 (by omega),show Str.ofString "=" = ch 61 from rfl,eqc 61 (by omega),show Str.ofString ">" = ch 62 from rfl,eqc 62 (by omega),ch_ne]
   rfl
theorem t_new (hc:c ∈ okL) (h:c ∉ nStop) (hst:st = "before attribute name" ∨ st = "after attribute name"):adv 4 (ms B la n st E A) (ch c) = adv 4 (ms B la n "attribute name" E (A ++ [⟨"","",true⟩])) (ch c):=by
 rcases hst with rfl | rfl
 · rw [st_on (q:=.befName) (okS hc) rfl (by rw [(a_new h).1]),(a_new h).1,g_new]
 · rw [st_on (q:=.aftName) (okS hc) rfl (by rw [(a_new h).2]),(a_new h).2,g_new]
theorem Uq6:adv 4 (ms B la n "before attribute name" E A) (ch 61) = ms B la (n + 1) "attribute name" (E ++ [errV "unexpected-equals-sign-before-attribute-name" n]) (A ++ [⟨ch 61,"",true⟩]):=by
 have h:act .befName (ch 61) = ⟨some "unexpected-equals-sign-before-attribute-name",.first,some "attribute name",false⟩:=by kernel_rfl
 rw [st_to (q:=.befName) rfl (by rw [h]),h,Usc]; rfl
theorem t_eq:adv 4 (ms B la n "after attribute name" E A) (ch 61) = ms B la (n + 1) "before attribute value" E A:=by
 have h:act .aftName (ch 61) = ⟨none,.none,some "before attribute value",false⟩:=by kernel_rfl
 rw [st_to (q:=.aftName) rfl (by rw [h]),h]; rfl
theorem Uq4 (h:c ∈ nStop):adv 4 (ms B la n "attribute name" E (A ++ [x])) (ch c) = adv 4 (ms B la n "after attribute name" (ckE n E A x) (A ++ [ckA A x])) (ch c):=by
 have h61:act .name (ch 61) = ⟨none,.check,some "before attribute value",false⟩:=by kernel_rfl
 have h47:act .name (ch 47) = ⟨none,.check,some "after attribute name",true⟩:=by kernel_rfl
 have h62:act .name (ch 62) = ⟨none,.check,some "after attribute name",true⟩:=by kernel_rfl
 have on:c ∈ okL -> act .name (ch c) = ⟨none,.check,some "after attribute name",true⟩ -> adv 4 (ms B la n "attribute name" E (A ++ [x])) (ch c) = adv 4 (ms B la n "after attribute name" (ckE n E A x) (A ++ [ckA A x])) (ch c):=fun hc h => by
   rw [st_on (q:=.name) (okS hc) rfl (by rw [h]),h,g_con]
 simp only [nStop,List.mem_cons,List.not_mem_nil,or_false] at h
 rcases h with h | h | h | h | h | h | h
 · subst h; exact on (by decide) (a_bl (by decide)).2.2.2.2.2.1
 · subst h; exact on (by decide) (a_bl (by decide)).2.2.2.2.2.1
 · subst h; exact on (by decide) (a_bl (by decide)).2.2.2.2.2.1
 · subst h; exact on (by decide) (a_bl (by decide)).2.2.2.2.2.1
 · subst h; exact on (by decide) h47
 · subst h; exact on (by decide) h62
 · subst h; rw [st_to (q:=.name) rfl (by rw [h61]),h61,g_cto,t_eq]
theorem vdq:adv 4 (ms B la n "before attribute value" E A) (ch 34) = ms B la (n + 1) "attribute value (double-quoted)" E A:=by
 have h:act .befVal (ch 34) = ⟨none,.none,some "attribute value (double-quoted)",false⟩:=by kernel_rfl
 rw [st_to (q:=.befVal) rfl (by rw [h]),h]; rfl
theorem vsq:adv 4 (ms B la n "before attribute value" E A) (ch 39) = ms B la (n + 1) "attribute value (single-quoted)" E A:=by
 have h:act .befVal (ch 39) = ⟨none,.none,some "attribute value (single-quoted)",false⟩:=by kernel_rfl
 rw [st_to (q:=.befVal) rfl (by rw [h]),h]; rfl
theorem vgt:adv 4 (ms B la n "before attribute value" E A) (ch 62) = adv 4 (ms B la n "after attribute name" (E ++ [errV "missing-attribute-value" n]) A) (ch 62):=by
 have h:act .befVal (ch 62) = ⟨some "missing-attribute-value",.give,some "data",false⟩:=by kernel_rfl
 rw [st_to (q:=.befVal) rfl (by rw [h]),h,aft_gt]
 have e:(ms B la n "before attribute value" E A).goC ⟨some "missing-attribute-value",.give,some "data",false⟩ (ch 62) = { outS B la n (E ++ [errV "missing-attribute-value" (n + 1 - 1)]) A B.closing with errs:=fE B.kind (n + 1 - 1) (E ++ [errV "missing-attribute-value" (n + 1 - 1)]) A B.closing }:=rfl
 rw [e,Int.add_sub_cancel]; rfl
theorem vbare (hc:c ∈ okL) (h:c ∉ bls) (h1:c ≠ 34) (h2:c ≠ 39) (h3:c ≠ 62):adv 4 (ms B la n "before attribute value" E A) (ch c) = adv 4 (ms B la n "attribute value (unquoted)" E A) (ch c):=by
 have e:act .befVal (ch c) = ⟨none,.none,some "attribute value (unquoted)",true⟩:=by
   show actBefVal (ch c) = _
   delta actBefVal
   rw [Uct,if_neg (by simpa using h),show Str.ofString "\"" = ch 34 from rfl,eqc 34 h1,show Str.ofString "'" = ch 39 from rfl,eqc 39 h2,show Str.ofString ">" = ch 62 from rfl,eqc 62 h3]
   rfl
 rw [st_on (q:=.befVal) (okS hc) rfl (by rw [e]),e,g_on]
theorem c_dq:adv 4 (ms B la n "attribute value (double-quoted)" E A) (ch 34) = ms B la (n + 1) "after attribute value (quoted)" E A:=by
 have h:act .dq (ch 34) = ⟨none,.none,some "after attribute value (quoted)",false⟩:=by kernel_rfl
 rw [st_to (q:=.dq) rfl (by rw [h]),h]; rfl
theorem c_sq:adv 4 (ms B la n "attribute value (single-quoted)" E A) (ch 39) = ms B la (n + 1) "after attribute value (quoted)" E A:=by
 have h:act .sq (ch 39) = ⟨none,.none,some "after attribute value (quoted)",false⟩:=by kernel_rfl
 rw [st_to (q:=.sq) rfl (by rw [h]),h]; rfl
theorem r_of (hq:q = .dq ∨ q = .sq ∨ q = .bare):adv 4 (ms B la n q.str E A) (ch 38) = { ms B la (n + 1) "character reference" E A with back:=q.str }:=by
 have h:act q (ch 38) = ⟨none,.refer,some "character reference",false⟩:=by rcases hq with rfl | rfl | rfl <;> kernel_rfl
 rw [st_to (q:=q) rfl (by rw [h]),h]; rfl
theorem Uru:adv 4 (ms B la n "attribute value (unquoted)" E A) (ch 62) = outS B la n E A B.closing:=by
 have h:act .bare (ch 62) = ⟨none,.give,some "data",false⟩:=by kernel_rfl
 rw [st_to (q:=.bare) rfl (by rw [h]),h]
 have e:(ms B la n "attribute value (unquoted)" E A).goC ⟨none,.give,some "data",false⟩ (ch 62) = { outS B la n E A B.closing with errs:=fE B.kind (n + 1 - 1) E A B.closing }:=rfl
 rw [e,Int.add_sub_cancel]; rfl
theorem Uo3 (h:c ∈ bls ∨ c = 62):adv 4 (ms B la n "attribute value (unquoted)" E A) (ch c) = adv 4 (ms B la n "before attribute name" E A) (ch c):=by
 rcases h with h | rfl
 · rw [t_bare h,t_bef h]
 · rw [Uru,bef_gt]
theorem Ul9 (h:c ∈ bls ∨ c = 47 ∨ c = 62):adv 4 (ms B la n "after attribute value (quoted)" E A) (ch c) = adv 4 (ms B la n "before attribute name" E A) (ch c):=by
 have h1:act .aftVal (ch 47) = ⟨none,.none,some "self-closing start tag",false⟩:=by kernel_rfl
 have h2:act .aftVal (ch 62) = ⟨none,.give,some "data",false⟩:=by kernel_rfl
 rcases h with h | rfl | rfl
 · rw [Uqh h,t_bef h]
 · rw [st_to (q:=.aftVal) rfl (by rw [h1]),h1,Unv]; rfl
 · rw [st_to (q:=.aftVal) rfl (by rw [h2]),h2,bef_gt]
   have e:(ms B la n "after attribute value (quoted)" E A).goC ⟨none,.give,some "data",false⟩ (ch 62) = { outS B la n E A B.closing with errs:=fE B.kind (n + 1 - 1) E A B.closing }:=rfl
   rw [e,Int.add_sub_cancel]; rfl
theorem Uqa (hc:c ∈ okL) (h:c ∉ bls) (h1:c ≠ 47) (h2:c ≠ 62):adv 4 (ms B la n "after attribute value (quoted)" E A) (ch c) = adv 4 (ms B la n "before attribute name" (E ++ [errV "missing-whitespace-between-attributes" n]) A) (ch c):=by
 have e:act .aftVal (ch c) = ⟨some "missing-whitespace-between-attributes",.none,some "before attribute name",true⟩:=by
   show actAftVal (ch c) = _
   delta actAftVal
   rw [Uct,if_neg (by simpa using h),show Str.ofString "/" = ch 47 from rfl,eqc 47 h1,show Str.ofString ">" = ch 62 from rfl,eqc 62 h2,ch_ne]
   rfl
 rw [st_on (q:=.aftVal) (okS hc) rfl (by rw [e]),e,g_eon]
theorem ok0:okSign (Y ""):=.inl rfl
theorem e_of {st':Str} (hq:act q "" = ⟨some "eof-in-tag",.quit,none,false⟩):adv 4 (ms B la n q.str E A) "" = eofR B la n q.str E A:=by
 rw [st_to (q:=q) rfl (by rw [hq]),hq]
 have e:(ms B la n q.str E A).goC ⟨some "eof-in-tag",.quit,none,false⟩ "" = { eofR B la n q.str E A with errs:=E ++ [errV "eof-in-tag" (n + 1 - 1)] }:=rfl
 rw [e,Int.add_sub_cancel]; rfl
theorem e_aft:adv 4 (ms B la n "after attribute name" E A) "" = eofR B la n "after attribute name" E A:=e_of (q:=.aftName) (st':="") (by kernel_rfl)
theorem e_bef:adv 4 (ms B la n "before attribute name" E A) "" = eofR B la n "after attribute name" E A:=by
 have h:act .befName "" = ⟨none,.none,some "after attribute name",true⟩:=by kernel_rfl
 rw [st_on (q:=.befName) ok0 rfl (by rw [h]),h,g_on,e_aft]
theorem Up2:adv 4 (ms B la n "before attribute value" E A) "" = eofR B la n "attribute value (unquoted)" E A:=by
 have h:act .befVal "" = ⟨none,.none,some "attribute value (unquoted)",true⟩:=by kernel_rfl
 rw [st_on (q:=.befVal) ok0 rfl (by rw [h]),h,g_on]
 exact e_of (q:=.bare) (st':="") (by kernel_rfl)
theorem e_name:adv 4 (ms B la n "attribute name" E (A ++ [x])) "" = eofR B la n "after attribute name" (ckE n E A x) (A ++ [ckA A x]):=by
 have h:act .name "" = ⟨none,.check,some "after attribute name",true⟩:=by kernel_rfl
 rw [st_on (q:=.name) ok0 rfl (by rw [h]),h,g_con,e_aft]
theorem e_more (hq:q = .self ∨ q = .dq ∨ q = .sq ∨ q = .bare ∨ q = .aftVal):adv 4 (ms B la n q.str E A) "" = eofR B la n q.str E A:=by
 refine e_of (st':="") ?_
 rcases hq with rfl | rfl | rfl | rfl | rfl <;> kernel_rfl
end
end Mine
end
section
open PySem PySem.W
namespace Mine
structure LS (σ:Store) (e a:Nat) (E:List V) (as:List At):Prop where
 len:σ.length = 24
 err:σ.get 11 e = some (.list E)
 att:σ.get 12 a = some (.list (as.map fun x => .ref 13 x.i))
 each:∀ x ∈ as,σ.get 13 x.i = some (.list [.str x.n,.str x.v,.bool x.k])
 nd:(as.map (·.i)).Nodup
noncomputable def Hx (σ σ':Store):Prop:=∀ r,r ≠ 11 -> r ≠ 12 -> r ≠ 13 -> σ'[r]? = σ[r]?
noncomputable def sg (L:List Nat):V:=.lst (L.map fun c => .str (ch c))
section
variable {p:Params} {σ σ' σ₁ σ0:Store} {d e a:Nat} {E:List V} {as init:List At} {L odd stops:List Nat} {why:Str} {Q:V -> Store -> Prop} {c:CC} {v:V} {x:At}
theorem Hx.rfl:Hx σ σ:=fun w0 w0 w0 w0 => Eq.refl _
theorem Hx.trans {a b c:Store} (x:Hx a b) (y:Hx b c):Hx a c:=fun r h1 h2 h3 => (y r h1 h2 h3).trans (x r h1 h2 h3)
theorem Hx.put {r i:Nat} {o:Ob} (h:r = 11 ∨ r = 12 ∨ r = 13):Hx σ (σ.put r i o):=fun r' h1 h2 h3 => Uce fun e => by subst e; rcases h with h | h | h <;> contradiction
theorem Hx.add {r:Nat} {o:Ob} (h:r = 11 ∨ r = 12 ∨ r = 13):Hx σ (σ.add r o):=fun r' h1 h2 h3 => Ucp fun e => by subst e; rcases h with h | h | h <;> contradiction
theorem LS.setErr {E':List V} (h:LS σ e a E as):LS (σ.put 11 e (.list E')) e a E' as :=
 ⟨Uav.trans h.len,Uam h.err,by rw [Uag (by decide)]; exact h.att,fun x m => by rw [Uag (by decide)]; exact h.each x m,h.nd⟩
theorem Run.er {α:Type} {K:V -> M α} {Q:α -> Store -> Prop} (h:LS σ e a E as) (hl:E.length < 1000) (g:∀ σ',LS σ' e a (E ++ [v]) as -> Hx σ σ' -> Run (K .none) σ' Q) :
   Run (bnd (look (methK (P p) (.ref 11 e) (Y "append"))) fun m => if isRepl m then fail else bnd (methodV c m (.ref 11 e) [v]) K) σ Q :=
 Run.app h.err (Run.b (Uai h.err (by delta lim; omega)) (g _ h.setErr (Hx.put (.inl rfl))))
theorem RF.er {K:V -> M Fl} (h:LS σ e a E as) (hl:E.length < 1000) (g:∀ σ',LS σ' e a (E ++ [v]) as -> Hx σ σ' -> RF (K .none) σ' Q) :
   RF (bnd (look (methK (P p) (.ref 11 e) (Y "append"))) fun m => if isRepl m then fail else bnd (methodV c m (.ref 11 e) [v]) K) σ Q :=
 RF.app h.err (RF.b (Uai h.err (by delta lim; omega)) (g _ h.setErr (Hx.put (.inl rfl))))
theorem whileL {t:Fr -> M Bool} {b:Fr -> M Fl} {I:Nat -> Fr -> Store -> Prop} {J:Fr -> Store -> Prop} {R:V -> Store -> Prop}
   (step:∀ n fr σ,I n fr σ -> (t fr σ = some (false,σ) ∧ J fr σ) ∨ (t fr σ = some (true,σ) ∧ Run (b fr) σ fun fl σ' => (∃ fr' n',n' < n ∧ fl = .next fr' ∧ I n' fr' σ') ∨ ∃ v,fl = .ret v ∧ R v σ')) :
   ∀ (m n:Nat) (fr:Fr) (σ:Store),I n fr σ -> n < m -> Run (loopW t b m fr) σ fun fl σ' => (∃ fr',fl = .next fr' ∧ J fr' σ') ∨ ∃ v,fl = .ret v ∧ R v σ'
 | 0,n,fr,σ,hI,hn => absurd hn (Nat.not_lt_zero _)
 | m + 1,n,fr,σ,hI,hn => by
   rw [loopW]
   rcases step n fr σ hI with ⟨ht,hj⟩ | ⟨ht,hr⟩
   · refine Run.b ht ?_
     rw [if_neg Bool.false_ne_true]
     exact ⟨_,σ,rfl,.inl ⟨fr,rfl,hj⟩⟩
   · refine Run.b ht ?_
     rw [if_pos rfl]
     refine Run.c hr fun fl σ' h => ?_
     rcases h with ⟨fr',n',hlt,rfl,hI'⟩ | ⟨v,rfl,hv⟩
     · exact whileL step m n' fr' σ' hI' (by omega)
     · exact ⟨_,σ',rfl,.inr ⟨v,rfl,hv⟩⟩
theorem whileRun {t:Fr -> M Bool} {b:Fr -> M Fl} {J:Fr -> M Fl} {fr:Fr} {n:Nat} (I:Nat -> Fr -> Store -> Prop) (h:I n fr σ) (hn:n < 5000)
   (step:∀ n fr σ,I n fr σ -> (t fr σ = some (false,σ) ∧ RF (J fr) σ Q) ∨ (t fr σ = some (true,σ) ∧ Run (b fr) σ fun fl σ' => (∃ fr' n',n' < n ∧ fl = .next fr' ∧ I n' fr' σ') ∨ ∃ v,fl = .ret v ∧ Q v σ')) :
   RF (bnd (loopW t b 5000 fr) (goOn J)) σ Q:=by
 refine xEEAA (whileL (J:=fun fr σ => RF (J fr) σ Q) (R:=Q) step 5000 n fr σ h hn) fun fl σ1 e q => ?_
 refine RF.b e ?_
 rcases q with ⟨fr',rfl,hI⟩ | ⟨v,rfl,hR⟩
 · exact hI
 · exact RF.r hR
theorem sg_len (L:List Nat):builtinV .len [sg L] σ = some (.int L.length,σ):=by
 show some (V.int ((L.map _).length:Nat),σ) = _
 rw [List.length_map]
theorem Ub2 {k c:Nat} (h:L[k]? = some c):itemV (sg L) (.int k) σ = some (.str (ch c)) :=
 Uqr (vs:=L.map fun c => .str (ch c)) rfl (fun w0 e => by cases e) (by rw [List.getElem?_map,h]; rfl)
theorem sg_in (c:Nat) (l:List Nat):cmpV .In (.str (ch c)) (sg l) σ = some (decide (c ∈ l)):=by
 have e:cmpV .In (.str (ch c)) (sg l) σ = some ((l.map ch).any (· == ch c)):=ob_of (f:=fun l:List Str => some (l.any (· == ch c))) (z:=none) (Ui8 l)
 rw [e,any_ch]
theorem sg_nin (c:Nat) (l:List Nat):cmpV .NotIn (.str (ch c)) (sg l) σ = some (decide (c ∉ l)):=by
 show (cmpV .In (.str (ch c)) (sg l) σ).map (!·) = _
 rw [sg_in]
 show some (!decide (c ∈ l)) = _
 rw [decide_not]
theorem sg_add (a b:List Nat) (h:a.length + b.length <= 1000):binV .Add (sg a) (sg b) σ = some (sg (a ++ b)):=by
 delta sg
 rw [List.map_append]
 exact Usg rfl rfl (fun w0 e => by cases e) (fun w0 e => by cases e) (by rw [List.length_map,List.length_map]; delta lim; omega)
theorem Ufz {k m:Nat} (h:k <= m):sliceV (sg L) (some (.int k)) (some (.int m)) σ = some (sg ((L.drop k).take (m - k))):=by
 show some (V.lst (sliceL (some (k:Int)) (some (m:Int)) (L.map fun c => V.str (ch c)))) = _
 rw [Uir k m _ h,<- List.map_drop,<- List.map_take]
 rfl
theorem Udg:callK (P p) (d + 1) a__law_blanks [] σ = some (sg bls,σ):=by rw [Ugy]; rfl
theorem Uar (k:Nat):binV .Add (.int k) (.int 1) σ = some (.int ((k + 1:Nat):Int)):=rfl
theorem eq_ch (c k:Nat):cmpV .Eq (.str (ch c)) (.str (ch k)) σ = some (decide (c = k)):=by
 show some (ch c == ch k) = _
 rw [Uan]
 rfl
theorem ne_ch (c k:Nat):cmpV .NotEq (.str (ch c)) (.str (ch k)) σ = some (decide (c ≠ k)):=by
 show (some (ch c == ch k)).map (!·) = _
 rw [Uan]
 show some (!(c == k)) = _
 rw [decide_not]
 rfl
theorem eq_int (k m:Nat):cmpV .Eq (.int k) (.int m) σ = some (decide (k = m)):=by
 show some ((k:Int) == (m:Int)) = _
 congr 1
 rw [Bool.eq_iff_iff]
 simp
 omega
theorem lt_int (k m:Nat):cmpV .Lt (.int k) (.int m) σ = some (decide (k < m)):=by
 show some (decide ((k:Int) < (m:Int))) = _
 congr 1
 rw [Bool.eq_iff_iff]
 simp
theorem Ucf {k c:Nat} (h:L[k]? = some c):L.drop k = c :: L.drop (k + 1):=by
 rw [List.getElem?_eq_some_iff] at h
 obtain ⟨hk,h⟩:=h
 rw [List.drop_eq_getElem_cons hk,h]
theorem Ul7 {k j c:Nat} (hj:k <= j) (h:L[j]? = some c):(L.drop k).take (j + 1 - k) = (L.drop k).take (j - k) ++ [c]:=by
 have hjl:j < L.length:=by rw [List.getElem?_eq_some_iff] at h; exact h.1
 rw [show j + 1 - k = (j - k) + 1 by omega,List.take_add_one,List.getElem?_drop,show k + (j - k) = j by omega,h]
 rfl
theorem Uf1 {k:Nat} (L stops:List Nat) (hk:k <= L.length) (hL:L.length <= 100):∃ en,callK (P p) (d + 1) a__law_until [sg L,.int k,sg stops] σ = some (.int (en:Nat),σ) ∧ k <= en ∧ en <= L.length ∧ (∀ c ∈ (L.drop k).take (en - k),c ∉ stops) ∧ (∀ c,L[en]? = some c -> c ∈ stops):=by
 suffices H:Run (callK (P p) (d + 1) a__law_until [sg L,.int k,sg stops]) σ fun v σ' => σ' = σ ∧ ∃ en:Nat,v = .int en ∧ k <= en ∧ en <= L.length ∧ (∀ c ∈ (L.drop k).take (en - k),c ∉ stops) ∧ (∀ c,L[en]? = some c -> c ∈ stops) by
   refine xEEAAEAA H fun v σ' e qz1 en qz2 h => ?_; subst qz1; subst qz2
   exact ⟨en,e,h⟩
 rw [Uh7]
 show RF _ σ _
 delta F__law_until
 refine whileRun (n:=L.length - k) (fun n fr s => s = σ ∧ ∃ j:Nat,n = L.length - j ∧ fr = [(Y "signs",sg L),(Y "at",.int j),(Y "stops",sg stops)] ∧ k <= j ∧ j <= L.length ∧ (∀ c ∈ (L.drop k).take (j - k),c ∉ stops)) ⟨rfl,k,rfl,rfl,Nat.le_refl _,hk,by simp⟩ (by omega) fun n fr s hI => ?_
 refine xAEAAAAA hI fun qz1 j qz2 qz3 h1 h2 h3 => ?_; subst qz1; subst qz2; subst qz3
 rw [Ucu,Ucx]
 have fin:(∀ c,L[j]? = some c -> c ∈ stops) -> RF (J__law_until_0 p (callK (P p) d) [(Y "signs",sg L),(Y "at",.int j),(Y "stops",sg stops)]) s fun v σ' => σ' = s ∧ ∃ en:Nat,v = .int en ∧ k <= en ∧ en <= L.length ∧ (∀ c ∈ (L.drop k).take (en - k),c ∉ stops) ∧ (∀ c,L[en]? = some c -> c ∈ stops):=fun h4 => by
   rw [Uds]
   exact RF.r ⟨rfl,j,rfl,h1,h2,h3,h4⟩
 delta Q__law_until_l0_0 T__law_until_l0_0
 by_cases hj:j < L.length
 · have hc:=List.getElem?_eq_getElem hj
   generalize L[j] = cc at hc
   by_cases hs:cc ∈ stops
   · refine .inl ⟨?_,fin fun c h => by rw [hc] at h; cases h; exact hs⟩
     refine ba_of (sg_len L) ?_; refine ba_of (a:=true) (σ₁:=s) (by delta look; rw [lt_int,decide_eq_true hj]) ?_
     show (bnd (bnd (look (itemV (sg L) (.int j))) _) unB) s = _
     refine ba_of (a:=.str (ch cc)) (σ₁:=s) (by delta look; rw [Ub2 hc]) ?_; refine ba_of (a:=false) (σ₁:=s) (by delta look; rw [sg_nin,decide_eq_false (by simpa using hs)]) ?_
     rfl
   · refine .inr ⟨?_,Run.l (Uar j) (Run.next (.inl ⟨_,L.length - (j + 1),by omega,rfl,rfl,j + 1,rfl,rfl,by omega,by omega,?_⟩))⟩
     · refine ba_of (sg_len L) ?_; refine ba_of (a:=true) (σ₁:=s) (by delta look; rw [lt_int,decide_eq_true hj]) ?_
       show (bnd (bnd (look (itemV (sg L) (.int j))) _) unB) s = _
       refine ba_of (a:=.str (ch cc)) (σ₁:=s) (by delta look; rw [Ub2 hc]) ?_; refine ba_of (a:=true) (σ₁:=s) (by delta look; rw [sg_nin,decide_eq_true hs]) ?_
       rfl
     · rw [Ul7 h1 hc]
       intro c hm
       rcases List.mem_append.mp hm with hm | hm
       · exact h3 c hm
       · rw [List.mem_singleton] at hm; rw [hm]; exact hs
 · refine .inl ⟨?_,fin fun c h => by rw [List.getElem?_eq_none (by omega)] at h; cases h⟩
   refine ba_of (sg_len L) ?_; refine ba_of (a:=false) (σ₁:=s) (by delta look; rw [lt_int,decide_eq_false hj]) ?_
   rfl
theorem RF.rp {l:List Nat} (a b:Nat) {k:V -> M Fl} (hb:b < 0x110000) (hab:a ≠ b) (hl:∀ c ∈ l,c < 0x110000) (hll:l.length <= 1000) (g:RF (k (.str (ofC (l.map fun c => if c = a then b else c)))) σ Q) :
   RF (bnd (look (methK (P p) (.str (ofC l)) (Y "replace"))) fun m => if isRepl m then bnd (replS (.str (ofC l)) (ch a) (ch b)) k else fail) σ Q :=
 RF.l (a:=.bi .replace) (by kernel_rfl) (RF.pos rfl (RF.b (Uqq (x:=ofC l) a b (eqc b hab) hl hb (Nat.le_trans hll (by decide))) g))
end
end Mine
end
section
open PySem PySem.W
namespace Mine
section
variable {p:Params} {σ σ' σ₁ σ0:Store} {d e a:Nat} {E:List V} {as init:List At} {L odd stops:List Nat} {why:Str} {Q:V -> Store -> Prop} {c:CC} {v:V} {x:At}
theorem Uky (l:List Nat):joinS (l.map ch) = ofC l:=by
 delta joinS ofC
 have:((l.map ch).map (·.cps.toList)).flatten = l:=by
   induction l with
   | nil => rfl
   | cons a r ih => exact congrArg (a :: ·) ih
 rw [this]
noncomputable abbrev frT (L odd:List Nat) (why:Str) (k en e:Nat) (r:Fr):Fr:=(Y "signs",sg L) :: (Y "at",.int k) :: (Y "end",.int en) :: (Y "errors",.ref 11 e) :: (Y "odd",sg odd) :: (Y "why",.str why) :: r
theorem Uk3 {j k en n:Nat} (h:LS σ e a E as) (hj:L[j]? = some n) (hE:E.length < 1000) :
   Run (T__law_taken_l0_0 p c (sg L) (.int k) (.int en) (.ref 11 e) (sg odd) (.str why) (.int j)) σ fun fl σ' => fl = .next (frT L odd why k en e [(Y "place",.int j)]) ∧ LS σ' e a (E ++ tk1 odd why j n) as ∧ Hx σ σ':=by
 delta T__law_taken_l0_0
 refine Run.l (Ub2 hj) (Run.l (eq_ch n 0) ?_)
 delta tk1
 by_cases h0:n = 0
 · rw [if_pos h0,decide_eq_true h0]
   exact Run.pos rfl (Run.er h hE fun σ2 h2 x2 => Run.next ⟨rfl,h2,x2⟩)
 · rw [if_neg h0,decide_eq_false h0]
   refine Run.neg Bool.false_ne_true (Run.l (Ub2 hj) (Run.l (sg_in n odd) ?_))
   by_cases h1:n ∈ odd
   · rw [if_pos h1,decide_eq_true h1]
     exact Run.pos rfl (Run.er h hE fun σ2 h2 x2 => Run.next ⟨rfl,h2,x2⟩)
   · rw [if_neg h1,decide_eq_false h1,List.append_nil]
     exact Run.neg Bool.false_ne_true (Run.next ⟨rfl,h,Hx.rfl⟩)
theorem Ujc {k en:Nat} (hk:k <= en) (hen:en <= L.length) (hL:L.length <= 100) (hc:∀ c ∈ L,c < 0x110000) (g:Q (.str (ofC (((L.drop k).take (en - k)).map repC))) σ) :
   RF (bnd (look (methK (P p) (.str (Y "")) (Y "join"))) fun x10 => if isRepl x10 then fail else bnd (look (sliceV (sg L) (some (.int k)) (some (.int en)))) fun x11 => bnd (methodV c x10 (.str (Y "")) [x11]) fun x12 =>
     bnd (look (methK (P p) x12 (Y "replace"))) fun x13 => if isRepl x13 then bnd (replS x12 (Y "\x00") (Y "�")) fun x14 => ret (.ret x14) else fail) σ Q:=by
 have hl:((L.drop k).take (en - k)).length <= 100:=by rw [List.length_take,List.length_drop]; omega
 refine RF.ms (id:=.join) (by kernel_rfl) (by decide) (RF.l (Ufz hk) (RF.b (Unt _ (Nat.le_trans hl (by decide))) ?_))
 rw [Uky]
 exact RF.rp 0 0xFFFD (by decide) (by decide) (fun c m => hc c (List.mem_of_mem_drop (List.mem_of_mem_take m))) (Nat.le_trans hl (by decide)) (RF.r g)
theorem Ugb {k en:Nat} (h:LS σ e a E as) (hk:k <= en) (hen:en <= L.length) (hL:L.length <= 100) (hc:∀ c ∈ L,c < 0x110000) (hE:E.length < 800) (odd:List Nat) (why:Str) :
   Run (callK (P p) (d + 1) a__law_taken [sg L,.int k,.int en,.ref 11 e,sg odd,.str why]) σ fun v σ' => v = .str (ofC (((L.drop k).take (en - k)).map repC)) ∧ LS σ' e a (E ++ tk odd why k ((L.drop k).take (en - k))) as ∧ Hx σ σ':=by
 rw [Uhl]
 show RF _ σ _
 delta F__law_taken
 refine RF.b (a:=.rng k en 1) (σ₁:=σ) (bi_of ?_) ?_
 · show (if (k:Int).natAbs <= lim ∧ (en:Int).natAbs <= lim then some (V.rng k en 1) else none) = _
   exact if_pos ⟨by delta lim; omega,by delta lim; omega⟩
 refine forRun (fun j fr s => (fr = frT L odd why k en e [] ∨ ∃ w,fr = frT L odd why k en e [(Y "place",w)]) ∧ LS s e a (E ++ tk odd why k ((L.drop k).take j)) as ∧ Hx σ s) ((List.range (en - k)).map fun j:Nat => .int ((k + j:Nat):Int))
   ⟨.inl rfl,by delta tk; rw [List.take_zero,List.append_nil]; exact h,Hx.rfl⟩ (by rw [List.length_map,List.length_range]; omega) (fun j v fr s hv hI => ?_) (fun fr s hI => ?_) fun fr s hI => ?_
 · refine xAAA hI fun sh hS hX => ?_
   rw [List.getElem?_map] at hv
   refine xEAA (Option.map_eq_some_iff.mp hv) fun j' hj' qz1 => ?_; subst qz1
   have hjl:j < en - k:=by rw [List.getElem?_eq_some_iff] at hj'; simpa using hj'.1
   rw [List.getElem?_range hjl] at hj'
   cases hj'
   have hg:=List.getElem?_eq_getElem (show k + j < L.length by omega)
   generalize L[k + j] = n at hg
   have ht:(E ++ tk odd why k ((L.drop k).take j)).length < 1000:=by
     have:=tk_len odd why ((L.drop k).take j) k
     rw [List.length_take,List.length_drop] at this
     rw [List.length_append]
     omega
   refine ⟨?_,frT L odd why k en e [(Y "place",.int ((k + j:Nat):Int))],?_,?_⟩
   · rw [Un9,if_pos (by omega),show (k:Int) + (j:Int) * 1 = ((k + j:Nat):Int) by omega]
   · rw [Ufc (by kernel_rfl)]
     rcases sh with rfl | ⟨w,rfl⟩ <;> kernel_rfl
   · rw [Ucz]
     refine (Uk3 (k:=k) (en:=en) hS hg ht).mono fun fl s' qq => xAAA qq fun e1 h1 x1 => .inl ⟨_,e1,.inr ⟨_,rfl⟩,?_,hX.trans x1⟩
     rw [show j + 1 = k + j + 1 - k by omega,Ul7 (Nat.le_add_right k j) hg,show k + j - k = j by omega,tk_app,<- List.append_assoc]
     have hl:((L.drop k).take j).length = j:=by rw [List.length_take,List.length_drop]; omega
     rw [hl]
     have:tk odd why ((k:Int) + j) [n] = tk1 odd why ((k + j:Nat):Int) n:=by
       show tk1 odd why ((k:Int) + j) n ++ [] = _
       rw [List.append_nil]; rfl
     rw [this]
     exact h1
 · rw [Un9,List.length_map,List.length_range,if_neg (by omega)]
 · refine xAAA hI fun sh hS hX => ?_
   rw [List.length_map,List.length_range] at hS
   rcases sh with rfl | ⟨w,rfl⟩
   · rw [Ud5]
     exact Ujc hk hen hL hc ⟨rfl,hS,hX⟩
   · rw [Udt]
     exact Ujc hk hen hL hc ⟨rfl,hS,hX⟩
noncomputable def KI (A:List PA):Prop:=∀ x ∈ A,∃ y ∈ A,y.k = true ∧ y.n = x.n
theorem KI.told {A:List PA} {x:PA} (h:KI A):toldP A x = A.any fun b => b.n == x.n:=by
 delta toldP
 rw [Bool.eq_iff_iff,List.any_eq_true,List.any_eq_true]
 constructor
 · rintro ⟨b,m,q⟩
   exact ⟨b,m,(Bool.and_eq_true _ _ ▸ q:_ ∧ _).2⟩
 · rintro ⟨b,m,q⟩
   refine xEAAA (h b m) fun y my ky ny => ?_
   exact ⟨y,my,by rw [ky,ny,q]; rfl⟩
theorem KI.snoc {A:List PA} {x:PA} (h:KI A) (hx:x.k = true):KI (A ++ [ckA A x]):=fun z m => by
 rcases List.mem_append.mp m with m | m
 · refine xEAA (h z m) fun y my q => ?_
   exact ⟨y,List.mem_append_left _ my,q⟩
 · rw [List.mem_singleton] at m
   subst m
   delta ckA
   cases ht:toldP A x with
   | true =>
     refine xEAA (List.any_eq_true.mp ht) fun b mb q => ?_
     refine xAA ((Bool.and_eq_true _ _ ▸ q:_ ∧ _)) fun q1 q2 => ?_
     exact ⟨b,List.mem_append_left _ mb,q1,beq_iff_eq.mp q2⟩
   | false =>
     refine ⟨x,List.mem_append_right _ ?_,hx,rfl⟩
     rw [List.mem_singleton]; rfl
theorem Uhc {α:Type} (l:List α) (y:α):sliceL none (some (-1)) (l ++ [y]) = l:=by
 delta sliceL
 have:clipAt (l ++ [y]).length (-1) = l.length:=by
   delta clipAt
   rw [List.length_append,List.length_singleton]
   rw [if_pos (by decide)]
   omega
 simp only [Option.elim_some,Option.elim_none,this]
 rw [List.drop_zero,Nat.sub_zero,List.take_left]
theorem Uo9 (l:List At) (y:Str):cmpV .In (.str y) (.lst (l.map fun b => .str b.n)) σ = some (l.any fun b => b.n == y):=by
 have:strsOf (l.map fun b => V.str b.n) = some (l.map (·.n)):=by
   induction l with
   | nil => rfl
   | cons a r ih => exact ob_of (f:=fun ds => some (a.n :: ds)) (z:=none) ih
 refine (show cmpV .In (.str y) (.lst (l.map fun b => .str b.n)) σ = some ((l.map (·.n)).any (· == y)) from ob_of (f:=fun l:List Str => some (l.any (· == y))) (z:=none) this).trans ?_
 rw [List.any_map]
 rfl
theorem LS.last (h:LS σ e a E (init ++ [x])):itemV (.ref 12 a) (.int (-1)) σ = some (.ref 13 x.i) :=
 Ujf (vs:=init.map fun b => .ref 13 b.i) (by have:=h.att; rw [List.map_append] at this; exact this)
theorem LS.setLast {x':At} (h:LS σ e a E (init ++ [x])) (hi:x'.i = x.i):LS (σ.put 13 x.i (.list [.str x'.n,.str x'.v,.bool x'.k])) e a E (init ++ [x']):=by
 have hx:=h.each x (List.mem_append_right _ List.mem_cons_self)
 have nd:=h.nd
 rw [List.map_append,List.map_cons,List.map_nil] at nd
 have ni:∀ b ∈ init,b.i ≠ x.i:=fun b m e => (List.nodup_append.mp nd).2.2 _ (List.mem_map.mpr ⟨b,m,rfl⟩) _ (List.mem_singleton.mpr rfl) e
 refine ⟨Uav.trans h.len,(Uag (by decide)).trans h.err,?_,fun b m => ?_,by rw [List.map_append,List.map_cons,List.map_nil,hi]; exact nd⟩
 · rw [Uag (by decide),h.att,List.map_append,List.map_append,List.map_cons,List.map_cons,hi]
 · rcases List.mem_append.mp m with m | m
   · rw [get_ne hx (ni b m)]; exact h.each b (List.mem_append_left _ m)
   · rw [List.mem_singleton] at m; subst m
     rw [hi]; exact Uam hx
theorem Ufw {n:Nat} (h:LS σ e a E (init ++ [x])) (hK:KI (init.map At.pl)) (hi:init.length < 200) (hE:E.length < 1000) :
   Run (callK (P p) (d + 1) a__law_checked [.ref 11 e,.ref 12 a,.int n]) σ fun v σ' => ∃ x':At,x'.pl = ckA (init.map At.pl) x.pl ∧ LS σ' e a (ckE n E (init.map At.pl) x.pl) (init ++ [x']) ∧ Hx σ σ':=by
 rw [Uga]
 show RF _ σ _
 delta F__law_checked
 have hx:=h.each x (List.mem_append_right _ List.mem_cons_self)
 have hnm:∀ b ∈ init ++ [x],itemV (.ref 13 b.i) (.int 0) σ = some (.str b.n):=fun b m => itemL (k:=0) (h.each b m) rfl
 have hsl:sliceV (.ref 12 a) none (some (.int (-1))) σ = some (.lst (init.map fun b => .ref 13 b.i)):=by
   refine (ob_of (f:=fun vs => some (V.lst (sliceL none (some (-1)) vs))) (z:=none) (asl_of h.att)).trans ?_
   rw [List.map_append,List.map_cons,List.map_nil,Uhc]
 have hcomp:compK (.lst (init.map fun b => .ref 13 b.i)) (fun x4 => bnd (bnd (look (itemV x4 (.int 0))) fun x5 => ret (.ret x5)) unFl) (fun x4 => ret true) 200 0 [] σ = some (.lst (init.map fun b => .str b.n),σ):=by
   let f:V -> Option V:=fun v => itemV v (.int 0) σ
   rw [Ulj f (init.map fun b => .ref 13 b.i) (fun k w0 => Ukf k) (fun v hv => ?_) (by rw [List.length_map]; exact hi)]
   · rw [List.filterMap_map]
     have:∀ l:List At,(∀ b ∈ l,b ∈ init ++ [x]) -> l.filterMap (f ∘ fun b => V.ref 13 b.i) = l.map fun b => .str b.n:=fun l => by
       induction l with
       | nil => intro _; rfl
       | cons b r ih =>
         intro hb
         have hbn:(f ∘ fun b => V.ref 13 b.i) b = some (.str b.n):=hnm b (hb b List.mem_cons_self)
         rw [List.filterMap_cons_some hbn,ih fun c m => hb c (List.mem_cons_of_mem _ m)]
         rfl
     rw [this init fun b m => List.mem_append_left _ m]
   · refine xEAA (List.mem_map.mp hv) fun b m qz1 => ?_; subst qz1
     have:=hnm b (List.mem_append_left _ m)
     refine .inr ⟨.str b.n,this,rfl,?_⟩
     refine ba_of (a:=.str b.n) (σ₁:=σ) (by delta look; rw [this]) ?_
     rfl
 have ht:toldP (init.map At.pl) x.pl = init.any fun b => b.n == x.n:=by
   rw [hK.told,List.any_map]; rfl
 refine RF.l h.last (RF.l (hnm x (List.mem_append_right _ List.mem_cons_self)) (RF.l hsl (RF.b hcomp (RF.l (Uo9 init x.n) ?_))))
 rw [<- ht]
 delta ckE ckA
 cases toldP (init.map At.pl) x.pl with
 | true =>
   refine RF.pos rfl (RF.er h hE fun σ2 h2 x2 => RF.l h2.last ?_)
   have hx2:=h2.each x (List.mem_append_right _ List.mem_cons_self)
   refine RF.b (a:=()) (σ₁:=σ2.put 13 x.i (.list [.str x.n,.str x.v,.bool false])) ?_ (RF.n ⟨{ x with k:=false },rfl,h2.setLast (x':={ x with k:=false }) rfl,x2.trans (Hx.put (.inr (.inr rfl)))⟩)
   show ob (lref σ2 _) _ _ = _
   rw [Ufv hx2]
   rfl
 | false => exact RF.neg Bool.false_ne_true (RF.n ⟨x,rfl,h,Hx.rfl⟩)
end
end Mine
end
section
open PySem PySem.W
namespace Mine
noncomputable def pool2:List Nat:=[32,97,61,34,47,66,39,60,99,0,62,96,65,38,10,98,8490,9,67,12]
noncomputable def eqWhy:Str:="unexpected-equals-sign-before-attribute-name"
noncomputable def low2 (c:Nat):Nat :=
 let a:=repC c
 let b:=if a = 65 then 97 else a
 let b2:=if b = 66 then 98 else b
 if b2 = 67 then 99 else b2
theorem Uqw {c:Nat} (h:c ∈ pool2):low2 c = lowC c:=by
 have:pool2.map low2 = pool2.map lowC:=by decide
 exact List.map_inj_left.mp this c h
theorem Ujd {c:Nat} (h:c ∈ pool2):c < 0x110000:=by
 have:pool2.all (fun c => decide (c < 0x110000)) = true:=by decide
 simpa using List.all_eq_true.mp this c h
theorem Uc4 {c:Nat} (h:c ∈ pool2):c ∈ okL:=by
 have:pool2.all (fun c => okL.contains c) = true:=by kernel_rfl
 simpa using List.all_eq_true.mp this c h
section
variable {p:Params} {σ σ' σ₁ σ0:Store} {d e a:Nat} {E:List V} {as init:List At} {L odd stops:List Nat} {why:Str} {Q:V -> Store -> Prop} {c:CC} {v:V} {x:At}
theorem LS.push {l:List Ob} {n v:Str} {k:Bool} (h:LS σ e a E as) (hl:σ[13]? = some l):LS ((σ.add 13 (.list [.str n,.str v,.bool k])).put 12 a (.list (as.map (fun x => .ref 13 x.i) ++ [.ref 13 l.length]))) e a E (as ++ [⟨l.length,n,v,k⟩]):=by
 have old:∀ {r i:Nat} {o:Ob},σ.get r i = some o -> (σ.add 13 (.list [.str n,.str v,.bool k])).get r i = some o:=fun h => Ubq hl h
 have ne:∀ b ∈ as,b.i ≠ l.length:=fun b m q => by
   have:=h.each b m
   rw [q,Uhg hl] at this
   cases this
 refine ⟨Uav.trans (Ubi.trans h.len),(Uag (by decide)).trans (old h.err),?_,fun b m => ?_,?_⟩
 · rw [Uam (old h.att),List.map_append]; rfl
 · rw [Uag (by decide)]
   rcases List.mem_append.mp m with m | m
   · exact old (h.each b m)
   · rw [List.mem_singleton] at m; subst m
     exact Ubd hl
 · rw [List.map_append,List.nodup_append]
   refine ⟨h.nd,by simp,fun i m j q => ?_⟩
   refine xEAA (List.mem_map.mp m) fun b mb qz1 => ?_; subst qz1
   rw [show j = l.length by simpa using q]
   exact ne b mb
noncomputable def nmE (c0:Nat) (k:Nat) (E:List V) (seg:List Nat):List V:=(E ++ if c0 = 61 then [errV eqWhy k] else []) ++ tk nOdd nWhy k seg
theorem Uj9 {k en:Nat} (h:LS σ e a E as) (hk:k <= en) (hen:en <= L.length) (hL:L.length <= 100) (hp:∀ c ∈ L,c ∈ pool2) (hE:E.length < 750) (has:as.length < 200)
   (g:∀ i σ',LS σ' e a (E ++ tk nOdd nWhy k ((L.drop k).take (en - k))) (as ++ [⟨i,ofC (((L.drop k).take (en - k)).map lowC),"",true⟩]) -> Q (.int en) σ') :
   RF (J__law_name_0 p (callK (P p) (d + 1)) [(Y "signs",sg L),(Y "at",.int k),(Y "errors",.ref 11 e),(Y "attrs",.ref 12 a),(Y "end",.int en)]) σ Q:=by
 rw [Ued]
 delta J__law_name_0_T0
 refine RF.b1 (RF.c (Ugb (d:=d) h hk hen hL (fun c m => Ujd (hp c m)) (by omega) nOdd nWhy) fun v σ1 qq => xAAA qq fun ev h1 x1 => ?_)
 subst ev
 have hs:∀ c ∈ (L.drop k).take (en - k),c ∈ L:=fun c m => List.mem_of_mem_drop (List.mem_of_mem_take m)
 have hsl:((L.drop k).take (en - k)).length <= 100:=by rw [List.length_take,List.length_drop]; omega
 generalize (L.drop k).take (en - k) = seg at hs hsl h1 g
 have hrep:∀ c ∈ seg.map repC,c < 0x110000:=fun c m => by
   refine xEAA (List.mem_map.mp m) fun b mb qz1 => ?_; subst qz1
   delta repC
   have:=Ujd (hp b (hs b mb))
   split <;> omega
 have step:∀ (l:List Nat) (x y:Nat),y < 0x110000 -> (∀ c ∈ l,c < 0x110000) -> ∀ c ∈ l.map (fun c => if c = x then y else c),c < 0x110000:=fun l x y hy hl c m => by
   refine xEAA (List.mem_map.mp m) fun b mb qz1 => ?_; subst qz1
   have:=hl b mb
   split <;> omega
 have s1:=step _ 65 97 (by decide) hrep
 have s2:=step _ 66 98 (by decide) s1
 have e3:(((seg.map repC).map fun c => if c = 65 then 97 else c).map fun c => if c = 66 then 98 else c).map (fun c => if c = 67 then 99 else c) = seg.map lowC:=by
   rw [List.map_map,List.map_map,List.map_map]
   exact List.map_congr_left fun c m => Uqw (hp c (hs c m))
 refine RF.app h1.att (RF.rp 65 97 (by decide) (by decide) hrep (by simpa using Nat.le_trans hsl (by decide)) (RF.rp 66 98 (by decide) (by decide) s1 (by simpa using Nat.le_trans hsl (by decide)) (RF.rp 67 99 (by decide) (by decide) s2 (by simpa using Nat.le_trans hsl (by decide)) ?_)))
 rw [e3]
 refine xEA (reg_of h1.len (by decide:13 < 24)) fun l hl => ?_
 refine RF.b (Ugx hl) (RF.b (Uai (Ubq hl h1.att) (by rw [List.length_map]; delta lim; omega)) (RF.r (g _ _ (h1.push hl))))
theorem Unf {k c0:Nat} (h:LS σ e a E as) (hg:L[k]? = some c0) (hL:L.length <= 100) (hp:∀ c ∈ L,c ∈ pool2) (hE:E.length < 700) (has:as.length < 200) :
   Run (callK (P p) (d + 2) a__law_name [sg L,.int k,.ref 11 e,.ref 12 a]) σ fun v σ' => ∃ en:Nat,v = .int en ∧ k < en ∧ en <= L.length ∧ (∀ c ∈ (L.drop (k + 1)).take (en - (k + 1)),c ∉ nStop) ∧ (∀ c,L[en]? = some c -> c ∈ nStop) ∧
     ∃ i,LS σ' e a (nmE c0 k E ((L.drop k).take (en - k))) (as ++ [⟨i,ofC (((L.drop k).take (en - k)).map lowC),"",true⟩]):=by
 rw [Ujj]
 show RF _ σ _
 delta F__law_name
 have hk:k < L.length:=by rw [List.getElem?_eq_some_iff] at hg; exact hg.1
 refine xEAAAAA (Uf1 (p:=p) (d:=d) (σ:=σ) L nStop (show k + 1 <= L.length from hk) hL) fun en hu h1 h2 h3 h4 => ?_
 refine RF.l (Uar k) (RF.b (Udg (d:=d)) (RF.b1 (RF.l (sg_add bls [47,62,61] (by decide)) (RF.b hu (RF.l (Ub2 hg) (RF.l (eq_ch c0 61) ?_))))))
 delta nmE
 by_cases hq:c0 = 61
 · rw [if_pos hq,decide_eq_true hq]
   refine RF.pos rfl (RF.er h (by omega) fun σ2 hS w0 => Uj9 hS (by omega) h2 hL hp (by rw [List.length_append,List.length_singleton]; omega) has fun i σ3 h5 => ⟨en,rfl,h1,h2,h3,h4,i,h5⟩)
 · rw [if_neg hq,decide_eq_false hq,List.append_nil]
   exact RF.neg Bool.false_ne_true (Uj9 h (by omega) h2 hL hp (by omega) has fun i σ3 h5 => ⟨en,rfl,h1,h2,h3,h4,i,h5⟩)
end
end Mine
end
section
open PySem PySem.W
namespace Mine
noncomputable def Fq (B:PD) (L:List Nat) (Fin:PS) (k:Nat) (st:Str) (E:List V) (A:List PA):Prop:=((L.drop k).map ch).foldl (adv 4) (ms B "" k st E A) = Fin
noncomputable def plA (as:List At):List PA:=as.map At.pl
noncomputable def Lp (B:PD) (L:List Nat) (Fin:PS) (here:Str) (k:Nat) (E:List V) (A:List PA):Prop :=
 ((here = "before attribute name" ∨ here = "after attribute name") ∧ Fq B L Fin k here E A) ∨ ((here = "before attribute value" ∨ here = "after attribute value (quoted)") ∧ k = L.length ∧ Fq B L Fin k here E A) ∨
 (here = "before attribute value" ∧ L[k]? = some 62 ∧ Fq B L Fin k "after attribute name" E A)
noncomputable def Vp (B:PD) (L:List Nat) (Fin:PS) (here:Str) (k:Nat) (E:List V) (A:List PA):Prop :=
 ∃ q:St,(q = .dq ∨ q = .sq ∨ q = .bare) ∧ here = q.str ∧ (k = L.length ∧ Fin = ms B "" k here E A ∨ L[k]? = some 38 ∧ Fin = { ms B "" (k + 1) "character reference" E A with back:=here })
section
variable {B:PD} {Fin:PS} {k en c0:Nat} {st st' here:Str} {E E':List V} {A A':List PA} {L:List Nat} {q:St}
theorem Fq.step (h:Fq B L Fin k st E A) (hc:L[k]? = some c0) (e:adv 4 (ms B "" k st E A) (ch c0) = ms B "" (k + 1) st' E' A'):Fq B L Fin (k + 1) st' E' A':=by
 delta Fq at h ⊢
 rw [Ucf hc,List.map_cons,List.foldl_cons,e] at h
 exact h
theorem Fq.same (h:Fq B L Fin k st E A) (hc:L[k]? = some c0) (e:adv 4 (ms B "" k st E A) (ch c0) = adv 4 (ms B "" k st' E' A') (ch c0)):Fq B L Fin k st' E' A':=by
 delta Fq at h ⊢
 rw [Ucf hc,List.map_cons,List.foldl_cons] at h ⊢
 rw [<- e]; exact h
theorem Fq.end (h:Fq B L Fin k st E A) (hc:L[k]? = some c0) {X:PS} (e:adv 4 (ms B "" k st E A) (ch c0) = X) (hX:ofStr X.state = none):Fin = X:=by
 delta Fq at h
 rw [Ucf hc,List.map_cons,List.foldl_cons,e,Uen _ _ hX] at h
 exact h.symm
theorem Fq.fin (h:Fq B L Fin k st E A) (hk:k = L.length):Fin = ms B "" k st E A:=by
 delta Fq at h
 rw [hk,List.drop_eq_nil_of_le (Nat.le_refl _)] at h
 rw [hk]; exact h.symm
theorem Fq.seg (h:Fq B L Fin k st E A) (hk:k <= en) (hen:en <= L.length) (e:(((L.drop k).take (en - k)).map ch).foldl (adv 4) (ms B "" k st E A) = ms B "" (k + ((L.drop k).take (en - k)).length) st' E' A'):Fq B L Fin en st' E' A':=by
 delta Fq at h ⊢
 have hd:L.drop k = (L.drop k).take (en - k) ++ L.drop en:=by
   rw [show L.drop en = (L.drop k).drop (en - k) by rw [List.drop_drop,show k + (en - k) = en by omega],List.take_append_drop]
 have hl:((L.drop k).take (en - k)).length = en - k:=by rw [List.length_take,List.length_drop]; omega
 rw [hd,List.map_append,List.foldl_append,e,hl,show (k:Int) + ((en - k:Nat):Int) = (en:Int) by omega] at h
 exact h
theorem Uja (l:List Nat):(Y "") ++ ofC l = ofC l:=by
 show (⟨#[] ++ l.toArray⟩:Str) = ⟨l.toArray⟩
 rw [Array.empty_append]
theorem KI.setv {x:PA} {y:Str} (h:KI (A ++ [x])):KI (A ++ [{ x with v:=y }]):=fun z m => by
 have key:∀ w ∈ A ++ [x],∃ w' ∈ A ++ [{ x with v:=y }],w'.k = w.k ∧ w'.n = w.n:=fun w m => by
   rcases List.mem_append.mp m with m | m
   · exact ⟨w,List.mem_append_left _ m,rfl,rfl⟩
   · rw [List.mem_singleton] at m; subst m
     exact ⟨_,List.mem_append_right _ (List.mem_singleton.mpr rfl),rfl,rfl⟩
 have back:∃ z' ∈ A ++ [x],z'.n = z.n:=by
   rcases List.mem_append.mp m with m | m
   · exact ⟨z,List.mem_append_left _ m,rfl⟩
   · rw [List.mem_singleton] at m; subst m
     exact ⟨x,List.mem_append_right _ (List.mem_singleton.mpr rfl),rfl⟩
 refine xEAA back fun z' mz nz => ?_
 refine xEAAA (h z' mz) fun w mw kw nw => ?_
 refine xEAAA (key w mw) fun w' mw' kw' nw' => ?_
 exact ⟨w',mw',kw'.trans kw,by rw [nw',nw,nz]⟩
end
section
variable {p:Params} {σ σ' σ₁ σ0:Store} {d e a:Nat} {E:List V} {as init:List At} {L:List Nat} {Q:V -> Store -> Prop} {c:CC} {x:At} {B:PD} {Fin:PS} {k j en c0:Nat}
theorem in_end (m:Nat):cmpV .In (sg ((L.drop en).take 1)) (.lst [.lst [],sg [m]]) σ = some (decide (L[en]? = none ∨ L[en]? = some m)):=by
 cases h:L[en]? with
 | none =>
   rw [List.drop_eq_nil_of_le (by rw [List.getElem?_eq_none_iff] at h; exact h)]
   rw [decide_eq_true (.inl rfl)]
   rfl
 | some c =>
   rw [Ucf h]
   show some (([[],[ch m]]:List (List Str)).any (· == [ch c])) = _
   congr 1
   show (([]:List Str) == [ch c] || ([ch m] == [ch c] || false)) = _
   have e1:(([]:List Str) == [ch c]) = false:=rfl
   have e2:([ch m] == [ch c]) = (ch m == ch c):=by show (ch m == ch c && true) = _; rw [Bool.and_true]
   rw [e1,e2,Uan,Bool.false_or,Bool.or_false,Bool.eq_iff_iff]
   simp
   omega
theorem LS.setv (h:LS σ e a E (init ++ [x])) (y:Str):setItemV (.ref 13 x.i) (.int 1) (.str y) σ = some ((),σ.put 13 x.i (.list [.str x.n,.str y,.bool x.k])):=by
 show ob (lref σ _) _ _ = _
 rw [Ufv (h.each x (List.mem_append_right _ List.mem_cons_self))]
 rfl
noncomputable def VQ (B:PD) (L:List Nat) (Fin:PS) (e a k:Nat) (E:List V) (init:List At) (x:At) (v:V) (σ':Store):Prop :=
 ∃ here k' E' y,v = .tup [.str here,.int (k':Nat)] ∧ k <= k' ∧ k' <= L.length ∧ E'.length <= E.length + (k' - k) + 1 ∧ LS σ' e a E' (init ++ [{ x with v:=y }]) ∧
   (Vp B L Fin here k' E' (plA init ++ [{ x.pl with v:=y }]) ∨ here ≠ "after attribute name" ∧ Lp B L Fin here k' E' (plA init ++ [{ x.pl with v:=y }]))
theorem Uk7 (hk:k <= en) (hen:en <= L.length):((L.drop k).take (en - k)).length = en - k:=by rw [List.length_take,List.length_drop]; omega
theorem Uq1 (h:LS σ e a E (init ++ [x])) (hx:x.v = "") (hg:L[j]? = some c0) (hL:L.length <= 100) (hp:∀ c ∈ L,c ∈ pool2) (hE:E.length < 600) (hF:Fq B L Fin j "before attribute value" E (plA init ++ [x.pl]))
   (n1:c0 ∉ bls) (n2:c0 ≠ 34) (n3:c0 ≠ 39) (n4:c0 ≠ 62) (hkj:k <= j) {vquote:V} :
   RF (J__law_value_3 p (callK (P p) (d + 1)) [(Y "signs",sg L),(Y "at",.int j),(Y "errors",.ref 11 e),(Y "attrs",.ref 12 a),(Y "quote",vquote)]) σ (VQ B L Fin e a k E init x):=by
 have hj:j < L.length:=by rw [List.getElem?_eq_some_iff] at hg; exact hg.1
 have hmem:c0 ∈ L:=List.mem_of_getElem? hg
 rw [Udx]
 delta J__law_value_3_T0
 refine xEAAAAA (Uf1 (p:=p) (d:=d) (σ:=σ) L (bls ++ [62,38]) (Nat.le_of_lt hj) hL) fun en hu h1 h2 h3 h4 => ?_
 refine RF.b (Udg (d:=d)) (RF.b1 (RF.l (sg_add bls [62,38] (by decide)) (RF.b hu (RF.b1 (RF.c (Ugb (d:=d) h h1 h2 hL (fun c m => Ujd (hp c m)) (by omega) vOdd vWhy) fun v σ1 qq => xAAA qq fun ev hS w0 => ?_)))))
 subst ev
 refine RF.l hS.last (RF.b (hS.setv _) (RF.l (Uar en) (RF.l (Ufz (Nat.le_succ en)) ?_)))
 rw [show en + 1 - en = 1 by omega]
 have hS2:=hS.setLast (x':={ x with v:=ofC (((L.drop j).take (en - j)).map repC) }) rfl
 have hE':(E ++ tk vOdd vWhy j ((L.drop j).take (en - j))).length <= E.length + (en - k) + 1:=by
   have:=tk_len vOdd vWhy ((L.drop j).take (en - j)) j
   rw [Uk7 h1 h2] at this
   rw [List.length_append]; omega
 have hb:=hF.same hg (vbare (Uc4 (hp _ hmem)) n1 n2 n3 n4)
 have hseg:=hb.seg h1 h2 (f_val (q:=.bare) (odd:=vOdd) (why:=vWhy) (by decide) (by decide) _ _ _ _ fun c m => by
   have:=h3 c m
   simp only [List.mem_append,List.mem_cons,List.not_mem_nil,or_false,not_or] at this
   exact Uqe this.1 this.2.1 this.2.2)
 have hpx:x.pl.v = "":=hx
 rw [hpx,Uja] at hseg
 refine RF.b1 (RF.b1 (RF.b1 (RF.l (in_end 38) ?_)))
 by_cases hz:L[en]? = none ∨ L[en]? = some 38
 · rw [decide_eq_true hz]
   refine RF.pos rfl (RF.r ⟨_,en,_,_,rfl,Nat.le_trans hkj h1,h2,hE',hS2,.inl ⟨.bare,.inr (.inr rfl),rfl,?_⟩⟩)
   rcases hz with hz | hz
   · have:en = L.length:=by rw [List.getElem?_eq_none_iff] at hz; omega
     exact .inl ⟨this,hseg.fin this⟩
   · exact .inr ⟨hz,hseg.end hz (r_of (.inr (.inr rfl))) (by kernel_rfl)⟩
 · rw [decide_eq_false hz]
   refine RF.neg Bool.false_ne_true (RF.r ⟨_,en,_,_,rfl,Nat.le_trans hkj h1,h2,hE',hS2,.inr ⟨by decide,.inl ⟨.inl rfl,?_⟩⟩⟩)
   have hlt:en < L.length:=by
     rcases Nat.lt_or_ge en L.length with q | q
     · exact q
     · exact absurd (.inl (List.getElem?_eq_none q)) hz
   have hgn:=List.getElem?_eq_getElem hlt
   generalize L[en] = c1 at hgn
   refine hseg.same hgn (Uo3 ?_)
   have:=h4 c1 hgn
   simp only [List.mem_append,List.mem_cons,List.not_mem_nil,or_false] at this
   rcases this with q | q | q
   · exact .inl q
   · exact .inr q
   · subst q; exact absurd (.inr hgn) hz
end
end Mine
end
section
open PySem PySem.W
namespace Mine
section
variable {p:Params} {σ σ' σ₁ σ0:Store} {d e a:Nat} {E:List V} {as init:List At} {L:List Nat} {Q:V -> Store -> Prop} {c:CC} {x:At} {B:PD} {Fin:PS} {k j en c0 qc:Nat} {q:St}
theorem ne_end (m:Nat):cmpV .NotEq (sg ((L.drop en).take 1)) (sg [m]) σ = some (decide (L[en]? ≠ some m)):=by
 have key:∀ l:List Nat,(∀ b,l ≠ [b] -> decide (l ≠ [b]) = true):=fun l b h => decide_eq_true h
 cases h:L[en]? with
 | none =>
   rw [List.drop_eq_nil_of_le (by rw [List.getElem?_eq_none_iff] at h; exact h)]
   show (eqV σ (.lst []) (.lst [.str (ch m)])).map (!·) = _
   rw [show eqV σ (.lst []) (.lst [.str (ch m)]) = some (PyData.eqv (.list []) (.list [.str (ch m)])) from rfl]
   simp [PyData.eqv,PyData.eqvAll]
 | some c =>
   rw [Ucf h]
   show (eqV σ (.lst [.str (ch c)]) (.lst [.str (ch m)])).map (!·) = _
   rw [show eqV σ (.lst [.str (ch c)]) (.lst [.str (ch m)]) = some (PyData.eqv (.list [.str (ch c)]) (.list [.str (ch m)])) from rfl]
   have e1:PyData.eqv (.list [.str (ch c)]) (.list [.str (ch m)]) = (ch c == ch m):=by simp [PyData.eqv,PyData.eqvAll]
   rw [e1,Uan]
   show some (!(c == m)) = _
   congr 1
   rw [Bool.eq_iff_iff]
   simp
noncomputable abbrev frV (L:List Nat) (j e a:Nat) (r:Fr):Fr:=(Y "signs",sg L) :: (Y "at",.int (j:Nat)) :: (Y "errors",.ref 11 e) :: (Y "attrs",.ref 12 a) :: r
theorem Uok {E':List V} {y:Str} {vquote:V} (hS:LS σ e a E' (init ++ [{ x with v:=y }])) (hE:E'.length <= E.length + (en + 1 - k) + 1) (hk:k <= en + 1) (hen:en + 1 <= L.length) (hF:Fq B L Fin (en + 1) "before attribute name" E' (plA init ++ [{ x.pl with v:=y }])) :
   RF (J__law_value_6 p c (frV L j e a [(Y "quote",vquote),(Y "end",.int (en:Nat))])) σ (VQ B L Fin e a k E init x):=by
 rw [Ud0]
 exact RF.l (Uar en) (RF.r ⟨_,en + 1,E',y,rfl,hk,hen,hE,hS,.inr ⟨by decide,.inl ⟨.inl rfl,hF⟩⟩⟩)
theorem Uqx {E':List V} {y:Str} {vquote:V} (hS:LS σ e a E' (init ++ [{ x with v:=y }])) (hE:E'.length <= E.length + (en - k)) (hE2:E'.length < 900) (hk:k <= en) (hen:en + 1 <= L.length) (hp:∀ c ∈ L,c ∈ pool2) (hF:Fq B L Fin (en + 1) "after attribute value (quoted)" E' (plA init ++ [{ x.pl with v:=y }])) :
   RF (J__law_value_4 p (callK (P p) (d + 1)) (frV L j e a [(Y "quote",vquote),(Y "end",.int (en:Nat))])) σ (VQ B L Fin e a k E init x):=by
 rw [Udu]
 delta J__law_value_4_T0
 refine RF.l (Uar en) (RF.b (sg_len L) (RF.l (eq_int (en + 1) L.length) ?_))
 by_cases hl:en + 1 = L.length
 · rw [decide_eq_true hl]
   exact RF.pos rfl (RF.l (Uar en) (RF.r ⟨_,en + 1,E',y,rfl,by omega,hen,by omega,hS,.inr ⟨by decide,.inr (.inl ⟨.inr rfl,hl,hF⟩)⟩⟩))
 · rw [decide_eq_false hl]
   refine RF.neg Bool.false_ne_true ?_
   rw [Udy]
   delta J__law_value_5_T0
   have hg:=List.getElem?_eq_getElem (show en + 1 < L.length by omega)
   generalize L[en + 1] = c1 at hg
   have hm:=Uc4 (hp c1 (List.mem_of_getElem? hg))
   refine RF.l (Uar en) (RF.l (Ub2 hg) (RF.b (Udg (d:=d)) (RF.b1 (RF.l (sg_add bls [47,62] (by decide)) (RF.l (sg_nin c1 (bls ++ [47,62])) ?_)))))
   by_cases h1:c1 ∈ bls ++ [47,62]
   · rw [decide_eq_false (fun q => q h1)]
     refine RF.neg Bool.false_ne_true (Uok hS (by omega) (by omega) hen (hF.same hg (Ul9 ?_)))
     simp only [List.mem_append,List.mem_cons,List.not_mem_nil,or_false] at h1
     exact h1
   · rw [decide_eq_true h1]
     simp only [List.mem_append,List.mem_cons,List.not_mem_nil,or_false,not_or] at h1
     refine RF.pos rfl (RF.app hS.err (RF.l (Uar en) (RF.b (Uai hS.err (by delta lim; omega)) (Uok hS.setErr (by rw [List.length_append,List.length_singleton]; omega) (by omega) hen (hF.same hg (Uqa hm h1.1 h1.2.1 h1.2.2))))))
theorem Un6 (h:LS σ e a E (init ++ [x])) (hx:x.v = "") (hg:L[j]? = some qc) (hL:L.length <= 100) (hp:∀ c ∈ L,c ∈ pool2) (hE:E.length < 600) (hF:Fq B L Fin j "before attribute value" E (plA init ++ [x.pl])) (hkj:k <= j)
   (hq:(qc = 34 ∧ q = .dq) ∨ (qc = 39 ∧ q = .sq)) :
   RF (J__law_value_2 p (callK (P p) (d + 1)) (frV L j e a [(Y "quote",.str (ch qc))])) σ (VQ B L Fin e a k E init x):=by
 have hj:j < L.length:=by rw [List.getElem?_eq_some_iff] at hg; exact hg.1
 have hin:qc ∈ [34,39]:=by rcases hq with ⟨rfl,_⟩ | ⟨rfl,_⟩ <;> decide
 have hact:∀ c,c ≠ qc -> c ≠ 38 -> act q (ch c) = ⟨vErr [] "" c,.put,none,false⟩:=fun c h1 h2 => by
   rcases hq with ⟨rfl,rfl⟩ | ⟨rfl,rfl⟩
   · exact Ugr (k:=34) h1 h2
   · exact Ugr (k:=39) h1 h2
 have hopen:adv 4 (ms B "" j "before attribute value" E (plA init ++ [x.pl])) (ch qc) = ms B "" (j + 1) q.str E (plA init ++ [x.pl]):=by
   rcases hq with ⟨rfl,rfl⟩ | ⟨rfl,rfl⟩
   · exact vdq
   · exact vsq
 have hclose:∀ n E A,adv 4 (ms B "" n q.str E A) (ch qc) = ms B "" (n + 1) "after attribute value (quoted)" E A:=fun n E A => by
   rcases hq with ⟨rfl,rfl⟩ | ⟨rfl,rfl⟩
   · exact c_dq
   · exact c_sq
 have hqs:q = .dq ∨ q = .sq ∨ q = .bare:=by
   rcases hq with ⟨_,rfl⟩ | ⟨_,rfl⟩
   · exact .inl rfl
   · exact .inr (.inl rfl)
 have hs1:(q.str == (Y "tag name")) = false ∧ (q.str == (Y "attribute name")) = false:=by
   rcases hq with ⟨_,rfl⟩ | ⟨_,rfl⟩ <;> exact ⟨by decide,by decide⟩
 rw [Ubn]
 delta J__law_value_2_T0
 refine xEAAAAA (Uf1 (p:=p) (d:=d) (σ:=σ) L [qc,38] (show j + 1 <= L.length from hj) hL) fun en hu h1 h2 h3 h4 => ?_
 refine RF.b1 (RF.l (sg_in qc [34,39]) ?_)
 rw [decide_eq_true hin]
 refine RF.pos rfl (RF.l (Uar j) (RF.b1 (RF.b hu (RF.l (Uar j) (RF.b1 (RF.c (Ugb (d:=d) h h1 h2 hL (fun c m => Ujd (hp c m)) (by omega) [] "") fun v σ1 qq => xAAA qq fun ev hS w0 => ?_))))))
 subst ev
 refine RF.l hS.last (RF.b (hS.setv _) (RF.l (Uar en) (RF.l (Ufz (Nat.le_succ en)) (RF.b1 ?_))))
 rw [show en + 1 - en = 1 by omega]
 have hS2:=hS.setLast (x':={ x with v:=ofC (((L.drop (j + 1)).take (en - (j + 1))).map repC) }) rfl
 have hE':(E ++ tk [] "" ((j + 1:Nat):Int) ((L.drop (j + 1)).take (en - (j + 1)))).length <= E.length + (en - k):=by
   have:=tk_len [] "" ((L.drop (j + 1)).take (en - (j + 1))) ((j + 1:Nat):Int)
   rw [Uk7 h1 h2] at this
   rw [List.length_append]; omega
 have hseg:=(hF.step hg hopen).seg h1 h2 (f_val (q:=q) (odd:=[]) (why:="") hs1.1 hs1.2 _ _ _ _ fun c m => by
   have:=h3 c m
   simp only [List.mem_cons,List.not_mem_nil,or_false,not_or] at this
   exact hact c this.1 this.2)
 have hpx:x.pl.v = "":=hx
 rw [hpx,Uja] at hseg
 refine RF.l (ne_end qc) ?_
 by_cases hz:L[en]? = some qc
 · rw [decide_eq_false (by simpa using hz)]
   have hlt:en < L.length:=by rw [List.getElem?_eq_some_iff] at hz; exact hz.1
   exact RF.neg Bool.false_ne_true (Uqx hS2 hE' (by omega) (by omega) hlt hp (hseg.step hz (hclose _ _ _)))
 · rw [decide_eq_true hz]
   have hv:Vp B L Fin q.str en (E ++ tk [] "" ((j + 1:Nat):Int) ((L.drop (j + 1)).take (en - (j + 1)))) (plA init ++ [{ x.pl with v:=ofC (((L.drop (j + 1)).take (en - (j + 1))).map repC) }]):=by
     refine ⟨q,hqs,rfl,?_⟩
     cases ho:L[en]? with
     | none =>
       have:en = L.length:=by rw [List.getElem?_eq_none_iff] at ho; omega
       exact .inl ⟨this,hseg.fin this⟩
     | some c1 =>
       have:=h4 c1 ho
       simp only [List.mem_cons,List.not_mem_nil,or_false] at this
       rcases this with rfl | rfl
       · exact absurd ho hz
       · exact .inr ⟨rfl,hseg.end ho (r_of hqs) (by rcases hqs with rfl | rfl | rfl <;> kernel_rfl)⟩
   refine RF.pos rfl (RF.l (eq_ch qc 34) ?_)
   rcases hq with ⟨rfl,rfl⟩ | ⟨rfl,rfl⟩
   · exact RF.pos rfl (RF.r ⟨_,en,_,_,rfl,by omega,h2,by omega,hS2,.inl hv⟩)
   · exact RF.neg (by decide) (RF.r ⟨_,en,_,_,rfl,by omega,h2,by omega,hS2,.inl hv⟩)
end
end Mine
end
section
open PySem PySem.W
namespace Mine
section
variable {p:Params} {σ σ' σ₁ σ0:Store} {d e a:Nat} {E:List V} {as init:List At} {L:List Nat} {Q:V -> Store -> Prop} {c:CC} {x:At} {B:PD} {Fin:PS} {k j en c0 qc:Nat} {q:St}
theorem Uou (h:LS σ e a E (init ++ [x])) (hx:x.v = "") (hj:j <= L.length) (hL:L.length <= 100) (hp:∀ c ∈ L,c ∈ pool2) (hE:E.length < 600) (hF:Fq B L Fin j "before attribute value" E (plA init ++ [x.pl])) (hkj:k <= j)
   (hb:∀ c,L[j]? = some c -> c ∉ bls):RF (J__law_value_0 p (callK (P p) (d + 1)) (frV L j e a [])) σ (VQ B L Fin e a k E init x):=by
 rw [Ud6]
 delta J__law_value_0_T0
 have keep:∀ E',LS σ e a E' (init ++ [x]) -> LS σ e a E' (init ++ [{ x with v:="" }]):=fun E' h => by
   have:({ x with v:="" }:At) = x:=by cases x; cases hx; rfl
   rw [this]; exact h
 have keepA:({ x.pl with v:="" }:PA) = x.pl:=by
   have:x.pl.v = "":=hx
   cases hp:x.pl
   rw [hp] at this
   cases this; rfl
 refine RF.b (sg_len L) (RF.l (eq_int j L.length) ?_)
 by_cases hl:j = L.length
 · rw [decide_eq_true hl]
   exact RF.pos rfl (RF.r ⟨_,j,E,"",rfl,hkj,hj,by omega,keep E h,.inr ⟨by decide,.inr (.inl ⟨.inl rfl,hl,by rw [keepA]; exact hF⟩)⟩⟩)
 · rw [decide_eq_false hl]
   refine RF.neg Bool.false_ne_true ?_
   rw [Udw]
   delta J__law_value_1_T0
   have hg:=List.getElem?_eq_getElem (show j < L.length by omega)
   generalize L[j] = c1 at hg
   have hnb:=hb c1 hg
   refine RF.l (Ub2 hg) (RF.l (eq_ch c1 62) ?_)
   by_cases h62:c1 = 62
   · subst h62
     rw [decide_eq_true rfl]
     refine RF.pos rfl (RF.er h (by omega) fun σ2 hS w0 => RF.r ⟨_,j,E ++ [errV "missing-attribute-value" j],"",rfl,hkj,hj,by rw [List.length_append,List.length_singleton]; omega,?_,.inr ⟨by decide,.inr (.inr ⟨rfl,hg,?_⟩)⟩⟩)
     · have:({ x with v:="" }:At) = x:=by cases x; cases hx; rfl
       rw [this]; exact hS
     · rw [keepA]
       exact hF.same hg vgt
   · rw [decide_eq_false h62]
     refine RF.neg Bool.false_ne_true ?_
     by_cases h34:c1 = 34
     · subst h34; exact Un6 h hx hg hL hp hE hF hkj (.inl ⟨rfl,rfl⟩)
     by_cases h39:c1 = 39
     · subst h39; exact Un6 h hx hg hL hp hE hF hkj (.inr ⟨rfl,rfl⟩)
     rw [Ubn]
     delta J__law_value_2_T0
     refine RF.b1 (RF.l (sg_in c1 [34,39]) ?_)
     rw [decide_eq_false (by simp [h34,h39])]
     exact RF.neg Bool.false_ne_true (Uq1 h hx hg hL hp hE hF hnb h34 h39 h62 hkj)
theorem Umi (h:LS σ e a E (init ++ [x])) (hx:x.v = "") (hk:k <= L.length) (hL:L.length <= 100) (hp:∀ c ∈ L,c ∈ pool2) (hE:E.length < 600) (hF:Fq B L Fin k "before attribute value" E (plA init ++ [x.pl])) :
   Run (callK (P p) (d + 2) a__law_value [sg L,.int k,.ref 11 e,.ref 12 a]) σ (VQ B L Fin e a k E init x):=by
 rw [Uh8]
 show RF _ σ _
 delta F__law_value
 refine whileRun (n:=L.length - k) (fun n fr s => s = σ ∧ ∃ j:Nat,n = L.length - j ∧ fr = frV L j e a [] ∧ k <= j ∧ j <= L.length ∧ Fq B L Fin j "before attribute value" E (plA init ++ [x.pl])) ⟨rfl,k,rfl,rfl,Nat.le_refl _,hk,hF⟩ (by omega) fun n fr s hI => ?_
 refine xAEAAAAA hI fun qz1 j qz2 qz3 h1 h2 hFj => ?_; subst qz1; subst qz2; subst qz3
 rw [Ucv,Uc0]
 delta Q__law_value_l0_0 T__law_value_l0_0
 by_cases hj:j < L.length
 · have hg:=List.getElem?_eq_getElem hj
   generalize L[j] = c1 at hg
   have ht:∀ b:Bool,decide (c1 ∈ bls) = b -> (bnd (bnd (builtinV .len [sg L]) fun x2 => bnd (look (cmpV .Lt (.int j) x2)) fun x3 => cond x3 (bnd (look (itemV (sg L) (.int j))) fun x4 => bnd (callK (P p) (d + 1) a__law_blanks []) fun x5 => bnd (look (cmpV .In x4 x5)) fun x6 => cond x6 (ret (.ret (.bool true))) (ret (.ret (.bool false)))) (ret (.ret (.bool false)))) unB) s = some (b,s):=fun b hb => by
     refine ba_of (sg_len L) ?_; refine ba_of (a:=true) (σ₁:=s) (by delta look; rw [lt_int,decide_eq_true hj]) ?_
     show (bnd (bnd (look (itemV (sg L) (.int j))) _) unB) s = _
     refine ba_of (a:=.str (ch c1)) (σ₁:=s) (by delta look; rw [Ub2 hg]) ?_; refine ba_of (Udg (d:=d)) ?_; refine ba_of (a:=b) (σ₁:=s) (by delta look; rw [sg_in,hb]) ?_
     cases b <;> rfl
   by_cases hs:c1 ∈ bls
   · refine .inr ⟨ht true (decide_eq_true hs),Run.l (Uar j) (Run.next (.inl ⟨_,L.length - (j + 1),by omega,rfl,rfl,j + 1,rfl,rfl,by omega,by omega,hFj.step hg (Uoz hs)⟩))⟩
   · exact .inl ⟨ht false (decide_eq_false hs),Uou h hx h2 hL hp hE hFj h1 fun c hc => by rw [hg] at hc; cases hc; exact hs⟩
 · refine .inl ⟨?_,Uou h hx h2 hL hp hE hFj h1 fun c hc => by rw [List.getElem?_eq_none (by omega)] at hc; cases hc⟩
   refine ba_of (sg_len L) ?_; refine ba_of (a:=false) (σ₁:=s) (by delta look; rw [lt_int,decide_eq_false hj]) ?_
   rfl
end
end Mine
end
section
open PySem PySem.W
namespace Mine
noncomputable def RP (B:PD) (L:List Nat) (Fin:PS) (here:Str) (k:Nat) (E:List V) (as:List At):Prop :=
 (L[k]? = some 38 ∧ Fin = { ms B "" (k + 1) "character reference" E (plA as) with back:=here }) ∨ (L[k]? = some 62 ∧ Fin = outS B "" k E (plA as) (here == "self-closing start tag")) ∨
 (k = L.length ∧ Fin = ms B "" k here E (plA as) ∧ (here = "attribute name" ∧ (∃ init x,as = init ++ [x] ∧ KI (plA init)) ∨ ∃ q:St,here = q.str ∧ (q = .self ∨ q = .befName ∨ q = .aftName ∨ q = .befVal ∨ q = .dq ∨ q = .sq ∨ q = .bare ∨ q = .aftVal)))
noncomputable def RQ (B:PD) (L:List Nat) (Fin:PS) (e a:Nat) (v:V) (σ':Store):Prop :=
 ∃ here k E as,v = .tup [.str here,.int (k:Nat)] ∧ k <= L.length ∧ LS σ' e a E as ∧ E.length <= 4 * k ∧ as.length <= k ∧ RP B L Fin here k E as
section
variable {p:Params} {σ σ' σ₁ σ0:Store} {d e a:Nat} {E:List V} {as init:List At} {L:List Nat} {Q:V -> Store -> Prop} {c:CC} {x:At} {B:PD} {Fin:PS} {k j en c0 qc:Nat} {q:St} {here:Str}
noncomputable abbrev frR (L:List Nat) (j e a:Nat) (here:Str) (r:Fr):Fr:=(Y "signs",sg L) :: (Y "at",.int (j:Nat)) :: (Y "errors",.ref 11 e) :: (Y "attrs",.ref 12 a) :: (Y "here",.str here) :: r
noncomputable def RI (B:PD) (L:List Nat) (Fin:PS) (e a n:Nat) (fr:Fr) (s:Store):Prop :=
 ∃ here j E as,n = L.length - j ∧ (fr = frR L j e a here [] ∨ ∃ w,fr = frR L j e a here [(Y "sign",w)]) ∧ j <= L.length ∧ LS s e a E as ∧ KI (plA as) ∧ Lp B L Fin here j E (plA as) ∧ E.length <= 4 * j ∧ as.length <= j ∧
   (here = "after attribute name" -> ∃ (init:List At) (x:At),as = init ++ [x] ∧ x.v = (Y ""))
noncomputable def Goes (B:PD) (L:List Nat) (Fin:PS) (e a n:Nat) (fl:Fl) (s:Store):Prop:=(∃ fr' n',n' < n ∧ fl = .next fr' ∧ RI B L Fin e a n' fr' s) ∨ ∃ v,fl = .ret v ∧ RQ B L Fin e a v s
theorem Ue0:plA (init ++ [x]) = plA init ++ [x.pl]:=by delta plA; rw [List.map_append]; rfl
theorem Run.two {α:Type} {m:M α} {n:α -> M Bool} {b:Bool} {K:Bool -> M Fl} {Q:Fl -> Store -> Prop} (e:bnd m n σ = some (b,σ₁)) (g:Run (K b) σ₁ Q):Run (bnd m fun x => bnd (n x) K) σ Q:=by
 rw [<- Uak]; exact Run.b e g
theorem read_2 {n:Nat} (h:LS σ e a E as) (hK:KI (plA as)) (hF:Fq B L Fin j here E (plA as)) (hh:here = "before attribute name" ∨ here = "after attribute name") (h6:L[j]? = some 61 -> here = "after attribute name") (hv:here = "after attribute name" -> ∃ (init:List At) (x:At),as = init ++ [x] ∧ x.v = (Y "")) (hL:L.length <= 100) (hp:∀ c ∈ L,c ∈ pool2) (hE:E.length <= 4 * j) (hA:as.length <= j)
   (hj:j < L.length) (hn:L.length - j < n ∨ L[j]? = some 61 ∧ L.length - j <= n) {w:V}:Run (J__law_read_2 p (callK (P p) (d + 2)) (frR L j e a here [(Y "sign",w)])) σ (Goes B L Fin e a n):=by
 rw [Uek]
 delta J__law_read_2_T0
 have hg:=List.getElem?_eq_getElem hj
 generalize L[j] = c1 at hg
 refine Run.l (Ub2 hg) (Run.l (eq_ch c1 61) ?_)
 by_cases h61:c1 = 61
 · subst h61
   rw [decide_eq_true rfl]
   have haft:=h6 hg
   subst haft
   refine xEEAA (hv rfl) fun init x qz1 hx => ?_; subst qz1
   rw [Ue0] at hF hK
   refine Run.pos rfl (Run.l (Uar j) (Run.c (Umi (d:=d) h hx hj hL hp (by omega) (hF.step hg t_eq)) fun v σ1 hV => ?_))
   refine xEEEEAAAAAA hV fun here' k' E' y qz1 hk1 hk2 hE' hS hz => ?_; subst qz1
   have hKy:KI (plA (init ++ [{ x with v:=y }])):=by rw [Ue0]; exact KI.setv hK
   have hE2:E'.length <= 4 * k':=by omega
   have hA2:(init ++ [{ x with v:=y }]).length <= k':=by rw [List.length_append,List.length_singleton] at hA ⊢; omega
   rcases hz with ⟨q,hq,rfl,hz⟩ | ⟨hna,hz⟩
   · have e1:(bnd (look (sliceV (.str q.str) none (some (.int 15)))) fun x60 => look (cmpV .Eq x60 (.str (Y "attribute value")))) σ1 = some (true,σ1):=by rcases hq with rfl | rfl | rfl <;> kernel_rfl
     refine Run.two e1 (Run.pos rfl ⟨_,σ1,rfl,.inr ⟨_,rfl,q.str,k',E',_,rfl,hk2,hS,hE2,hA2,?_⟩⟩)
     delta RP
     rw [Ue0]
     rcases hz with ⟨hz1,hz2⟩ | ⟨hz1,hz2⟩
     · refine .inr (.inr ⟨hz1,hz2,.inr ⟨q,rfl,?_⟩⟩)
       rcases hq with rfl | rfl | rfl
       · exact .inr (.inr (.inr (.inr (.inl rfl))))
       · exact .inr (.inr (.inr (.inr (.inr (.inl rfl)))))
       · exact .inr (.inr (.inr (.inr (.inr (.inr (.inl rfl))))))
     · exact .inl ⟨hz1,hz2⟩
   · have e1:(bnd (look (sliceV (.str here') none (some (.int 15)))) fun x60 => look (cmpV .Eq x60 (.str (Y "attribute value")))) σ1 = some (false,σ1):=by
       rcases hz with ⟨rfl | rfl,_⟩ | ⟨rfl | rfl,_⟩ | ⟨rfl,_⟩ <;> kernel_rfl
     exact Run.two e1 (Run.neg Bool.false_ne_true ⟨_,σ1,rfl,.inl ⟨_,L.length - k',by omega,rfl,here',k',E',_,rfl,.inr ⟨_,rfl⟩,hk2,hS,hKy,by rw [Ue0]; exact hz,hE2,hA2,fun q => absurd q hna⟩⟩)
 · rw [decide_eq_false h61]
   have hn':L.length - j < n:=hn.elim id fun q => by rw [hg] at q; exact absurd (Option.some.inj q.1) h61
   exact Run.neg Bool.false_ne_true ⟨_,σ,rfl,.inl ⟨_,L.length - j,hn',rfl,here,j,E,as,rfl,.inr ⟨_,rfl⟩,Nat.le_of_lt hj,h,hK,.inl ⟨hh,hF⟩,hE,hA,hv⟩⟩
theorem Urc (hF:Fq B L Fin j here E (plA as)) (hh:here = "before attribute name" ∨ here = "after attribute name") (hg:L[j]? = some c0) (hc:c0 ∈ okL) (h1:c0 ∉ bls) (h2:c0 ≠ 47) (h3:c0 ≠ 62) (h6:c0 = 61 -> here = "before attribute name")
   (hj:j < en) (hen:en <= L.length) (hs:∀ c ∈ (L.drop (j + 1)).take (en - (j + 1)),c ∉ nStop):Fq B L Fin en "attribute name" (nmE c0 j E ((L.drop j).take (en - j))) (plA as ++ [⟨ofC (((L.drop j).take (en - j)).map lowC),"",true⟩]):=by
 have hseg:(L.drop j).take (en - j) = c0 :: (L.drop (j + 1)).take (en - (j + 1)):=by
   rw [Ucf hg,show en - j = (en - (j + 1)) + 1 by omega,List.take_succ_cons]
 delta nmE
 by_cases h61:c0 = 61
 · subst h61
   have:=h6 rfl
   subst this
   rw [if_pos rfl,hseg]
   have h:=(hF.step hg Uq6).seg (show j + 1 <= en from hj) hen (f_name _ _ _ _ hs)
   have e1:tk nOdd nWhy j (61 :: (L.drop (j + 1)).take (en - (j + 1))) = tk nOdd nWhy ((j + 1:Nat):Int) ((L.drop (j + 1)).take (en - (j + 1))):=by
     show tk1 nOdd nWhy j 61 ++ tk nOdd nWhy ((j:Int) + 1) _ = _
     have:tk1 nOdd nWhy j 61 = []:=by delta tk1; rw [if_neg (by decide),if_neg (by decide)]
     rw [this]; rfl
   have e2:ofC ((61 :: (L.drop (j + 1)).take (en - (j + 1))).map lowC) = ch 61 ++ ofC (((L.drop (j + 1)).take (en - (j + 1))).map lowC):=by
     rw [List.map_cons,<- Uja,<- Uks]; rfl
   rw [e1,e2]
   exact h
 · rw [if_neg h61,List.append_nil]
   have hn:c0 ∉ nStop:=by
     simp only [nStop,List.mem_cons,List.not_mem_nil,or_false,not_or]
     simp only [bls,List.mem_cons,List.not_mem_nil,or_false,not_or] at h1
     exact ⟨h1.1,h1.2.1,h1.2.2.1,h1.2.2.2,h2,h3,h61⟩
   have h:=(hF.same hg (t_new hc hn hh)).seg (Nat.le_of_lt hj) hen (f_name _ _ _ _ fun c m => by
     rw [hseg] at m
     rcases List.mem_cons.mp m with rfl | m
     · exact hn
     · exact hs c m)
   rw [Uja] at h
   exact h
end
end Mine
end
section
open PySem PySem.W
namespace Mine
section
variable {p:Params} {σ σ' σ₁ σ0:Store} {d e a:Nat} {E:List V} {as init:List At} {L:List Nat} {Q:V -> Store -> Prop} {c:CC} {x:At} {B:PD} {Fin:PS} {k j en c0 qc:Nat} {q:St} {here:Str}
theorem Ujg (h:LS σ e a E as) (hK:KI (plA as)) (hF:Fq B L Fin j here E (plA as)) (hh:here = "before attribute name" ∨ here = "after attribute name") (hg:L[j]? = some c0) (h1:c0 ∉ bls) (h2:c0 ≠ 47) (h3:c0 ≠ 62) (h6:c0 = 61 -> here = "before attribute name")
   (hL:L.length <= 100) (hp:∀ c ∈ L,c ∈ pool2) (hE:E.length <= 4 * j) (hA:as.length <= j) {w:V} :
   Run (bnd (callK (P p) (d + 2) a__law_name [sg L,.int j,.ref 11 e,.ref 12 a]) fun x14 => bnd (builtinV .len [sg L]) fun x15 => bnd (look (cmpV .Eq x14 x15)) fun x16 => if x16 then ret (Fl.ret (.tup [.str (Y "attribute name"),x14])) else
     J__law_read_3 p (callK (P p) (d + 2)) [(Y "signs",sg L),(Y "at",x14),(Y "errors",.ref 11 e),(Y "attrs",.ref 12 a),(Y "here",.str here),(Y "sign",w)]) σ (Goes B L Fin e a (L.length - j)):=by
 have hj:j < L.length:=by rw [List.getElem?_eq_some_iff] at hg; exact hg.1
 refine Run.c (Unf (d:=d) h hg hL hp (by omega) (by omega)) fun v σ1 hN => ?_
 refine xEAAAAAEA hN fun en qz1 n1 n2 n3 n4 i hS => ?_; subst qz1
 have hF1:=Urc hF hh hg (Uc4 (hp c0 (List.mem_of_getElem? hg))) h1 h2 h3 h6 n1 n2 n3
 have hE1:(nmE c0 j E ((L.drop j).take (en - j))).length <= E.length + 1 + (en - j):=by
   delta nmE
   have h5:=tk_len nOdd nWhy ((L.drop j).take (en - j)) j
   rw [Uk7 (Nat.le_of_lt n1) n2] at h5
   rw [List.length_append,List.length_append]
   have:(if c0 = 61 then [errV eqWhy j] else []).length <= 1:=by split <;> simp
   omega
 generalize nmE c0 j E ((L.drop j).take (en - j)) = E1 at hS hF1 hE1
 generalize ofC (((L.drop j).take (en - j)).map lowC) = nm at hS hF1
 refine Run.b (sg_len L) (Run.l (eq_int en L.length) ?_)
 by_cases hl:en = L.length
 · rw [decide_eq_true hl]
   refine Run.pos rfl ⟨_,σ1,rfl,.inr ⟨_,rfl,"attribute name",en,E1,_,rfl,n2,hS,by omega,by rw [List.length_append,List.length_singleton]; omega,.inr (.inr ⟨hl,?_,.inl ⟨rfl,as,_,rfl,hK⟩⟩)⟩⟩
   rw [Ue0]
   exact hF1.fin hl
 · rw [decide_eq_false hl]
   refine Run.neg Bool.false_ne_true ?_
   rw [Uel]
   delta J__law_read_3_T0
   refine Run.c (Ufw (d:=d + 1) (n:=en) hS hK (by omega) (by omega)) fun v σ2 qq => xEAAA qq fun x' ex hS2 w0 => ?_
   have hlt:en < L.length:=by omega
   have hgn:=List.getElem?_eq_getElem hlt
   generalize hcn:L[en] = c1 at hgn
   have hF2:=hF1.same hgn (Uq4 (n4 c1 hgn))
   have hKx:KI (plA as ++ [ckA (plA as) ⟨nm,"",true⟩]):=hK.snoc rfl
   have epx:(⟨i,nm,"",true⟩:At).pl = ⟨nm,"",true⟩:=rfl
   rw [epx] at ex hS2
   have ex':plA (as ++ [x']) = plA as ++ [ckA (plA as) ⟨nm,"",true⟩]:=by rw [Ue0,ex]; rfl
   have hv:x'.v = (Y ""):=by
     have:x'.pl.v = (ckA (plA as) ⟨nm,"",true⟩).v:=congrArg PA.v ex
     rw [show x'.v = x'.pl.v from rfl,this]
     delta ckA
     split <;> rfl
   have hE2:(ckE en E1 (plA as) ⟨nm,"",true⟩).length <= E1.length + 1:=by
     delta ckE
     split
     · rw [List.length_append]; exact Nat.le_refl _
     · exact Nat.le_succ _
   have hE4:(ckE (en:Int) E1 (plA as) ⟨nm,"",true⟩).length <= 4 * en:=by omega
   exact read_2 hS2 (by rw [ex']; exact hKx) (by rw [ex']; exact hF2) (.inr rfl) (fun w0 => rfl) (fun w0 => ⟨as,x',rfl,hv⟩) hL hp hE4 (by rw [List.length_append,List.length_singleton]; omega) hlt (.inl (by omega))
theorem Unl (h:LS σ e a E as) (hK:KI (plA as)) (hF:Fq B L Fin j here E (plA as)) (hh:here = "before attribute name" ∨ here = "after attribute name") (hg:L[j]? = some c0) (h62:c0 ≠ 62) (hcl:B.closing = false)
   (hL:L.length <= 100) (hp:∀ c ∈ L,c ∈ pool2) (hE:E.length <= 4 * j) (hA:as.length <= j) (hv:here = "after attribute name" -> ∃ (init:List At) (x:At),as = init ++ [x] ∧ x.v = (Y "")) :
   Run (T__law_read_l0_0 p (callK (P p) (d + 2)) (sg L) (.int j) (.ref 11 e) (.ref 12 a) (.str here)) σ (Goes B L Fin e a (L.length - j)):=by
 have hj:j < L.length:=by rw [List.getElem?_eq_some_iff] at hg; exact hg.1
 have hok:=Uc4 (hp c0 (List.mem_of_getElem? hg))
 delta T__law_read_l0_0
 refine Run.l (Ub2 hg) (Run.b (Udg (d:=d + 1)) (Run.l (sg_in c0 bls) ?_))
 by_cases h1:c0 ∈ bls
 · rw [decide_eq_true h1]
   refine Run.pos rfl (Run.l (Uar j) ⟨_,σ,rfl,.inl ⟨_,L.length - (j + 1),by omega,rfl,here,j + 1,E,as,rfl,.inr ⟨_,rfl⟩,hj,h,hK,.inl ⟨hh,hF.step hg ?_⟩,by omega,by omega,hv⟩⟩)
   rcases hh with rfl | rfl
   · exact t_bef h1
   · exact t_aft h1
 · rw [decide_eq_false h1]
   refine Run.neg Bool.false_ne_true (Run.l (eq_ch c0 47) ?_)
   by_cases h47:c0 = 47
   · subst h47
     rw [decide_eq_true rfl]
     have hF1:Fq B L Fin (j + 1) "self-closing start tag" E (plA as):=hF.step hg (by
       rcases hh with rfl | rfl
       · exact Unv
       · exact Ufq)
     refine Run.pos rfl (Run.l (Uar j) (Run.l (Uar (j + 1)) (Run.l (Ufz (Nat.le_succ (j + 1))) ?_)))
     rw [show j + 1 + 1 - (j + 1) = 1 by omega]
     refine Run.b (a:=.lst []) (σ₁:=σ) rfl (Run.b (a:=sg [62]) (σ₁:=σ) rfl (Run.b (a:=.lst [.lst [],sg [62]]) (σ₁:=σ) rfl (Run.l (in_end 62) ?_)))
     by_cases hz:L[j + 1]? = none ∨ L[j + 1]? = some 62
     · rw [decide_eq_true hz]
       refine Run.pos rfl ⟨_,σ,rfl,.inr ⟨_,rfl,"self-closing start tag",j + 1,E,as,rfl,hj,h,by omega,by omega,?_⟩⟩
       rcases hz with hz | hz
       · have:j + 1 = L.length:=by rw [List.getElem?_eq_none_iff] at hz; omega
         exact .inr (.inr ⟨this,hF1.fin this,.inr ⟨.self,rfl,.inl rfl⟩⟩)
       · exact .inr (.inl ⟨hz,hF1.end hz Uso rfl⟩)
     · rw [decide_eq_false hz]
       have hlt:j + 1 < L.length:=by
         rcases Nat.lt_or_ge (j + 1) L.length with q | q
         · exact q
         · exact absurd (.inl (List.getElem?_eq_none q)) hz
       have hgn:=List.getElem?_eq_getElem hlt
       generalize L[j + 1] = c1 at hgn
       have hc1:c1 ≠ 62:=fun q => hz (.inr (by rw [hgn,q]))
       refine Run.neg Bool.false_ne_true ?_
       rw [Uei]
       delta J__law_read_1_T0
       refine Run.er h (by omega) fun σ2 h2 w0 => ⟨_,σ2,rfl,.inl ⟨_,L.length - (j + 1),by omega,rfl,"before attribute name",j + 1,_,as,rfl,.inr ⟨_,rfl⟩,hj,h2,hK,.inl ⟨.inl rfl,hF1.same hgn (self_o (Uc4 (hp c1 (List.mem_of_getElem? hgn))) hc1)⟩,by rw [List.length_append,List.length_singleton]; omega,by omega,fun q => absurd q (by decide)⟩⟩
   · rw [decide_eq_false h47]
     refine Run.neg Bool.false_ne_true (Run.l (ne_ch c0 61) ?_)
     by_cases h61:c0 = 61
     · subst h61
       rw [decide_eq_false (fun q => q rfl)]
       rcases hh with rfl | rfl
       · exact Run.cf (Run.l (a:=true) (by kernel_rfl) (Run.ct (Ujg h hK hF (.inl rfl) hg h1 h47 h62 (fun w0 => rfl) hL hp hE hA)))
       · exact Run.cf (Run.l (a:=false) (by kernel_rfl) (Run.cf (read_2 h hK hF (.inr rfl) (fun w0 => rfl) hv hL hp hE hA hj (.inr ⟨hg,Nat.le_refl _⟩))))
     · rw [decide_eq_true h61]
       exact Run.ct (Ujg h hK hF hh hg h1 h47 h62 (fun q => absurd q h61) hL hp hE hA)
theorem Uo0 (h:LS σ e a E as) (hk:k <= L.length) (hL:Lp B L Fin here k E (plA as)) (hcl:B.closing = false) (hE:E.length <= 4 * k) (hA:as.length <= k) (he:k = L.length ∨ L[k]? = some 62):RQ B L Fin e a (.tup [.str here,.int (k:Nat)]) σ:=by
 refine ⟨here,k,E,as,rfl,hk,h,hE,hA,?_⟩
 have out:∀ st:Str,(st = "before attribute name" ∨ st = "after attribute name") -> Fq B L Fin k st E (plA as) -> L[k]? = some 62 -> here ≠ "self-closing start tag" -> RP B L Fin here k E as:=fun st hst hF hg hn => by
   refine .inr (.inl ⟨hg,?_⟩)
   rw [show (here == (Y "self-closing start tag")) = false from beq_eq_false_iff_ne.mpr hn,<- hcl]
   rcases hst with rfl | rfl
   · exact hF.end hg bef_gt rfl
   · exact hF.end hg aft_gt rfl
 have no:∀ {c:Nat},k = L.length -> L[k]? ≠ some c:=fun q w => by rw [List.getElem?_eq_none (by omega)] at w; cases w
 rcases hL with ⟨hh,hF⟩ | ⟨hh,hl,hF⟩ | ⟨rfl,hg,hF⟩
 · rcases he with he | he
   · refine .inr (.inr ⟨he,hF.fin he,.inr ?_⟩)
     rcases hh with rfl | rfl
     · exact ⟨.befName,rfl,.inr (.inl rfl)⟩
     · exact ⟨.aftName,rfl,.inr (.inr (.inl rfl))⟩
   · exact out here hh hF he (by rcases hh with rfl | rfl <;> decide)
 · refine .inr (.inr ⟨hl,hF.fin hl,.inr ?_⟩)
   rcases hh with rfl | rfl
   · exact ⟨.befVal,rfl,.inr (.inr (.inr (.inl rfl)))⟩
   · exact ⟨.aftVal,rfl,.inr (.inr (.inr (.inr (.inr (.inr (.inr rfl))))))⟩
 · exact out _ (.inr rfl) hF hg (by decide)
theorem Upw (h:LS σ e a [] []) (hk:k <= L.length) (hL:L.length <= 100) (hp:∀ c ∈ L,c ∈ pool2) (hcl:B.closing = false) (hF:Fq B L Fin k "before attribute name" [] []):Run (callK (P p) (d + 3) a__law_read [sg L,.int k,.ref 11 e,.ref 12 a]) σ (RQ B L Fin e a):=by
 rw [Ujn]
 show RF _ σ _
 delta F__law_read
 have hl1:∀ vsign:V,∀ (c:CC) (s0 at0 er at1 he:V),T__law_read_l0_1 p c s0 at0 er at1 he vsign = T__law_read_l0_0 p c s0 at0 er at1 he:=fun w0 w0 w0 w0 w0 w0 w0 => rfl
 have hq1:∀ vsign:V,∀ (c:CC) (s0 at0 er at1 he:V),Q__law_read_l0_1 p c s0 at0 er at1 he vsign = Q__law_read_l0_0 p c s0 at0 er at1 he:=fun w0 w0 w0 w0 w0 w0 w0 => rfl
 refine whileRun (n:=L.length - k) (RI B L Fin e a) ⟨"before attribute name",k,[],[],rfl,.inl rfl,hk,h,(fun x m => by cases m),.inl ⟨.inl rfl,hF⟩,Nat.zero_le _,Nat.zero_le _,fun q => absurd q (by decide)⟩ (by omega) fun n fr s hI => ?_
 refine xEEEEAAAAAAAAA hI fun here j E as qz1 sh hj hS hK hLp hE hA hv => ?_; subst qz1
 have test:∀ b:Bool,(∀ (hlt:j < L.length) c0,L[j]? = some c0 -> decide (c0 ≠ 62) = b) -> (¬ j < L.length -> b = false) -> Q__law_read_l0_0 p (callK (P p) (d + 2)) (sg L) (.int j) (.ref 11 e) (.ref 12 a) (.str here) s = some (b,s):=fun b h1 h2 => by
   delta Q__law_read_l0_0
   by_cases hlt:j < L.length
   · have hg:=List.getElem?_eq_getElem hlt
     have hb:=h1 hlt _ hg
     generalize L[j] = c1 at hg hb
     refine ba_of (sg_len L) ?_; refine ba_of (a:=true) (σ₁:=s) (by delta look; rw [lt_int,decide_eq_true hlt]) ?_
     show (bnd (bnd (look (itemV (sg L) (.int j))) _) unB) s = _
     refine ba_of (a:=.str (ch c1)) (σ₁:=s) (by delta look; rw [Ub2 hg]) ?_; refine ba_of (a:=b) (σ₁:=s) (by delta look; rw [show (.str (Y ">"):V) = .str (ch 62) from rfl,ne_ch,hb]) ?_
     cases b <;> rfl
   · rw [Uak,bnd_of (sg_len L),Uak,bnd_of (a:=false) (σ₁:=s) (by delta look; rw [lt_int,decide_eq_false hlt]),h2 hlt]
     rfl
 have fin:(j = L.length ∨ L[j]? = some 62) -> RQ B L Fin e a (.tup [.str here,.int (j:Nat)]) s:=fun he => Uo0 hS hj hLp hcl hE hA he
 by_cases hgo:j < L.length ∧ L[j]? ≠ some 62
 · have hg:=List.getElem?_eq_getElem hgo.1
   generalize L[j] = c0 at hg
   have h62:c0 ≠ 62:=fun q => hgo.2 (by rw [hg,q])
   have ht:=test true (fun w0 c w => by rw [hg] at w; cases w; exact decide_eq_true h62) (fun q => absurd hgo.1 q)
   have hFq:(here = "before attribute name" ∨ here = "after attribute name") ∧ Fq B L Fin j here E (plA as):=by
     rcases hLp with q | ⟨_,q,_⟩ | ⟨_,q,_⟩
     · exact q
     · exact absurd hgo.1 (by omega)
     · exact absurd q hgo.2
   have turn:=Unl (d:=d) (p:=p) hS hK hFq.2 hFq.1 hg h62 hcl hL hp hE hA hv
   refine .inr ?_
   rcases sh with rfl | ⟨w,rfl⟩
   · rw [Ubh,Udn]
     exact ⟨ht,turn⟩
   · rw [Ubg,Udr,hl1,hq1]
     exact ⟨ht,turn⟩
 · have he:j = L.length ∨ L[j]? = some 62:=by
     rcases Nat.lt_or_ge j L.length with q | q
     · exact .inr (Decidable.not_not.mp fun w => hgo ⟨q,w⟩)
     · exact .inl (by omega)
   have ht:=test false (fun hlt c w => decide_eq_false fun q => q (by
     rcases he with he | he
     · omega
     · rw [he] at w; cases w; rfl)) (fun w0 => rfl)
   refine .inl ?_
   rcases sh with rfl | ⟨w,rfl⟩
   · rw [Ubh,Uej]
     exact ⟨ht,RF.r (fin he)⟩
   · rw [Ubg,hq1,Ueb]
     exact ⟨ht,RF.r (fin he)⟩
end
end Mine
end
section
open PySem PySem.W
namespace Mine
noncomputable def pool24:List Nat:=[32,97,61,34,47,66,39,60,99,0,62,96,61,32,97,65,38,10,98,8490,9,61,67,12]
noncomputable def tail2:List Nat:=(Y "a=\"<>\"A ='B'/c=`a  C\x00/=a").cps.toList
noncomputable def drawn2 (ns:List Int):List Nat:=((ns.drop 1).take 24).map (pickC pool24 24)
noncomputable def signs2 (ns:List Int):List Nat:=drawn2 ns ++ tail2.drop (drawn2 ns).length
theorem Ug4 (ns:List Int):(drawn2 ns).length <= 24:=by delta drawn2; rw [List.length_map]; exact List.length_take_le _ _
theorem Uio:tail2.length = 24:=by kernel_rfl
theorem Ulm (ns:List Int):(signs2 ns).length = 24:=by
 have:=Ug4 ns
 delta signs2
 rw [List.length_append,List.length_drop,Uio]; omega
theorem Uni:pool24.all (fun c => pool2.contains c) = true:=by kernel_rfl
theorem Uqp:tail2.all (fun c => pool2.contains c) = true:=by kernel_rfl
theorem Umh (ns:List Int):∀ c ∈ signs2 ns,c ∈ pool2:=fun c h => by
 delta signs2 drawn2 at h
 rcases List.mem_append.mp h with h | h
 · refine xEAA (List.mem_map.mp h) fun i w0 qz1 => ?_; subst qz1
   simpa using List.all_eq_true.mp Uni _ (Uqd (m:=24) (by decide) rfl i)
 · simpa using List.all_eq_true.mp Uqp _ (List.mem_of_mem_drop h)
section
variable {p:Params} {σ σ' σ₁ σ0:Store} {d e a:Nat} {E:List V} {as init:List At} {L:List Nat} {Q:V -> Store -> Prop} {c:CC} {x:At} {B:PD} {Fin s:PS} {k j en c0 qc:Nat} {q:St} {here:Str} {v:V}
theorem Up8 (ns:List Int):callK (P p) (d + 1) a__law_signs [.lst (ns.map .int)] σ = some (sg (signs2 ns),σ):=by
 rw [Uhp]
 suffices H:RF (F__law_signs p (callK (P p) d) (.lst (ns.map .int))) σ fun v σ' => v = sg (signs2 ns) ∧ σ' = σ by
   refine xEEAAA H fun v σ' e qz1 qz2 => ?_; subst qz1; subst qz2
   exact e
 delta F__law_signs
 have s1:sliceV (.lst (ns.map .int)) (some (.int 1)) (some (.int 25)) σ = some (.lst (((ns.drop 1).take 24).map .int)):=by
   show some (V.lst (sliceL (some ((1:Nat):Int)) (some ((25:Nat):Int)) (ns.map .int))) = _
   rw [Uir 1 25 _ (by decide),<- List.map_drop,<- List.map_take]
 have s2:sliceV (sg tail2) (some (.int ((drawn2 ns).length:Nat))) none σ = some (sg (tail2.drop (drawn2 ns).length)):=by
   show some (V.lst (sliceL (some ((drawn2 ns).length:Int)) none (tail2.map fun c => V.str (ch c)))) = _
   rw [Ukh,<- List.map_drop]
   rfl
 have hd:=Ug4 ns
 have ht:=Uio
 refine RF.b1 (RF.l s1 (RF.b (Umt pool24 24 (by decide) rfl _ (by have:=List.length_take_le 24 (ns.drop 1); omega)) (RF.b (a:=sg tail2) (σ₁:=σ) rfl (RF.b (sg_len (drawn2 ns)) (RF.l s2 (RF.l (sg_add (drawn2 ns) (tail2.drop (drawn2 ns).length) (by rw [List.length_drop]; omega)) (RF.r ⟨rfl,rfl⟩)))))))
theorem Uik (h:LS σ e a E as) (has:as.length < 200) (kd:Str) (hk:(kd == (Y "comment")) = false) (cl:Bool):callK (P p) (d + 1) a__law_token [.str kd,.ref 12 a,.bool cl] σ = some (PD.tok ⟨kd,"a",cl,plA as⟩,σ):=by
 rw [Uhw]
 suffices H:RF (F__law_token p (callK (P p) d) (.str kd) (.ref 12 a) (.bool cl)) σ fun v σ' => v = PD.tok ⟨kd,"a",cl,plA as⟩ ∧ σ' = σ by
   refine xEEAAA H fun v σ' e qz1 qz2 => ?_; subst qz1; subst qz2
   exact e
 delta F__law_token
 have it:∀ b ∈ as,itemV (.ref 13 b.i) (.int 0) σ = some (.str b.n) ∧ itemV (.ref 13 b.i) (.int 1) σ = some (.str b.v) ∧ itemV (.ref 13 b.i) (.int 2) σ = some (.bool b.k):=fun b m =>
   ⟨itemL (k:=0) (h.each b m) rfl,itemL (k:=1) (h.each b m) rfl,itemL (k:=2) (h.each b m) rfl⟩
 let f:V -> Option V:=fun v => match itemV v (.int 2) σ with
   | some (.bool true) => match itemV v (.int 0) σ,itemV v (.int 1) σ with
     | some n,some w => some (.tup [n,w])
     | _,_ => none
   | _ => none
 have hf:∀ b ∈ as,f (.ref 13 b.i) = if b.k then some (.tup [.str b.n,.str b.v]) else none:=fun b m => by
   refine xAAA (it b m) fun i0 i1 i2 => ?_
   show (match itemV (.ref 13 b.i) (.int 2) σ with | some (.bool true) => _ | _ => _) = _
   rw [i2]
   cases b.k with
   | false => rfl
   | true => dsimp only; rw [i0,i1]; rfl
 have hlist:∀ l:List At,(∀ b ∈ l,b ∈ as) -> (l.map fun b => V.ref 13 b.i).filterMap f = kept (plA l):=fun l => by
   induction l with
   | nil => intro _; rfl
   | cons b r ih =>
     intro hb
     have e:=hf b (hb b List.mem_cons_self)
     have ih:=ih fun c m => hb c (List.mem_cons_of_mem _ m)
     have hkept:kept (plA (b :: r)) = if b.k then .tup [.str b.n,.str b.v] :: kept (plA r) else kept (plA r):=by
       delta kept plA
       rw [List.map_cons,List.filter_cons]
       show (if b.k = true then _ else _:List PA).map _ = _
       cases b.k <;> rfl
     rw [hkept,List.map_cons]
     cases hk:b.k with
     | false => rw [hk] at e; rw [List.filterMap_cons_none e,ih]; rfl
     | true => rw [hk] at e; rw [List.filterMap_cons_some e,ih]; rfl
 refine RF.b (a:=.lst (kept (plA as))) (σ₁:=σ) ?_ (RF.b (a:=.tup (kept (plA as))) (σ₁:=σ) rfl (RF.r ⟨?_,rfl⟩))
 · rw [Ulj f (as.map fun b => .ref 13 b.i) (fun k w0 => Ugc h.att) (fun v hv => ?_) (by rw [List.length_map]; exact has),hlist as fun b m => m]
   refine xEAA (List.mem_map.mp hv) fun b m qz1 => ?_; subst qz1
   refine xAAA (it b m) fun i0 i1 i2 => ?_
   have e:=hf b m
   have ht:(bnd (bnd (look (itemV (.ref 13 b.i) (.int 2))) fun x4 => match isT x4 with | some x5 => ret (.ret (.bool x5)) | none => fail) unB) σ = some (b.k,σ):=by
     refine ba_of (a:=.bool b.k) (σ₁:=σ) (by delta look; rw [i2]) ?_; rfl
   cases hk:b.k with
   | false => rw [hk] at e ht; exact .inl ⟨e,ht⟩
   | true =>
     rw [hk] at e ht
     refine .inr ⟨_,e,ht,?_⟩
     refine ba_of (a:=.str b.n) (σ₁:=σ) (by delta look; rw [i0]) ?_; refine ba_of (a:=.str b.v) (σ₁:=σ) (by delta look; rw [i1]) ?_
     rfl
 · delta PD.tok
   rw [hk]; rfl
noncomputable def dueV (e:Nat) (s:PS):V:=.tup [.lst s.out,.ref 11 e,.str s.state,.int s.pos,.str s.back,.str s.last]
theorem due_d {o e':Nat} (h:Ov s) (ho:σ.get 9 o = some (.list s.out)) (he:σ.get 10 e' = some (.list s.errs)) (hl:σ.get 11 e = some (.list s.errs)) :
   ∃ d,toD σ 8 (.tup [.ref 9 o,.ref 10 e',.str s.state,.int s.pos,.str s.back,.str s.last]) = some d ∧ toD σ 8 (dueV e s) = some d:=by
 refine xEA (Ull h.1 σ) fun d1 e1 => ?_
 refine xEA (Ull h.2 σ) fun d2 e2 => ?_
 refine ⟨.tuple [.list d1,.list d2,.str s.state,.int s.pos,.str s.back,.str s.last],?_,?_⟩
 · exact Ulg (Ubx (Ufr ho e1) (Ubx (Ufr he e2) rfl))
 · delta dueV
   exact Ulg (Ubx (Unz e1) (Ubx (Ufr hl e2) rfl))
theorem due_e {o e':Nat} (h:Ov s) (ho:σ.get 9 o = some (.list s.out)) (he:σ.get 10 e' = some (.list s.errs)) (hl:σ.get 11 e = some (.list s.errs)) :
   eqV σ (.tup [.ref 9 o,.ref 10 e',.str s.state,.int s.pos,.str s.back,.str s.last]) (dueV e s) = some true:=xEAA (due_d h ho he hl) fun d h1 h2 =>
 (show eqV σ (.tup [.ref 9 o,.ref 10 e',.str s.state,.int s.pos,.str s.back,.str s.last]) (dueV e s) = some (PyData.eqv d d) from eqG_of h1 h2).trans (congrArg some (Ugd σ 8 _ _ h1))
theorem due_ne {o e':Nat} (h:Ov s) (ho:σ.get 9 o = some (.list s.out)) (he:σ.get 10 e' = some (.list s.errs)) (hl:σ.get 11 e = some (.list s.errs)) :
   cmpV .NotEq (.tup [.ref 9 o,.ref 10 e',.str s.state,.int s.pos,.str s.back,.str s.last]) (dueV e s) σ = some false:=congrArg (Option.map (!·)) (due_e h ho he hl)
theorem due_eq {o e':Nat} (h:Ov s) (ho:σ.get 9 o = some (.list s.out)) (he:σ.get 10 e' = some (.list s.errs)) (hl:σ.get 11 e = some (.list s.errs)) :
   cmpV .Eq (.tup [.ref 9 o,.ref 10 e',.str s.state,.int s.pos,.str s.back,.str s.last]) (dueV e s) σ = some true:=due_e h ho he hl
theorem Urw (D:PD):Pl 8 D.tok:=by
 delta PD.tok
 split
 · exact Pl.tup fun v h => by simp at h; rcases h with rfl | rfl <;> exact Pl.str
 · refine Pl.tup fun v h => ?_
   simp at h
   rcases h with rfl | rfl | rfl | rfl
   · exact Pl.str
   · exact Pl.str
   · refine Pl.tup fun v h => ?_
     unfold kept at h
     refine xEAA (List.mem_map.mp h) fun a w0 qz1 => ?_; subst qz1
     exact Pl.tup fun v h => by simp at h; rcases h with rfl | rfl <;> exact Pl.str
   · exact Pl.bool
theorem Uos (D:PD):strO D.tok = none ∧ intO D.tok = none:=by delta PD.tok; split <;> exact ⟨rfl,rfl⟩
theorem tok_ne (D:PD):cmpV .NotEq D.tok D.tok σ = some false:=by
 refine xEA (Urw D σ) fun d e1 => ?_
 have:eqV σ D.tok D.tok = some true:=(ob_no (Uos D).1).trans ((ob_no (Uos D).2).trans ((eqG_of e1 e1).trans (congrArg some (Ugd σ 8 _ _ e1))))
 exact congrArg (Option.map (!·)) this
end
end Mine
end
section
open PySem PySem.W
namespace Mine
section
variable {p:Params} {σ σ' σ₁ σ0:Store} {d e a:Nat} {E:List V} {as init:List At} {L:List Nat} {Q:V -> Store -> Prop} {c:CC} {x:At} {B:PD} {Fin s:PS} {k j en c0 qc:Nat} {q:St} {here:Str} {v:V} {τ:Rf} {t:TS}
theorem TP.low (h:TP σ τ s) (hr:∀ r,r <= 10 -> σ'[r]? = σ[r]?) (hl:σ'.length = 24):TP σ' τ s:=by
 refine xEAAA h fun t h w e => ?_
 have g:∀ r i,r <= 10 -> σ'.get r i = σ.get r i:=fun r i h => by delta Store.get; rw [hr r h]
 exact ⟨t,⟨hl,(g _ _ (by decide)).trans h.tok,(g _ _ (by decide)).trans h.str,(g _ _ (by decide)).trans h.sg,(g _ _ (by decide)).trans h.se,(g _ _ (by decide)).trans h.out,(g _ _ (by decide)).trans h.err,(g _ _ (by decide)).trans h.sd,
   fun D hD => ⟨(g _ _ (by decide)).trans (h.dr D hD).obj,(g _ _ (by decide)).trans (h.dr D hD).al,fun b m => (g _ _ (by decide)).trans ((h.dr D hD).each b m),(h.dr D hD).nd⟩⟩,w,e⟩
theorem TP.hx (h:TP σ τ s) (x:Hx σ σ') (hl:σ'.length = 24):TP σ' τ s:=h.low (fun r hr => x r (by omega) (by omega) (by omega)) hl
theorem TP.len (h:TP σ τ s):σ.length = 24:=by obtain ⟨t,h,_⟩:=h; exact h.len
theorem LS.fx (h:LS σ e a E as) (f:Fx σ σ') (hl:σ'.length = 24):LS σ' e a E as :=
 ⟨hl,(f.get (by decide)).trans h.err,(f.get (by decide)).trans h.att,fun x m => (f.get (by decide)).trans (h.each x m),h.nd⟩
theorem Uim (h:TP σ τ s):callK (P p) (d + 1) a__law_told [.ref 2 τ.i] σ = some (.tup [.ref 9 τ.o,.ref 10 τ.e,.str s.state,.int s.pos,.str s.back,.str s.last],σ):=by
 obtain ⟨t,h,hw,rfl⟩:=h
 rw [Ujk]
 delta F__law_told
 refine ba_of (ga_out h) ?_; refine ba_of (Uin h) ?_; refine ba_of (Uev h) ?_; refine ba_of (ga_at h) ?_; refine ba_of (Uq2 h) ?_; refine ba_of (Urt h) ?_
 rfl
theorem TP.outs (h:TP σ τ s):σ.get 9 τ.o = some (.list s.out) ∧ σ.get 10 τ.e = some (.list s.errs) ∧ (s.serr = [] -> σ.get 8 τ.se = some (.list [])):=by
 obtain ⟨t,h,hw,rfl⟩:=h
 exact ⟨h.out,h.err,fun q => by have q:t.serr = []:=q; rw [<- q]; exact h.se⟩
theorem j9 {l:List Str} {stop:Str} {script kind head signs attrs hr at_ token states:V} (h:TP σ τ (Fin.wi l false false)) (hm:Mid k (Fin.wi l false false)) (hk:k <= 1400) (hl:σ.get 11 e = some (.list (adv 4 Fin "").errs)) (ho:Ov (adv 4 Fin "")) (hse:Fin.serr = []) (hst:(stop == (Y "")) = (adv 4 Fin "").done) :
   RF (J_law_9_T0 p (callK (P p) (d + 7)) script kind head signs (.ref 11 e) attrs hr at_ (.str stop) token (dueV e (adv 4 Fin "")) states (.ref 2 τ.i)) σ fun v σ' => v = .bool true:=by
 delta J_law_9_T0
 refine xEAA (Upd hm hk) fun m hmm hR => ?_
 have hfin:adv 4 (Fin.wi l false false).end "" = (adv 4 Fin "").wi l true false:=wi_adv (c:="") l true false 4 Fin
 rw [hfin] at hR
 have hend:=Urd (p:=p) (d:=d + 5) h
 refine xEAAA h fun t ht hw het => ?_
 refine RF.mk (mt_end ht) (RF.c (Q₁:=fun (v:V) σ' => v = V.none ∧ TP σ' τ (Fin.wi l false false).end ∧ Fx σ σ') hend fun v σ1 qq => xAAA qq fun w0 h1 f1 => ?_)
 have hrun:=Uoo (p:=p) (d:=d) h1 hR (by omega)
 refine xEAAA h1 fun t1 ht1 hw1 het1 => ?_
 refine RF.mk (mt_run ht1) (RF.c hrun fun v σ2 qq => xAAA qq fun ev h2 f2 => ?_)
 subst ev
 refine RF.l (a:=stop == (Y "")) rfl ?_
 rw [hst]
 refine RF.l (a:=true) (Uon _) (RF.ct (RF.b (Uim (d:=d + 6) h2) ?_))
 refine xAAA h2.outs fun o1 o2 o3 => ?_
 have hl2:σ2.get 11 e = some (.list (adv 4 Fin "").errs):=((f1.trans f2).get (by decide)).trans hl
 refine RF.l (a:=true) (due_eq (s:=adv 4 Fin "") ho o1 o2 hl2) (RF.ct ?_)
 have hser:(adv 4 Fin "").serr = []:=by rw [(Ueq 4 Fin "").2.2.2]; exact hse
 have h8:=o3 hser
 refine xEAAA h2 fun t2 ht2 hw2 het2 => ?_
 refine RF.b (Ubs ht2) (RF.b (Um6 ht2) (RF.b1 (RF.l (a:=true) ?_ (RF.r rfl))))
 show eqV σ2 (.ref 8 τ.se) (.lst []) = _
 refine (show eqV σ2 (.ref 8 τ.se) (.lst []) = some (PyData.eqv (.list []) (.list [])) from eqG_of (Ufr h8 rfl) rfl).trans ?_
 simp [PyData.eqv,PyData.eqvAll]
noncomputable def endsL:List (Str × V):=[(Y "before attribute name",.str (Y "after attribute name")),(Y "attribute name",.str (Y "after attribute name")),(Y "before attribute value",.str (Y "attribute value (unquoted)"))]
theorem j10 {l:List Str} {st:Str} {A:List PA} {script kind head signs token due states:V} (h:TP σ τ (Fin.wi l false false)) (hm:Mid k (Fin.wi l false false)) (hk:k <= 1400) (hS:LS σ e a E as) (hE:E.length < 1000) (hF:adv 4 Fin "" = eofR B "" (j:Nat) st E A) (hs:(lk here endsL).getD (.str here) = .str st) (ho:Ov (adv 4 Fin "")) (hse:Fin.serr = []) :
   RF (J_law_10 p (callK (P p) (d + 7)) [(Y "script",script),(Y "kind",kind),(Y "head",head),(Y "signs",signs),(Y "errors",.ref 11 e),(Y "attrs",.ref 12 a),(Y "here",.str here),(Y "at",.int (j:Nat)),(Y "stop",.str (Y "")),(Y "token",token),(Y "due",due),(Y "states",states),(Y "t",.ref 2 τ.i)]) σ fun v σ' => v = .bool true:=by
 rw [Uhf]
 delta J_law_10_T0
 refine RF.er hS hE fun σ1 h1 x1 => ?_
 have hT1:=h.hx x1 h1.len
 refine xEA (reg_of h1.len (by decide:14 < 24)) fun l14 hl14 => ?_
 refine RF.b (Ui5 hl14) ?_
 have hd0:=Ubd (o:=.dict [(Y "before attribute name",.str (Y "after attribute name")),(Y "attribute name",.str (Y "after attribute name"))]) hl14
 refine RF.b (Uqg (es':=endsL) hd0 (by show 2 < lim; decide) (by kernel_rfl)) ?_
 have hd1:=Uam (o:=.dict endsL) hd0
 have hT2:TP ((σ1.add 14 (.dict [(Y "before attribute name",.str (Y "after attribute name")),(Y "attribute name",.str (Y "after attribute name"))])).put 14 l14.length (.dict endsL)) τ (Fin.wi l false false) :=
   hT1.low (fun r hr => (Uce (by omega)).trans (Ucp (by omega))) (Uav.trans (Ubi.trans h1.len))
 have he2:((σ1.add 14 (.dict [(Y "before attribute name",.str (Y "after attribute name")),(Y "attribute name",.str (Y "after attribute name"))])).put 14 l14.length (.dict endsL)).get 11 e = some (.list (adv 4 Fin "").errs):=by
   rw [Uag (by decide),Uad (by decide),h1.err,hF]; rfl
 revert hd1 hT2 he2
 generalize Store.put _ _ _ _ = σ3
 intro hd1 hT2 he2
 refine RF.b1 (RF.getm hd1 (RF.b (get_of hd1 hs) (RF.l (Uar j) ?_)))
 rw [Ujp]
 have:=j9 (p:=p) (d:=d) (stop:="") (script:=script) (kind:=kind) (head:=head) (signs:=signs) (attrs:=.ref 12 a) (hr:=.str here) (at_:=.int (j:Nat)) (token:=token) (states:=states) hT2 hm hk he2 ho hse (by rw [hF]; rfl)
 rw [show dueV e (adv 4 Fin "") = .tup [.lst [.tup [.str (Y "eof")]],.ref 11 e,.str st,.int ((j + 1:Nat):Int),.str (Y "data"),.str (Y "")] by rw [hF]; rfl] at this
 exact this
end
end Mine
end
section
open PySem PySem.W
namespace Mine
noncomputable def stopS (L:List Nat) (k:Nat):Str:=match L[k]? with
 | some c => ch c
 | none => ""
noncomputable abbrev fr8 (script kind head signs token due states:V) (e a k ti:Nat) (here stop:Str):Fr:=[(Y "script",script),(Y "kind",kind),(Y "head",head),(Y "signs",signs),(Y "errors",.ref 11 e),(Y "attrs",.ref 12 a),(Y "here",.str here),(Y "at",.int k),(Y "stop",.str stop),(Y "token",token),(Y "due",due),(Y "states",states),(Y "t",.ref 2 ti)]
section
variable {p:Params} {σ σ' σ₁ σ0:Store} {d e a:Nat} {E:List V} {as init:List At} {L:List Nat} {Q:V -> Store -> Prop} {c:CC} {x:At} {B:PD} {Fin s:PS} {k j en c0 qc K:Nat} {q:St} {here:Str} {v:V} {τ:Rf} {t:TS} {l:List Str}
theorem Uax {c:Nat} (h:L[k]? = some c):stopS L k = ch c:=by delta stopS; rw [h]
theorem Ude (h:k = L.length):stopS L k = "":=by delta stopS; rw [List.getElem?_eq_none (by omega)]
theorem eof_of {A:List PA} (hq:q = .self ∨ q = .befName ∨ q = .aftName ∨ q = .befVal ∨ q = .dq ∨ q = .sq ∨ q = .bare ∨ q = .aftVal):∃ st:Str,adv 4 (ms B "" (k:Nat) q.str E A) "" = eofR B "" (k:Nat) st E A ∧ (lk q.str endsL).getD (.str q.str) = .str st:=by
 rcases hq with rfl | rfl | rfl | rfl | rfl | rfl | rfl | rfl
 · exact ⟨_,e_more (.inl rfl),by kernel_rfl⟩
 · exact ⟨_,e_bef,by kernel_rfl⟩
 · exact ⟨_,e_aft,by kernel_rfl⟩
 · exact ⟨_,Up2,by kernel_rfl⟩
 · exact ⟨_,e_more (.inr (.inl rfl)),by kernel_rfl⟩
 · exact ⟨_,e_more (.inr (.inr (.inl rfl))),by kernel_rfl⟩
 · exact ⟨_,e_more (.inr (.inr (.inr (.inl rfl)))),by kernel_rfl⟩
 · exact ⟨_,e_more (.inr (.inr (.inr (.inr rfl)))),by kernel_rfl⟩
theorem j8 {script kind head signs token states:V} (h:TP σ τ (Fin.wi l false false)) (hm:Mid K (Fin.wi l false false)) (hK:K <= 1400) (hS:LS σ e a Fin.errs as) (hR:RP B L Fin here k E as) (hE:E.length < 900) (has:as.length < 200) (ho:Ov Fin) (hse:Fin.serr = []) :
   RF (J_law_8 p (callK (P p) (d + 7)) (fr8 script kind head signs token (dueV e Fin) states e a k τ.i here (stopS L k))) σ fun v σ' => v = .bool true:=by
 rw [Uj6]
 delta J_law_8_T0
 have hov:=ov_adv (c:="") 4 Fin ho
 have stays:∀ c:Nat,L[k]? = some c -> ofStr Fin.state = none -> RF (bnd (look (cmpV .Eq (.str (stopS L k)) (.str (Y "")))) fun x68 => if x68 then bnd (look (cmpV .Eq (.str here) (.str (Y "attribute name")))) fun x69 => (if x69 then bnd (callK (P p) (d + 7) a__law_checked [.ref 11 e,.ref 12 a,.int (k:Nat)]) fun x70 => J_law_10 p (callK (P p) (d + 7)) (fr8 script kind head signs token (dueV e Fin) states e a k τ.i here (stopS L k)) else J_law_10 p (callK (P p) (d + 7)) (fr8 script kind head signs token (dueV e Fin) states e a k τ.i here (stopS L k)))
     else J_law_9 p (callK (P p) (d + 7)) (fr8 script kind head signs token (dueV e Fin) states e a k τ.i here (stopS L k))) σ fun v σ' => v = .bool true:=fun c hc hf => by
   have hn:adv 4 Fin "" = Fin:=Ucw 4 hf
   have hst:(stopS L k == (Y "")) = false:=by rw [Uax hc]; exact ch_ne c
   refine RF.l (a:=stopS L k == (Y "")) rfl ?_
   rw [hst]
   refine RF.neg Bool.false_ne_true ?_
   rw [Uji]
   have hd:Fin.done = false:=hm.done
   have:=j9 (p:=p) (d:=d) (stop:=stopS L k) (script:=script) (kind:=kind) (head:=head) (signs:=signs) (attrs:=.ref 12 a) (hr:=.str here) (at_:=.int (k:Nat)) (token:=token) (states:=states) (e:=e) h hm hK (by rw [hn]; exact hS.err) hov hse (by rw [hn,hst,hd])
   rw [hn] at this
   exact this
 rcases hR with ⟨hg,hf⟩ | ⟨hg,hf⟩ | ⟨hl,hf,hh⟩
 · exact stays 38 hg (by rw [hf]; kernel_rfl)
 · exact stays 62 hg (by rw [hf]; kernel_rfl)
 · rw [Ude hl]
   have hes:Fin.errs = E:=by rw [hf]; rfl
   rw [hes] at hS
   refine RF.l (a:=true) (by kernel_rfl) (RF.pos rfl ?_)
   rcases hh with ⟨rfl,init,x,rfl,hKI⟩ | ⟨q,rfl,hq⟩
   · rw [Ue0] at hf
     refine RF.l (a:=true) (by kernel_rfl) (RF.pos rfl (RF.c (Ufw (d:=d + 6) (n:=k) hS hKI (by rw [List.length_append,List.length_singleton] at has; omega) (by omega)) fun v σ1 qq => xEAAA qq fun x' ex hS1 hx1 => ?_))
     have hE1:(ckE (k:Nat) E (init.map At.pl) x.pl).length < 1000:=by
       delta ckE
       split
       · rw [List.length_append,List.length_singleton]; omega
       · omega
     exact j10 (h.hx hx1 hS1.len) hm hK hS1 hE1 (by rw [hf]; exact e_name) (by kernel_rfl) hov hse
   · have hne:cmpV .Eq (.str q.str) (.str (Y "attribute name")) σ = some false:=by rcases hq with rfl | rfl | rfl | rfl | rfl | rfl | rfl | rfl <;> kernel_rfl
     refine xEAA (eof_of (B:=B) (k:=k) (E:=E) (A:=plA as) hq) fun st h1 h2 => ?_
     exact RF.l hne (RF.neg Bool.false_ne_true (j10 h hm hK hS (by omega) (by rw [hf]; exact h1) h2 hov hse))
theorem j6 {script kind head signs states:V} {token:V} (h:TP σ τ (Fin.wi l false false)) (hm:Mid K (Fin.wi l false false)) (hK:K <= 1400) (hS:LS σ e a Fin.errs as) (hR:RP B L Fin here k E as) (hE:E.length < 900) (has:as.length < 200) (ho:Ov Fin) (hse:Fin.serr = [])
   (hB:B.kind = "start" ∨ B.kind = "end") (ht:L[k]? ≠ some 62 -> token = PD.tok { B with attrs:=plA as }) :
   RF (J_law_6 p (callK (P p) (d + 7)) (fr8 script kind head signs token (dueV e Fin) states e a k τ.i here (stopS L k))) σ fun v σ' => v = .bool true:=by
 rw [Ujv]
 delta J_law_6_T0
 by_cases hg:L[k]? = some 62
 · refine RF.l (a:=false) (by rw [Uax hg]; kernel_rfl) (RF.cf (j8 h hm hK hS hR hE has ho hse))
 · have hne:(stopS L k == (Y ">")) = false:=by
     delta stopS
     cases hc:L[k]? with
     | none => kernel_rfl
     | some c => exact eqc 62 fun q => hg (by rw [hc,q])
   have hD:Fin.draft = some { B with attrs:=plA as }:=by
     rcases hR with ⟨_,hf⟩ | ⟨hf,_⟩ | ⟨_,hf,_⟩
     · rw [hf]; rfl
     · exact absurd hf hg
     · rw [hf]; rfl
   rw [ht hg]
   refine RF.l (a:=!(stopS L k == (Y ">"))) rfl ?_
   rw [hne]
   refine RF.ct ?_
   refine xEAAA h fun t hT hw het => ?_
   have hdr:t.draft.map Dr.pl = some { B with attrs:=plA as }:=by
     have:=congrArg PS.draft het
     exact this.trans hD
   refine xEAA (Option.map_eq_some_iff.mp hdr) fun dr hd hpl => ?_
   refine RF.b (Ua7 hT) ?_
   rw [hd]
   have hkind:dr.kind = B.kind:=congrArg PD.kind hpl
   have hal:dr.attrs.length = as.length:=by
     have:=congrArg (fun D => D.attrs.length) hpl
     simpa [Dr.pl,plA] using this
   refine RF.mk (Uls (hT.dr dr hd)) (RF.c (Ujb (d:=d + 6) (hT.dr dr hd) hT.len (by rw [hkind]; rcases hB with q | q <;> rw [q] <;> decide) (by omega)) fun v σ2 qq => xAAA qq fun ev h2 x2 => ?_)
   subst ev
   have hT2:TP σ2 τ (Fin.wi l false false):=⟨t,hT.dx x2 rfl rfl (fun D eD => by rw [hd] at eD; cases eD; exact h2),hw,het⟩
   have htk:dr.tok = PD.tok { B with attrs:=plA as }:=by rw [<- hpl,<- tok_eq]
   rw [htk]
   exact RF.l (a:=false) (tok_ne _) (RF.cf (j8 hT2 hm hK (hS.fx x2.fx hT2.len) hR hE has ho hse))
end
end Mine
end
section
open PySem PySem.W
namespace Mine
noncomputable def Fin2 (L:List Nat):PS:=(L.map ch).foldl (adv 4) (PS.new "tag open" "")
theorem Ubl:∀ {L:List Nat},(∀ c ∈ L,c ≠ 13) -> feedL false L = L.map ch
 | [],_ => rfl
 | c :: r,h => by
   have e:(c == 13) = false:=by simpa using h c List.mem_cons_self
   show (if (c == 13) = true then [(Y "\n")] else if (c != 10 || !false) = true then [ch c] else []) ++ feedL (c == 13) r = _
   rw [e,if_neg Bool.false_ne_true,if_pos (by simp),Ubl fun c m => h c (List.mem_cons_of_mem _ m)]
   rfl
theorem Ujs {L:List Nat} (h:∀ c ∈ L,c ≠ 13):lastR false L = false:=by
 delta lastR
 cases hl:L.getLast? with
 | none => rfl
 | some c => simpa using h c (List.mem_of_getLast? hl)
theorem Urb:Mid 0 (PS.new "tag open" ""):=by
 have hs:Sz 0 (PS.new "tag open" ""):=⟨Nat.le_refl _,Nat.le_refl _,fun D e => by cases e⟩
 refine ⟨rfl,hs,.inr ⟨rfl,⟨Int.le_refl _,hs,fun q hq => ?_⟩⟩⟩
 have:=St.inj (q:=.tagOpen) hq
 subst this; rfl
theorem Unp:∀ (l:List Str) (s:PS),Ov s -> Ov (l.foldl (adv 4) s)
 | [],s,h => h
 | c :: l,s,h => Unp l _ (ov_adv (c:=c) 4 s h)
theorem Ui4:∀ (l:List Str) (s:PS),(l.foldl (adv 4) s).serr = s.serr
 | [],s => rfl
 | c :: l,s => (Ui4 l _).trans (Ueq 4 s c).2.2.2
theorem ov_fin (L:List Nat):Ov (Fin2 L):=Unp _ _ ⟨(fun v m => by cases m),(fun v m => by cases m)⟩
theorem Ukr {L:List Nat} (h:∀ c ∈ L,c ≠ 13):(PS.new "tag open" "").feed (ofC L) = (PS.new "tag open" "").wi (L.map ch) false false:=by
 have e:(ofC L).cps.toList = L:=by delta ofC; simp
 delta PS.feed
 rw [e]
 show { PS.new "tag open" "" with signs:=[] ++ feedL false L,isret:=lastR false L } = _
 rw [Ubl h,Ujs h,List.nil_append]
 rfl
noncomputable abbrev fr4 (script kind head signs token due:V) (e a k:Nat) (here stop:Str):Fr:=[(Y "script",script),(Y "kind",kind),(Y "head",head),(Y "signs",signs),(Y "errors",.ref 11 e),(Y "attrs",.ref 12 a),(Y "here",.str here),(Y "at",.int k),(Y "stop",.str stop),(Y "token",token),(Y "due",due)]
section
variable {p:Params} {σ σ' σ₁ σ0:Store} {d e a:Nat} {E:List V} {as init:List At} {L:List Nat} {Q:V -> Store -> Prop} {c:CC} {x:At} {B:PD} {Fin s:PS} {k j en c0 qc K:Nat} {q:St} {here:Str} {v:V} {τ:Rf} {t:TS} {l:List Str}
theorem j4 {script kind head:V} {token:V} (hS:LS σ e a (Fin2 L).errs as) (hR:RP B L (Fin2 L) here k E as) (hL:L.length <= 100) (hp:∀ c ∈ L,c ∈ pool2) (hE:E.length < 900) (has:as.length < 200) (hB:B.kind = "start" ∨ B.kind = "end") (ht:L[k]? ≠ some 62 -> token = PD.tok { B with attrs:=plA as }) :
   RF (J_law_4 p (callK (P p) (d + 7)) (fr4 script kind head (sg L) token (dueV e (Fin2 L)) e a k here (stopS L k))) σ fun v σ' => v = .bool true:=by
 rw [Ujw]
 delta J_law_4_T0
 have hlen1:=hS.len
 refine xEA (reg_of hlen1 (by decide:3 < 24)) fun l3 hl3 => ?_
 refine RF.b (Ug7 hl3) ?_
 have ht2:=Ubd (o:=.dict tagEs) hl3
 have hl4:(σ.add 3 (.dict tagEs))[3]? = some (l3 ++ [.dict tagEs]):=by
   delta Store.add; rw [List.getElem?_modify,hl3]; rfl
 refine RF.upd ht2 (RF.b (Ugj hl4) ?_)
 have ht3:=Ubq (o:=.dict attrEs) hl4 ht2
 have ha3:=Ubd (o:=.dict attrEs) hl4
 refine RF.b (upd_of (es':=stEs) ht3 ha3 (by decide) (.inr (by simp)) (by kernel_rfl)) ?_
 have hst:(((σ.add 3 (.dict tagEs)).add 3 (.dict attrEs)).put 3 l3.length (.dict stEs)).get 3 l3.length = some (.dict stEs):=Uam ht3
 have keep:∀ r,r ≠ 3 -> (((σ.add 3 (.dict tagEs)).add 3 (.dict attrEs)).put 3 l3.length (.dict stEs))[r]? = σ[r]?:=fun r hr => by rw [Uce hr,Ucp hr,Ucp hr]
 have hlen4:(((σ.add 3 (.dict tagEs)).add 3 (.dict attrEs)).put 3 l3.length (.dict stEs)).length = 24:=by rw [Uav,Ubi,Ubi]; exact hlen1
 revert hst keep hlen4
 generalize ((σ.add 3 (.dict tagEs)).add 3 (.dict attrEs)).put 3 l3.length (.dict stEs) = σ4
 intro hst keep hlen4
 have g4:∀ r i,r ≠ 3 -> σ4.get r i = σ.get r i:=fun r i h => by delta Store.get; rw [keep r h]
 have hS4:LS σ4 e a (Fin2 L).errs as:=⟨hlen4,(g4 _ _ (by decide)).trans hS.err,(g4 _ _ (by decide)).trans hS.att,fun x m => (g4 _ _ (by decide)).trans (hS.each x m),hS.nd⟩
 refine RF.c (Upy (d:=d + 5) hlen4 hst "tag open") fun v σ5 qq => xEAAA qq fun τ ev hT5 f5 => ?_
 subst ev
 have hcr:∀ c ∈ L,c ≠ 13:=fun c m => by
   have:pool2.all (fun c => c != 13) = true:=by decide
   simpa using List.all_eq_true.mp this c (hp c m)
 have hxs:(ofC L).cps.toList = L:=by delta ofC; simp
 have hfeed:=Up1 (p:=p) (d:=d + 3) hT5 rfl (ofC L) (fun c m => by rw [hxs] at m; exact Uc4 (hp c m)) (by rw [hxs]; show 0 + L.length < 5000; omega)
 rw [Ukr hcr] at hfeed
 obtain ⟨⟨m,hmm,hRun⟩,hMid⟩:=Umv (s:=PS.new "tag open" "") Urb rfl (ofC L) (fun c m => by
   rw [hxs] at m
   have m:c ∈ feedL false L:=m
   rw [Ubl hcr] at m
   refine xEAA (List.mem_map.mp m) fun n mn qz1 => ?_; subst qz1
   exact ⟨okS (Uc4 (hp n mn)),by have:=ch_ne n; simpa using this⟩) (by rw [hxs]; show 0 + 4 * (feedL false L).length <= 1500; rw [Ubl hcr,List.length_map]; omega)
 rw [hxs,Ukr hcr] at hRun hMid
 have hfl:feedL (PS.new "tag open" "").isret L = L.map ch:=Ubl hcr
 rw [hxs,hfl] at hmm
 rw [hfl,Uoe] at hRun hMid
 rw [List.length_map] at hmm hMid
 have hwt:=hT5
 refine xEAAA hwt fun t5 ht5 hw5 het5 => ?_
 refine RF.mk (Ur0 ht5) (RF.ms (id:=.join) (by kernel_rfl) (by decide) (RF.b (Unt L (by omega)) ?_))
 rw [Uky]
 refine RF.c (Q₁:=fun (v:V) σ' => v = V.none ∧ TP σ' τ ((PS.new "tag open" "").wi (L.map ch) false false) ∧ Fx σ5 σ') hfeed fun v σ6 qq => xAAA qq fun w0 hT6 f6 => ?_
 have hrun:=Uoo (p:=p) (d:=d) hT6 hRun (by omega)
 refine xEAAA hT6 fun t6 ht6 hw6 het6 => ?_
 refine RF.mk (mt_run ht6) (RF.c hrun fun v σ7 qq => xAAA qq fun ev hT7 f7 => ?_)
 subst ev
 have hT7:TP σ7 τ ((Fin2 L).wi (L.map ch) false false):=hT7
 have hMid:Mid (0 + 4 * L.length) ((Fin2 L).wi (L.map ch) false false):=hMid
 have hdn:(Fin2 L).done = false:=hMid.done
 have hS7:=hS4.fx (f5.trans (f6.trans f7)) hT7.len
 show RF (cond (Fin2 L).done _ _) σ7 _
 rw [hdn]
 refine RF.cf (RF.b (Uim (d:=d + 6) hT7) ?_)
 refine xAAA hT7.outs fun o1 o2 w0 => ?_
 refine RF.l (a:=false) (due_ne (s:=Fin2 L) (ov_fin L) o1 o2 hS7.err) (RF.cf ?_)
 have hwt:=hT7
 refine xEAAA hwt fun t7 ht7 hw7 het7 => ?_
 refine RF.b (Ua7 ht7) ?_
 have hdf:t7.draft.map Dr.pl = (Fin2 L).draft:=congrArg PS.draft het7
 have hgt:(stopS L k == (Y ">")) = decide (L[k]? = some 62):=by
   delta stopS
   cases hc:L[k]? with
   | none => kernel_rfl
   | some c =>
     show (ch c == ch 62) = _
     rw [Uan,Bool.eq_iff_iff]
     simp
 have hnone:cmpV .Is (drV t7.draft) .none σ7 = some (decide (L[k]? = some 62)):=by
   by_cases hg:L[k]? = some 62
   · rw [decide_eq_true hg]
     have:(Fin2 L).draft = none:=by
       rcases hR with ⟨h1,_⟩ | ⟨_,hf⟩ | ⟨h1,_⟩
       · rw [h1] at hg; cases hg
       · rw [hf]; rfl
       · rw [List.getElem?_eq_none (by omega)] at hg; cases hg
     rw [this] at hdf
     rw [Option.map_eq_none_iff.mp hdf]
     rfl
   · rw [decide_eq_false hg]
     have:∃ D,(Fin2 L).draft = some D:=by
       rcases hR with ⟨_,hf⟩ | ⟨h1,_⟩ | ⟨_,hf,_⟩
       · exact ⟨_,by rw [hf]; rfl⟩
       · exact absurd h1 hg
       · exact ⟨_,by rw [hf]; rfl⟩
     refine xEA this fun D hD => ?_
     rw [hD] at hdf
     refine xEAA (Option.map_eq_some_iff.mp hdf) fun dr hdr w0 => ?_
     rw [hdr]
     rfl
 refine RF.l hnone (RF.l (a:=stopS L k == (Y ">")) rfl ?_)
 rw [hgt]
 exact RF.l (a:=false) (Urx _) (RF.cf (j6 hT7 hMid (by omega) hS7 hR hE has (ov_fin L) (Ui4 _ _) hB ht))
end
end Mine
end
section
open PySem PySem.W
namespace Mine
section
variable {p:Params} {σ σ' σ₁ σ0:Store} {d e a:Nat} {E:List V} {as init:List At} {L:List Nat} {Q:V -> Store -> Prop} {c:CC} {x:At} {B:PD} {Fin s:PS} {k j en c0 qc K:Nat} {q:St} {here kd:Str} {v:V} {τ:Rf} {t:TS} {l:List Str}
noncomputable abbrev Bk (kd:Str):PD:=⟨kd,"a",false,[]⟩
noncomputable abbrev fr3 (script head:V) (kd:Str) (signs:V) (e a k:Nat) (here stop:Str) (r:Fr):Fr:=(Y "script",script) :: (Y "kind",.str kd) :: (Y "head",head) :: (Y "signs",signs) :: (Y "errors",.ref 11 e) :: (Y "attrs",.ref 12 a) :: (Y "here",.str here) :: (Y "at",.int k) :: (Y "stop",.str stop) :: r
theorem ne_nil (h:LS σ e a E as):cmpV .NotEq (.ref 12 a) (.lst []) σ = some (decide (0 < as.length)):=by
 have hl:∀ l:List At,(∀ b ∈ l,b ∈ as) -> toDs σ 7 (l.map fun x => .ref 13 x.i) = some (l.map fun x => PyData.list [.str x.n,.str x.v,.bool x.k]):=fun l => by
   induction l with
   | nil => intro _; rfl
   | cons b r ih =>
     intro hb
     exact Ubx (Ufr (h.each b (hb b List.mem_cons_self)) rfl) (ih fun c m => hb c (List.mem_cons_of_mem _ m))
 show (eqV σ (.ref 12 a) (.lst [])).map (!·) = _
 rw [show eqV σ (.ref 12 a) (.lst []) = some (PyData.eqv (.list (as.map fun x => PyData.list [.str x.n,.str x.v,.bool x.k])) (.list [])) from eqG_of (Ufr h.att (hl as fun b m => m)) rfl]
 cases as with
 | nil => simp [PyData.eqv,PyData.eqvAll]
 | cons b r => simp [PyData.eqv,PyData.eqvAll]
theorem j7 {script head token:V} {cl:Bool} (hf:Fin2 L = outS (Bk kd) "" k E (plA as) cl) (hk:kd = "start" ∨ kd = "end") (htk:token = PD.tok ⟨kd,"a",cl,plA as⟩) (hS:LS σ e a (Fin2 L).errs as) (hR:RP (Bk kd) L (Fin2 L) here k E as) (hg:L[k]? = some 62) (hL:L.length <= 100) (hp:∀ c ∈ L,c ∈ pool2) (hE:E.length < 900) (has:as.length < 200) {due:V} :
   RF (J_law_7 p (callK (P p) (d + 7)) (fr3 script head kd (sg L) e a k here (stopS L k) [(Y "token",token),(Y "due",due)])) σ fun v σ' => v = .bool true:=by
 rw [Ujy]
 delta J_law_7_T0
 have fin:=j4 (p:=p) (d:=d) (script:=script) (kind:=.str kd) (head:=head) (token:=token) hS hR hL hp hE has hk (fun q => absurd hg q)
 refine RF.b1 (RF.l (Uar k) ?_)
 have hd:∀ la:Str,(if kd == (Y "start") then (Y "a") else "") = la -> dueV e (Fin2 L) = .tup [.lst [token],.ref 11 e,.str (Y "data"),.int ((k + 1:Nat):Int),.str (Y "data"),.str la]:=fun la h => by
   rw [hf,htk,<- h]
   rfl
 rcases hk with rfl | rfl
 · refine RF.l (a:=true) (by kernel_rfl) (RF.pos rfl ?_)
   rw [hd (Y "a") (by kernel_rfl)] at fin
   exact fin
 · refine RF.l (a:=false) (by kernel_rfl) (RF.neg Bool.false_ne_true ?_)
   rw [hd (Y "") (by kernel_rfl)] at fin
   exact fin
theorem j3 {script head token:V} (hS:LS σ e a E as) (hR:RP (Bk kd) L (Fin2 L) here k E as) (hk:kd = "start" ∨ kd = "end") (htk:token = PD.tok ⟨kd,"a",stopS L k == (Y ">") && here == (Y "self-closing start tag"),plA as⟩) (hL:L.length <= 100) (hp:∀ c ∈ L,c ∈ pool2) (hE:E.length < 890) (has:as.length < 200) :
   RF (J_law_3 p (callK (P p) (d + 7)) (fr3 script head kd (sg L) e a k here (stopS L k) [(Y "token",token)])) σ fun v σ' => v = .bool true:=by
 rw [Uj5]
 delta J_law_3_T0
 refine RF.b1 ?_
 have hR':=hR
 rcases hR with ⟨hg,hf⟩ | ⟨hg,hf⟩ | ⟨hl,hf,hh⟩
 · have htk':token = PD.tok { Bk kd with attrs:=plA as }:=by rw [htk,Uax hg,show (ch 38 == (Y ">")) = false by kernel_rfl]; rfl
   have fin:=j4 (p:=p) (d:=d) (script:=script) (kind:=.str kd) (head:=head) (token:=token) (B:=Bk kd) (by rw [hf]; exact hS) hR' hL hp (by omega) has hk (fun w0 => htk')
   rw [show dueV e (Fin2 L) = .tup [.lst [],.ref 11 e,.str (Y "character reference"),.int ((k + 1:Nat):Int),.str here,.str (Y "")] by rw [hf]; rfl] at fin
   refine RF.l (a:=true) (by rw [Uax hg]; kernel_rfl) (RF.pos rfl (RF.b1 (RF.l (Uar k) fin)))
 · refine RF.l (a:=false) (by rw [Uax hg]; kernel_rfl) (RF.neg Bool.false_ne_true (RF.l (a:=true) (by rw [Uax hg]; kernel_rfl) (RF.pos rfl ?_)))
   have htk':token = PD.tok ⟨kd,"a",here == (Y "self-closing start tag"),plA as⟩:=by rw [htk,Uax hg,show (ch 62 == (Y ">")) = true by kernel_rfl]; rfl
   generalize hcl:(here == (Y "self-closing start tag")) = cl at hf htk'
   have hal:(plA as).length = as.length:=by delta plA; rw [List.length_map]
   rcases hk with rfl | rfl
   · have he:(Fin2 L).errs = E:=by
       rw [hf]
       show fE (Y "start") k E (plA as) cl = E
       delta fE
       rw [show ((Y "start") == "end") = false by kernel_rfl]
       rfl
     refine RF.l (a:=false) (by kernel_rfl) (RF.cf ?_)
     rw [Ufm]
     delta J_law_5_T0
     refine RF.l (a:=false) (by kernel_rfl) (RF.cf (j7 hf (.inl rfl) htk' (by rw [he]; exact hS) hR' hg hL hp (by omega) has))
   · have j5:∀ {σ1:Store} {E1:List V} {due:V},LS σ1 e a E1 as -> E1.length < 900 -> E1 = (if 0 < as.length then E ++ [errV "end-tag-with-attributes" k] else E) ->
         RF (J_law_5 p (callK (P p) (d + 7)) (fr3 script head (Y "end") (sg L) e a k here (stopS L k) [(Y "token",token),(Y "due",due)])) σ1 fun v σ' => v = .bool true:=fun {σ1 E1 due} h1 hl1 e1 => by
       have he:(Fin2 L).errs = if cl then E1 ++ [errV "end-tag-with-trailing-solidus" k] else E1:=by
         rw [hf,e1]
         show fE (Y "end") k E (plA as) cl = _
         delta fE
         rw [show ((Y "end") == "end") = true by kernel_rfl,hal]
         simp
       rw [Ufm]
       delta J_law_5_T0
       refine RF.l (a:=true) (by kernel_rfl) (RF.ct (RF.l (a:=.bool cl) (by rw [htk']; kernel_rfl) ?_))
       show RF (cond cl _ _) σ1 _
       cases cl with
       | true => exact RF.ct (RF.er h1 (by omega) fun σ2 h2 w0 => j7 hf (.inr rfl) htk' (by rw [he]; exact h2) hR' hg hL hp (by omega) has)
       | false => exact RF.cf (j7 hf (.inr rfl) htk' (by rw [he]; exact h1) hR' hg hL hp (by omega) has)
     refine RF.l (a:=true) (by kernel_rfl) (RF.ct (RF.b1 (RF.l (ne_nil hS) ?_)))
     by_cases h0:0 < as.length
     · rw [decide_eq_true h0]
       exact RF.ct (RF.er hS (by omega) fun σ2 h2 w0 => j5 h2 (by rw [List.length_append,List.length_singleton]; omega) (by rw [if_pos h0]; rfl))
     · rw [decide_eq_false h0]
       exact RF.cf (j5 hS (by omega) (by rw [if_neg h0]))
 · have htk':token = PD.tok { Bk kd with attrs:=plA as }:=by rw [htk,Ude hl,show ((Y "") == (Y ">")) = false by kernel_rfl]; rfl
   have fin:=j4 (p:=p) (d:=d) (script:=script) (kind:=.str kd) (head:=head) (token:=token) (B:=Bk kd) (by rw [hf]; exact hS) hR' hL hp (by omega) has hk (fun w0 => htk')
   rw [show dueV e (Fin2 L) = .tup [.lst [],.ref 11 e,.str here,.int (k:Nat),.str (Y "data"),.str (Y "")] by rw [hf]; rfl] at fin
   exact RF.l (a:=false) (by rw [Ude hl]; kernel_rfl) (RF.neg Bool.false_ne_true (RF.l (a:=false) (by rw [Ude hl]; kernel_rfl) (RF.neg Bool.false_ne_true fin)))
theorem j2 {script head:V} (hS:LS σ e a E as) (hR:RP (Bk kd) L (Fin2 L) here k E as) (hk:kd = "start" ∨ kd = "end") (hL:L.length <= 100) (hp:∀ c ∈ L,c ∈ pool2) (hE:E.length < 890) (has:as.length < 200) :
   RF (J_law_2 p (callK (P p) (d + 7)) (fr3 script head kd (sg L) e a k here (stopS L k) [])) σ fun v σ' => v = .bool true:=by
 rw [Ujq]
 delta J_law_2_T0
 have hkc:(kd == (Y "comment")) = false:=by rcases hk with rfl | rfl <;> kernel_rfl
 refine RF.l (a:=stopS L k == (Y ">")) rfl ?_
 cases hc:stopS L k == (Y ">") with
 | true => exact RF.ct (RF.l (a:=here == (Y "self-closing start tag")) rfl (RF.b (Uik (d:=d + 6) hS has kd hkc _) (j3 hS hR hk (by rw [hc]; rfl) hL hp hE has)))
 | false => exact RF.cf (RF.b (Uik (d:=d + 6) hS has kd hkc false) (j3 hS hR hk (by rw [hc]; rfl) hL hp hE has))
theorem Uq3 (S hd:List Nat) (h:(hd.map ch).foldl (adv 4) (PS.new "tag open" "") = ms (Bk kd) "" (hd.length:Nat) "before attribute name" [] []):Fq (Bk kd) (hd ++ S) (Fin2 (hd ++ S)) hd.length "before attribute name" [] []:=by
 delta Fq Fin2
 rw [List.drop_left,List.map_append,List.foldl_append,h]
theorem j1 (ns:List Int) {hd:List Nat} (hk:kd = "start" ∨ kd = "end") (hh:(hd.map ch).foldl (adv 4) (PS.new "tag open" "") = ms (Bk kd) "" (hd.length:Nat) "before attribute name" [] []) (hl:hd.length <= 10) (hm:∀ c ∈ hd,c ∈ pool2) (hlen:σ.length = 24) :
   RF (J_law_1 p (callK (P p) (d + 7)) [(Y "script",.lst (ns.map .int)),(Y "kind",.str kd),(Y "head",sg hd)]) σ fun v σ' => v = .bool true:=by
 rw [Uj3]
 delta J_law_1_T0
 have h24:=Ulm ns
 have hL:(hd ++ signs2 ns).length <= 100:=by rw [List.length_append]; omega
 have hp:∀ c ∈ hd ++ signs2 ns,c ∈ pool2:=fun c m => (List.mem_append.mp m).elim (hm c) (Umh ns c)
 refine RF.b (Up8 (d:=d + 6) ns) (RF.l (sg_add hd (signs2 ns) (by omega)) ?_)
 refine xEA (reg_of hlen (by decide:11 < 24)) fun l11 hl11 => ?_
 refine RF.b (Ugx hl11) ?_
 have hlen1:(σ.add 11 (.list [])).length = 24:=Ubi.trans hlen
 refine xEA (reg_of hlen1 (by decide:12 < 24)) fun l12 hl12 => ?_
 refine RF.b (Ugx hl12) (RF.b (sg_len hd) ?_)
 have hS:LS ((σ.add 11 (.list [])).add 12 (.list [])) l11.length l12.length [] [] :=
   ⟨Ubi.trans hlen1,Ubq hl12 (Ubd hl11),Ubd hl12,(fun x m => by cases m),List.nodup_nil⟩
 refine RF.c (Upw (d:=d + 4) hS (by rw [List.length_append]; omega) hL hp rfl (Uq3 (signs2 ns) hd hh)) fun v σ2 qq => xEEEEAAAAAA qq fun here k E as ev hk2 hS2 hE hA hR => ?_
 subst ev
 generalize hd ++ signs2 ns = L at *
 show RF (bnd (builtinV .len [sg L]) _) σ2 _
 refine RF.b (sg_len L) (RF.l (lt_int k L.length) ?_)
 by_cases hlt:k < L.length
 · rw [decide_eq_true hlt]
   have hg:=List.getElem?_eq_getElem hlt
   generalize L[k] = c0 at hg
   have:=j2 (p:=p) (d:=d) (script:=.lst (ns.map .int)) (head:=sg hd) hS2 hR hk hL hp (by omega) (by omega)
   rw [Uax hg] at this
   exact RF.pos rfl (RF.l (Ub2 hg) this)
 · rw [decide_eq_false hlt]
   have:=j2 (p:=p) (d:=d) (script:=.lst (ns.map .int)) (head:=sg hd) hS2 hR hk hL hp (by omega) (by omega)
   rw [Ude (by omega)] at this
   exact RF.neg Bool.false_ne_true this
theorem j0 (ns:List Int) (hk:kd = "start" ∨ kd = "end") (hlen:σ.length = 24):RF (J_law_0 p (callK (P p) (d + 7)) [(Y "script",.lst (ns.map .int)),(Y "kind",.str kd)]) σ fun v σ' => v = .bool true:=by
 rw [Ujx]
 delta J_law_0_T0
 rcases hk with rfl | rfl
 · exact RF.l (a:=false) (by kernel_rfl) (RF.neg Bool.false_ne_true (RF.b1 (j1 ns (hd:=[97,32]) (.inl rfl) (by kernel_rfl) (by decide) (by decide) hlen)))
 · exact RF.l (a:=true) (by kernel_rfl) (RF.pos rfl (RF.b1 (j1 ns (hd:=[47,97,32]) (.inr rfl) (by kernel_rfl) (by decide) (by decide) hlen)))
theorem mod2 (b:Int):binV .Mod (.int b) (.int 2) σ = some (.int (b.fmod 2)):=by
 show (if (0:Int) < 2 then some (V.int (b.fmod 2)) else none) = _
 exact if_pos (by decide)
theorem Upu (ns:List Int) (hlen:σ.length = 24):Run (callK (P p) (d + 8) a_law [.lst (ns.map .int)]) σ fun v σ' => v = .bool true:=by
 rw [B_law]
 show RF _ σ _
 delta F_law
 have hn:cmpV .NotEq (.lst (ns.map .int)) (.lst []) σ = some (decide (ns ≠ [])):=by
   show (eqV σ (.lst (ns.map .int)) (.lst [])).map (!·) = _
   have hl:∀ l:List Int,toDs σ 7 (l.map .int) = some (l.map PyData.int):=fun l => by
     induction l with
     | nil => rfl
     | cons b r ih => exact Ubx rfl ih
   rw [show eqV σ (.lst (ns.map .int)) (.lst []) = some (PyData.eqv (.list (ns.map .int)) (.list [])) from eqG_of (Unz (hl ns)) rfl]
   cases ns with
   | nil => simp [PyData.eqv,PyData.eqvAll]
   | cons b r => simp [PyData.eqv,PyData.eqvAll]
 refine RF.b1 (RF.l hn ?_)
 cases ns with
 | nil => exact RF.cf (j0 [] (.inl rfl) hlen)
 | cons b r =>
   refine RF.ct (RF.l (a:=.int b) rfl (RF.l (a:=.int (b.fmod 2)) (mod2 b) (RF.l (a:=b.fmod 2 == 1) rfl ?_)))
   cases b.fmod 2 == 1 with
   | true => exact RF.ct (j0 (b :: r) (.inr rfl) hlen)
   | false => exact RF.cf (j0 (b :: r) (.inl rfl) hlen)
end
theorem lawOk2:LawOk:=by
 intro p ns _
 refine xEEAA (Upu (p:=p) (d:=12) (σ:=List.replicate 24 []) ns rfl) fun v σ' e qz1 => ?_; subst qz1
 exact ⟨σ',Uke 20 a_law [.lst (ns.map .int)] _ _ e⟩
end Mine
end
theorem PySem.Challenge.cw_nt0611_02_holds : PySem.Challenge.rw_nt0611_02.Holds :=
 Mine.fin Mine.lawOk2

